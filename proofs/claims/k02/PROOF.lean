import PyProof.Rows.All
import Wide.All
import OpenK.AllK
import Wide.FinOn
import HandS.ForMost
import HandS.Wide
import HandS.Flow
import HandS.Defaults
import HandS.Exc
import HandS.ExcOwn
import HandS.TryOnly
import HandS.TryMany
import HandS.WordsExc
import HandS.IsInst
import HandS.Comp
import HandS.Style
import PyProof.P3Eq
import HandS.Dict
import HandS.Text
import HandS.Deep
import PyProof.StrBlock2
import HandS.TupAny
import PyProof.ReprRoads
import PyProof.ReprLen
import HandS.Iter
import HandS.SortKw
import HandS.Conv
import KE.DataMinMax
import HandS.SortRule
import HandS.SortInts
import KE.KEqDict
import PyProof.EqKinds
import KE.GoesEnum
import HandS.Codes
import KE.RegKIsAll
import HandS.Replace
import PySem.Challenge.RW_stacksaw_k02_numbers_and_words
set_option Elab.async false
set_option linter.all false
set_option maxRecDepth 100000
set_option autoImplicit false
namespace Z
open PySem PySem.Spec PyProof.Rows L2

/-! ## defs under a clear guard (repr needs it) -/
structure FnG (P : Program) (w : World) (K : PySem.W.Frag) (mg : Str → Option Value) (base : Heap) (CX : CXT) (k : Nat) (f : Addr) (fd : FuncData) (ps : List Str) (sp : Sp) : Prop where
  len : ∀ vs H Q E, sp vs H Q E → vs.length = ps.length
  go : ∀ (A : Around) (outer : List Env) (s : Shared) (H : Hp) (args : Args) (us : List Value) (vs : List V) (Q : VK) (E : XK),
    Room k A → A.guards = some [] → Env0 P w K mg base A outer s H → BindsTo s fd args (ps.zip us) → Vals vs us → sp vs H Q E →
    codeAny (model P w) A (.call (.ref f) args) (CR CX outer P w H s Q E) s

section
variable {P : Program} {w : World} {K : PySem.W.Frag} {mg : Str → Option Value} {base : Heap} {CX : CXT}
theorem fnG_of {k : Nat} {f : Addr} {name qual : Str} {params : Arguments} {body : List Stmt} {scope : Scope} {dV kV doc pm cdv ct oc : Value} {an od : Option Addr}
    {osl : Array (Option Value)} {N ps : List Str} {sp : Sp}
    (lk : K.lookup f = some ⟨oc, od, .func (PySem.W.fnOf name qual params body scope dV kV doc pm an cdv ct), osl⟩)
    (hcd : PySem.W.codeIn K cdv qual = true) (S : FnScope N ps scope) (len : ∀ vs H Q E, sp vs H Q E → vs.length = ps.length)
    (hb : ∀ (A : Around) (outer : List Env) (s : Shared) (H : Hp) (vs : List V) (Q : VK) (E : XK),
      Room k (A.deeper (envOfC qual scope s.heap.objs.size f cdv)) → A.guards = some [] → sp vs H Q E →
      ∃ t, PSs (cxOf CX P w K mg base N qual scope f cdv A outer s H E) body t ∧ t { nx := fun _ H' => Q .non H', rt := Q } (start N vs) H) :
    FnG P w K mg base CX (k + 1) f (PySem.W.fnOf name qual params body scope dV kV doc pm an cdv ct) ps sp := by
  constructor
  · exact len
  intro A outer s H args us vs Q E hr hgd e0 hbt rv hsp
  have kIn : K.In s.heap := e0.mod.kin.keeps fun b o e => (e0.bs b o e).1
  have nolim : s.heap.NoLimit := e0.mod.nolimit.keeps fun b o e => (e0.bs b o e).1
  have lv := len vs H Q E hsp
  have kinds : ∀ q ∈ ps.zip us, scope.names.lookup q.1 = some .local ∨ (scope.names.lookup q.1 = some .cell ∧ ((cellsFrom (s.heap.objs.size + 1) scope.names []).lookup q.1).isSome = true) := by
    intro q hq
    obtain ⟨n, v⟩ := q
    cases S.par n (List.of_mem_zip hq).1 with
    | inl z => exact Or.inl z
    | inr z => exact Or.inr ⟨z, PySem.W.cellsFrom_some scope.names _ [] (Or.inl z)⟩
  apply codeAny_call_function hr.depth (kIn _ _ lk) rfl S.co S.gen rfl (PySem.W.codeRec_of kIn hcd) (hbt _ _ _ _ _)
  apply wpAny_newFunctionEnv_cells S.kind kinds
  intro env hv s1 hx
  subst hv
  refine ⟨nolim.keeps hx.toInCall.keep, codeAny_func ?_⟩
  have hI := inv_start (CX := CX) (E := E) (mg := mg) S hr.hd e0 lv rv hx
  obtain ⟨t, hp, ht⟩ := hb A outer s H vs Q E (Room.deeper hr _) hgd hsp
  apply wpAny_mono (hp.run [] s1 _ H _ hI ht)
  · intro fl s' hs
    cases fl with
    | brk => exact absurd hs (fun ⟨_, _, _, z⟩ => z)
    | cont => exact absurd hs (fun ⟨_, _, _, z⟩ => z)
    | next =>
      obtain ⟨σ', H', J, q⟩ := hs
      exact ⟨V.non, H', J.os, J.bare, J.base, J.hok, rfl, q⟩
    | ret u =>
      obtain ⟨v, σ', H', J, rv', q⟩ := hs
      exact ⟨v, H', J.os, J.bare, J.base, J.hok, rv', q⟩
  · intro e s' hs
    exact hs
theorem okG {x qual : Str} {st : Stmt} {f : Addr} {fd : FuncData} {N ps : List Str} {k : Nat} {sp : Sp} (F : Fun K x qual st f fd) (S : FnScope N ps (defScope st)) (len : ∀ vs H Q E, sp vs H Q E → vs.length = ps.length)
    (hb : ∀ (cdv : Value) (A : Around) (outer : List Env) (s : Shared) (H : Hp) (vs : List V) (Q : VK) (E : XK),
      Room k (A.deeper (envOfC qual (defScope st) s.heap.objs.size f cdv)) → A.guards = some [] → sp vs H Q E →
      ∃ t, PSs (cxOf CX P w K mg base N qual (defScope st) f cdv A outer s H E) (defBody st) t ∧ t { nx := fun _ H' => Q .non H', rt := Q } (start N vs) H) :
    FnG P w K mg base CX (k + 1) f fd ps sp := by
  obtain ⟨oc, od, kV, doc, pm, an, cdv, ct, osl, e, lk, hcd⟩ := F.ex
  subst e
  exact fnG_of lk hcd S len (fun A outer s H vs Q E => hb cdv A outer s H vs Q E)
theorem okGD {x qual : Str} {params : Arguments} {body : List Stmt} {scope : Scope} {dvs : List V} {kws : List (Str × V)} {f : Addr} {fd : FuncData} {N ps : List Str} {k : Nat} {sp : Sp}
    (F : FunD K x qual params body scope dvs kws f fd) (S : FnScope N ps scope) (len : ∀ vs H Q E, sp vs H Q E → vs.length = ps.length)
    (hb : ∀ (cdv : Value) (A : Around) (outer : List Env) (s : Shared) (H : Hp) (vs : List V) (Q : VK) (E : XK),
      Room k (A.deeper (envOfC qual scope s.heap.objs.size f cdv)) → A.guards = some [] → sp vs H Q E →
      ∃ t, PSs (cxOf CX P w K mg base N qual scope f cdv A outer s H E) body t ∧ t { nx := fun _ H' => Q .non H', rt := Q } (start N vs) H) :
    FnG P w K mg base CX (k + 1) f fd ps sp := by
  obtain ⟨oc, od, dV, kV, doc, pm, an, cdv, ct, osl, e, lk, hcd, h1, h2⟩ := F.ex
  subst e
  exact fnG_of lk hcd S len (fun A outer s H vs Q E => hb cdv A outer s H vs Q E)
theorem guards_deeper {A : Around} {env : Env} (h : A.guards = some []) : (A.deeper env).guards = some [] := h
end

section
variable {X : Cx} {CX : CXT} {k : Nat} {f C : Addr} {fd : FuncData} {ps : List Str} {sp : Sp} {dvs : List V} {ds : List Value} {E : L2.St → XK} {x m : Str} {p pos apos : Pos} {e o : Expr} {es : List Expr} {ta : TE} {t : TA}
theorem run_fG {pins : List (Addr × Obj)} {σ : L2.St} {H : Hp} {s : Shared} {Q : VK} {us : List Value} {vs : List V} (F : FnG X.prog X.w X.K X.mg X.base CX k f fd ps sp) (hr : Room k X.A) (hG : X.A.guards = some [])
    (hb : Binds X.K fd ps ds) (hd : Vals dvs ds) (hx : PassesAt CX X σ (E σ)) (I : Inv X pins σ H s) (r : Vals vs us) (h : sp (vs ++ dvs) H Q (E σ)) :
    wpAny (model X.prog X.w) X.A (call (.ref f) us) (EP X pins σ Q) X.xe s := by
  have rr := Vals.append r hd
  have ll : (us ++ ds).length = ps.length := rr.length ▸ F.len _ _ _ _ h
  apply wpAny_call
  apply codeAny_mono (F.go X.A X.stack s H ⟨us, []⟩ (us ++ ds) (vs ++ dvs) Q (E σ) hr hG I.env0 (hb s us I.kIn ll) rr h)
  intro res s' hq
  match res, hq with
  | .error e, hq => exact hx pins H s e s' I hq
  | .ok (.ret u), hq => exact I.after hq
/-- f(e, ..): what leaves it may speak of the slots -/
def tCl (sp : Sp) (dvs : List V) (E : L2.St → XK) (t : TA) : TE := fun σ H Q => t σ H fun vs H1 => sp (vs ++ dvs) H1 Q (E σ)
def tMt (C : Addr) (m : Str) (sp : Sp) (dvs : List V) (E : L2.St → XK) (ta : TE) (t : TA) : TE := fun σ H Q => ta σ H fun x H1 => ∃ a dx fs, x = .ref a ∧ H1 a = some (.ins C dx fs) ∧ fs.lookup m = none ∧
  t σ H1 fun vs H2 => sp (x :: (vs ++ dvs)) H2 Q (E σ)
def tMk (C : Addr) (sp : Sp) (dvs : List V) (E : L2.St → XK) (t : TA) : TE := fun σ H Q => t σ H fun vs H1 => ∀ x dx, H1 x = none → H1 dx = none → dx ≠ x →
  sp (.ref x :: (vs ++ dvs)) (upd (upd H1 dx (.own x)) x (.ins C dx [])) (fun v H2 => v = .non ∧ Q (.ref x) H2) (E σ)
theorem pe_cl (F : FnG X.prog X.w X.K X.mg X.base CX k f fd ps sp) (hr : Room k X.A) (hG : X.A.guards = some []) (hg : Gl X x) (hm : X.mg x = some (.ref f)) (hk : PySem.W.keepIn X.K (.ref f) = true)
    (hb : Binds X.K fd ps ds) (hd : Vals dvs ds) (hx : ∀ σ, PassesAt CX X σ (E σ)) (ha : PA X (e :: es) t) (hdb : (x == ("__debug__" : Str)) = false := by decide)
    (he : starEach (e :: es) X.env = (false, eval e X.env) :: starEach es X.env := by rfl) (hpl : (backTo pos (starEach es X.env)).any (·.1) = false := by rfl) :
    PE X (.Call (.Name x p) (e :: es) [] pos) (tCl sp dvs E t) := by
  constructor
  intro pins s σ H Q I h
  apply wpAny_Call_Name_kw
  apply ld_glob I hg hm _ hdb
  apply PySem.W.callWith_K (h₀ := X.base) I.ok.mod.kin hk _ he hpl
  apply thn (ha.run pos pins s σ H _ I h)
  intro us s1 ⟨vs, H1, I1, r, q⟩
  exact ⟨I1.kIn, run_fG F hr hG hb hd (hx σ) I1 r q⟩
theorem pe_cl0 (F : FnG X.prog X.w X.K X.mg X.base CX k f fd ps sp) (hr : Room k X.A) (hG : X.A.guards = some []) (hg : Gl X x) (hm : X.mg x = some (.ref f)) (hk : PySem.W.keepIn X.K (.ref f) = true)
    (hb : Binds X.K fd ps ds) (hd : Vals dvs ds) (hx : ∀ σ, PassesAt CX X σ (E σ)) (hdb : (x == ("__debug__" : Str)) = false := by decide) : PE X (.Call (.Name x p) [] [] pos) (tCl sp dvs E tNil) := by
  constructor
  intro pins s σ H Q I h
  apply wpAny_Call_Name_kw
  apply ld_glob I hg hm _ hdb
  exact PySem.W.callWith_K0 I.kIn hk (run_fG (us := []) F hr hG hb hd (hx σ) I .nil h)
theorem pe_mt {pl : Sem Bool} (he : PE X o ta) (c : Cls X.K C) (hm : Meth X.K C m f) (F : FnG X.prog X.w X.K X.mg X.base CX k f fd ps sp) (hr : Room k X.A) (hG : X.A.guards = some []) (hb : Binds X.K fd ps ds) (hd : Vals dvs ds)
    (hx : ∀ σ, PassesAt CX X σ (E σ)) (ha : PA X (e :: es) t)
    (hst : starEach (e :: es) X.env = (false, eval e X.env) :: starEach es X.env := by rfl) (hpl : (backTo pos (starEach es X.env)).any (·.1) = false := by rfl)
    (ht : eval (.Call (.Attribute o m apos) (e :: es) [] pos) X.env = (do
      let a ← eval o X.env
      standAt apos.atName
      let (g, l) ← holding [a] (getMethod a m pl)
      callWith pos g l (backTo pos (starEach (e :: es) X.env)) (backToKw pos (keywordEach [] X.env))) := by rfl) :
    PE X (.Call (.Attribute o m apos) (e :: es) [] pos) (tMt C m sp dvs E ta t) := by
  constructor
  intro pins s σ H Q I h
  refine PySem.W.methodCall_KW (pl := pl) (thn (he.run pins s σ H _ I h) ?_) ht
  intro u s1 ⟨x, H1, I1, rx, a, dx, fs, ex, ea, l, q⟩
  subst ex
  have eu : u = Value.ref a := rx
  subst eu
  apply getmeth_ok I1 ea c hm l
  refine PySem.W.callWith_K (first := [.ref a]) (h₀ := X.base) I.ok.mod.kin hm.kp ?_ hst hpl
  apply thn (ha.run pos pins s1 σ H1 _ I1 q)
  intro us s2 ⟨vs, H2, I2, r, q2⟩
  exact ⟨I2.kIn, run_fG (us := .ref a :: us) (vs := .ref a :: vs) F hr hG hb hd (hx σ) I2 (.cons rfl r) q2⟩
theorem pe_mt0 {pl : Sem Bool} (he : PE X o ta) (c : Cls X.K C) (hm : Meth X.K C m f) (F : FnG X.prog X.w X.K X.mg X.base CX k f fd ps sp) (hr : Room k X.A) (hG : X.A.guards = some []) (hb : Binds X.K fd ps ds) (hd : Vals dvs ds)
    (hx : ∀ σ, PassesAt CX X σ (E σ))
    (ht : eval (.Call (.Attribute o m apos) [] [] pos) X.env = (do
      let a ← eval o X.env
      standAt apos.atName
      let (g, l) ← holding [a] (getMethod a m pl)
      callWith pos g l (backTo pos (starEach [] X.env)) (backToKw pos (keywordEach [] X.env))) := by rfl) :
    PE X (.Call (.Attribute o m apos) [] [] pos) (tMt C m sp dvs E ta tNil) := by
  constructor
  intro pins s σ H Q I h
  refine PySem.W.methodCall_KW (pl := pl) (thn (he.run pins s σ H _ I h) ?_) ht
  intro u s1 ⟨x, H1, I1, rx, a, dx, fs, ex, ea, l, q⟩
  subst ex
  have eu : u = Value.ref a := rx
  subst eu
  apply getmeth_ok I1 ea c hm l
  exact PySem.W.callWith_K0 (first := [.ref a]) I1.kIn hm.kp (run_fG (us := [.ref a]) (vs := [.ref a]) F hr hG hb hd (hx σ) I1 (.cons rfl .nil) q)
theorem guards_make {A : Around} {C : Addr} {us : List Value} {kw : List (Str × Value)} (h : A.guards = some []) : (A.under (.builtin "type.__call__" ⟨.ref C :: us, kw⟩)).guards = some [] := by
  first
    | exact h
    | simp [Around.under, pushGuards, Code.guards, Code.isGuard, guardIds, h]
theorem run_mkG {pins : List (Addr × Obj)} {σ : L2.St} {H : Hp} {s : Shared} {Q : VK} {us : List Value} {vs : List V} (M : Mk X.K C f) (F : FnG X.prog X.w X.K X.mg X.base CX k f fd ps sp) (hr : Room (k + 1) X.A) (hG : X.A.guards = some [])
    (hb : Binds X.K fd ps ds) (hd : Vals dvs ds) (hx : ∀ pins H s e s', Inv X pins σ H s → CX X.stack H s (E σ) e s' → X.xe e s') (I : Inv X pins σ H s) (r : Vals vs us)
    (h : ∀ x dx, H x = none → H dx = none → dx ≠ x → sp (.ref x :: (vs ++ dvs)) (upd (upd H dx (.own x)) x (.ins C dx [])) (fun v H2 => v = .non ∧ Q (.ref x) H2) (E σ)) :
    wpAny (model X.prog X.w) X.A (call (.ref C) us) (EP X pins σ Q) X.xe s := by
  have n1 : H (s.heap.objs.size + 1) = none := I.hok.fresh (Nat.le_succ _)
  have n2 : H s.heap.objs.size = none := I.hok.fresh (Nat.le_refl _)
  have hq := h (s.heap.objs.size + 1) s.heap.objs.size n1 n2 (Nat.ne_of_lt (Nat.lt_succ_self _))
  have J := Inv.made (C := C) I
  have rr : Vals (V.ref (s.heap.objs.size + 1) :: (vs ++ dvs)) (Value.ref (s.heap.objs.size + 1) :: (us ++ ds)) := Paired.cons rfl (Vals.append r hd)
  have ll : (Value.ref (s.heap.objs.size + 1) :: us ++ ds).length = ps.length := (F.len _ _ _ _ hq) ▸ rr.length.symm
  apply wpAny_call
  apply make_map (f := f) I.kIn M.makes M.init (beq_iff_eq.mp M.fn)
  refine codeAny_mono (F.go _ X.stack _ _ ⟨Value.ref (s.heap.objs.size + 1) :: us, []⟩ (Value.ref (s.heap.objs.size + 1) :: (us ++ ds)) _ _ (E σ) (hr.make C us []) (guards_make hG)
    (J.env0.make C us []) (hb _ (Value.ref (s.heap.objs.size + 1) :: us) J.kIn ll) rr hq) ?_
  intro res s' hq'
  match res, hq' with
  | .error e, hq' => exact hx pins _ _ e s' J hq'
  | .ok (.ret u), hq' =>
    obtain ⟨v, H', I3, rv, ev, q3⟩ := J.after hq'
    subst ev
    exact ⟨rv, ⟨V.ref (s.heap.objs.size + 1), H', I3, rfl, q3⟩⟩
theorem pe_mk (M : Mk X.K C f) (F : FnG X.prog X.w X.K X.mg X.base CX k f fd ps sp) (hr : Room (k + 1) X.A) (hG : X.A.guards = some []) (hg : Gl X x) (hm : X.mg x = some (.ref C)) (hb : Binds X.K fd ps ds) (hd : Vals dvs ds)
    (hx : ∀ σ, PassesAt CX X σ (E σ)) (ha : PA X (e :: es) t) (hdb : (x == ("__debug__" : Str)) = false := by decide)
    (he : starEach (e :: es) X.env = (false, eval e X.env) :: starEach es X.env := by rfl) (hpl : (backTo pos (starEach es X.env)).any (·.1) = false := by rfl) :
    PE X (.Call (.Name x p) (e :: es) [] pos) (tMk C sp dvs E t) := by
  constructor
  intro pins s σ H Q I h
  apply wpAny_Call_Name_kw
  apply ld_glob I hg hm _ hdb
  apply PySem.W.callWith_K (h₀ := X.base) I.ok.mod.kin M.kp _ he hpl
  apply thn (ha.run pos pins s σ H _ I h)
  intro us s1 ⟨vs, H1, I1, r, q⟩
  exact ⟨I1.kIn, run_mkG M F hr hG hb hd (fun pins H s e s' J c => hx σ pins H s e s' J c) I1 r q⟩
theorem pe_mk0 (M : Mk X.K C f) (F : FnG X.prog X.w X.K X.mg X.base CX k f fd ps sp) (hr : Room (k + 1) X.A) (hG : X.A.guards = some []) (hg : Gl X x) (hm : X.mg x = some (.ref C)) (hb : Binds X.K fd ps ds) (hd : Vals dvs ds)
    (hx : ∀ σ, PassesAt CX X σ (E σ)) (hdb : (x == ("__debug__" : Str)) = false := by decide) : PE X (.Call (.Name x p) [] [] pos) (tMk C sp dvs E tNil) := by
  constructor
  intro pins s σ H Q I h
  apply wpAny_Call_Name_kw
  apply ld_glob I hg hm _ hdb
  exact PySem.W.callWith_K0 I.kIn M.kp (run_mkG (us := []) M F hr hG hb hd (fun pins H s e s' J c => hx σ pins H s e s' J c) I .nil h)
end
end Z

namespace Y
open PySem PySem.Spec PyProof.Rows L2 Z

/-! ## data -/
inductive D where
  | non | bl (b : Bool) | int (i : Int) | str (x : Str) | lst (xs : List D) | tup (xs : List D) | dic (kvs : List (Key × D)) | obj (c : Nat) (fs : List (Str × D)) | cel (n : Nat) (d : D)
/-- the written part, where the classes stand, the shared lists and dicts -/
structure KC where
  K : PySem.W.Frag
  cl : Nat → Addr
  nc : Nat
  tg : Addr → Option Nat

mutual
inductive R (G : KC) (F : Hp) : V → D → Prop
  | non : R G F .non .non
  | bl (b : Bool) : R G F (.bl b) (.bl b)
  | int (i : Int) : R G F (.int i) (.int i)
  | str (x : Str) : R G F (.str x) (.str x)
  | lst {a : Addr} {vs : List V} {ds : List D} : F a = some (.lst vs) → G.tg a = none → RA G F vs ds → R G F (.ref a) (.lst ds)
  | tup {a : Addr} {vs : List V} {ds : List D} : SqT G.K F a vs → RA G F vs ds → R G F (.ref a) (.tup ds)
  | dic {a : Addr} {vs : List (Key × V)} {ds : List (Key × D)} : Rd F a (.dK vs) → G.tg a = none → RK G F vs ds → R G F (.ref a) (.dic ds)
  | obj {a dx : Addr} {c : Nat} {vs : List (Str × V)} {ds : List (Str × D)} : F a = some (.ins (G.cl c) dx vs) → (c < G.nc ∧ ∀ p ∈ ds, NoAttr G.K (G.cl c) p.1) → RS G F vs ds → R G F (.ref a) (.obj c ds)
  | cl {a : Addr} {n : Nat} {vs : List V} {ds : List D} : F a = some (.lst vs) → G.tg a = some n → RA G F vs ds → R G F (.ref a) (.cel n (.lst ds))
  | cd {a : Addr} {n : Nat} {vs : List (Key × V)} {ds : List (Key × D)} : Rd F a (.dK vs) → G.tg a = some n → RK G F vs ds → R G F (.ref a) (.cel n (.dic ds))
inductive RA (G : KC) (F : Hp) : List V → List D → Prop
  | nil : RA G F [] []
  | cons {v : V} {vs : List V} {d : D} {ds : List D} : R G F v d → RA G F vs ds → RA G F (v :: vs) (d :: ds)
inductive RK (G : KC) (F : Hp) : List (Key × V) → List (Key × D) → Prop
  | nil : RK G F [] []
  | cons {k : Key} {v : V} {vs : List (Key × V)} {d : D} {ds : List (Key × D)} : R G F v d → RK G F vs ds → RK G F ((k, v) :: vs) ((k, d) :: ds)
inductive RS (G : KC) (F : Hp) : List (Str × V) → List (Str × D) → Prop
  | nil : RS G F [] []
  | cons {k : Str} {v : V} {vs : List (Str × V)} {d : D} {ds : List (Str × D)} : R G F v d → RS G F vs ds → RS G F ((k, v) :: vs) ((k, d) :: ds)
end

section
variable {G : KC} {F F' F2 H H' H2 : Hp}
theorem same_rd {a : Addr} {u : HO} (e : Same F F') (h : Rd F a u) : Rd F' a u := h.elim (fun z => Or.inl (e _ _ z)) (fun ⟨o, z⟩ => Or.inr ⟨o, e _ _ z⟩)
theorem same_l {K : PySem.W.Frag} {a : Addr} {xs : List L2.V} (e : Same F F') (h : SqL K F a xs) : SqL K F' a xs := h.elim (fun z => Or.inl (same_rd e z)) Or.inr
theorem same_t {K : PySem.W.Frag} {a : Addr} {xs : List L2.V} (e : Same F F') (h : SqT K F a xs) : SqT K F' a xs := h.elim (fun z => Or.inl (same_rd e z)) Or.inr
mutual
theorem R.mono (e : Same F F') : ∀ {v : L2.V} {d : D}, R G F v d → R G F' v d
  | _, _, .non => .non
  | _, _, .bl b => .bl b
  | _, _, .int i => .int i
  | _, _, .str x => .str x
  | _, _, .lst h z r => .lst (e _ _ h) z (RA.mono e r)
  | _, _, .tup h r => .tup (same_t e h) (RA.mono e r)
  | _, _, .dic h z r => .dic (same_rd e h) z (RK.mono e r)
  | _, _, .obj h z r => .obj (e _ _ h) z (RS.mono e r)
  | _, _, .cl h z r => .cl (e _ _ h) z (RA.mono e r)
  | _, _, .cd h z r => .cd (same_rd e h) z (RK.mono e r)
theorem RA.mono (e : Same F F') : ∀ {vs : List L2.V} {ds : List D}, RA G F vs ds → RA G F' vs ds
  | _, _, .nil => .nil
  | _, _, .cons h r => .cons (R.mono e h) (RA.mono e r)
theorem RK.mono (e : Same F F') : ∀ {vs : List (Key × L2.V)} {ds : List (Key × D)}, RK G F vs ds → RK G F' vs ds
  | _, _, .nil => .nil
  | _, _, .cons h r => .cons (R.mono e h) (RK.mono e r)
theorem RS.mono (e : Same F F') : ∀ {vs : List (Str × L2.V)} {ds : List (Str × D)}, RS G F vs ds → RS G F' vs ds
  | _, _, .nil => .nil
  | _, _, .cons h r => .cons (R.mono e h) (RS.mono e r)
end
theorem RA.len : ∀ {vs : List L2.V} {ds : List D}, RA G F vs ds → vs.length = ds.length
  | _, _, .nil => rfl
  | _, _, .cons _ r => congrArg Nat.succ (RA.len r)
theorem RA.get : ∀ {vs : List L2.V} {ds : List D}, RA G F vs ds → ∀ (i : Nat) (d : D), ds[i]? = some d → ∃ v, vs[i]? = some v ∧ R G F v d
  | _, _, .nil, i, d, h => by simp at h
  | _, _, .cons h r, 0, d, e => by
    simp at e
    subst e
    exact ⟨_, rfl, h⟩
  | _, _, .cons h r, i + 1, d, e => by
    simp at e
    obtain ⟨v, h1, h2⟩ := RA.get r i d e
    exact ⟨v, by simpa using h1, h2⟩
theorem RA.getV : ∀ {vs : List L2.V} {ds : List D}, RA G F vs ds → ∀ (i : Nat) (v : L2.V), vs[i]? = some v → ∃ d, ds[i]? = some d ∧ R G F v d
  | _, _, .nil, i, d, h => by simp at h
  | _, _, .cons h r, 0, d, e => by
    simp at e
    subst e
    exact ⟨_, rfl, h⟩
  | _, _, .cons h r, i + 1, d, e => by
    simp at e
    obtain ⟨v, h1, h2⟩ := RA.getV r i d e
    exact ⟨v, by simpa using h1, h2⟩
theorem RA.append : ∀ {vs ws : List L2.V} {ds es : List D}, RA G F vs ds → RA G F ws es → RA G F (vs ++ ws) (ds ++ es)
  | _, _, _, _, .nil, s => s
  | _, _, _, _, .cons h r, s => .cons h (RA.append r s)
theorem RA.take : ∀ {vs : List L2.V} {ds : List D} (n : Nat), RA G F vs ds → RA G F (vs.take n) (ds.take n)
  | _, _, 0, _ => .nil
  | _, _, _ + 1, .nil => .nil
  | _, _, n + 1, .cons h r => .cons h (RA.take n r)
theorem RA.drop : ∀ {vs : List L2.V} {ds : List D} (n : Nat), RA G F vs ds → RA G F (vs.drop n) (ds.drop n)
  | _, _, 0, r => r
  | _, _, _ + 1, .nil => .nil
  | _, _, n + 1, .cons _ r => RA.drop n r
theorem RA.reverse : ∀ {vs : List L2.V} {ds : List D}, RA G F vs ds → RA G F vs.reverse ds.reverse
  | _, _, .nil => .nil
  | _, _, .cons h r => by
    rw [List.reverse_cons, List.reverse_cons]
    exact (RA.reverse r).append (.cons h .nil)
theorem RA.ints : ∀ (ns : List Int), RA G F (ns.map V.int) (ns.map D.int)
  | [] => .nil
  | n :: ns => .cons (.int n) (RA.ints ns)
theorem RA.of_ints : ∀ {vs : List L2.V} {ns : List Int}, RA G F vs (ns.map D.int) → vs = ns.map V.int
  | _, [], .nil => rfl
  | _, n :: ns, .cons (.int _) r => congrArg (V.int n :: ·) (RA.of_ints r)
theorem RA.of_bools : ∀ {vs : List L2.V} {ns : List Bool}, RA G F vs (ns.map D.bl) → vs = ns.map V.bl
  | _, [], .nil => rfl
  | _, n :: ns, .cons (.bl _) r => congrArg (V.bl n :: ·) (RA.of_bools r)
theorem RA.of_strs : ∀ {vs : List L2.V} {ns : List Str}, RA G F vs (ns.map D.str) → vs = ns.map V.str
  | _, [], .nil => rfl
  | _, n :: ns, .cons (.str _) r => congrArg (V.str n :: ·) (RA.of_strs r)
theorem RA.strs : ∀ (ns : List Str), RA G F (ns.map V.str) (ns.map D.str)
  | [] => .nil
  | n :: ns => .cons (.str n) (RA.strs ns)
theorem RA.snoc {vs : List L2.V} {ds : List D} {v : L2.V} {d : D} (h : RA G F vs ds) (g : R G F v d) : RA G F (vs ++ [v]) (ds ++ [d]) := h.append (.cons g .nil)
theorem RA.one {vs : List L2.V} {d : D} (h : RA G F vs [d]) : ∃ v, vs = [v] ∧ R G F v d := by
  cases h with
  | cons r1 r2 =>
    cases r2
    exact ⟨_, rfl, r1⟩
theorem RA.two {vs : List L2.V} {d e : D} (h : RA G F vs [d, e]) : ∃ v w, vs = [v, w] ∧ R G F v d ∧ R G F w e := by
  cases h with
  | cons r1 r2 =>
    obtain ⟨w, rfl, r3⟩ := r2.one
    exact ⟨_, _, rfl, r1, r3⟩
theorem RA.reps {vs : List L2.V} {ds : List D} (h : RA G F vs ds) : ∀ n : Nat, RA G F (List.replicate n vs).flatten (List.replicate n ds).flatten
  | 0 => .nil
  | n + 1 => by
    rw [List.replicate_succ, List.replicate_succ, List.flatten_cons, List.flatten_cons]
    exact h.append (RA.reps h n)
/-- a scalar -/
def sca : D → Bool
  | .non => true
  | .bl _ => true
  | .int _ => true
  | .str _ => true
  | _ => false
theorem R.sca {v : L2.V} {d : D} (h : R G F v d) (s : sca d = true) : R G F' v d := by
  cases h <;> first | exact .non | exact .bl _ | exact .int _ | exact .str _ | cases s

/-- what grows: F to F', the heap around it H to H' -/
structure Gr (F H F' H' : Hp) : Prop where
  f : Same F F'
  h : Same H H'
  s : Same F' H'
  n : ∀ a o, F' a = some o → F a = some o ∨ H a = none
theorem Gr.refl (e : Same F H) : Gr F H F H := ⟨.refl _, .refl _, e, fun _ _ z => Or.inl z⟩
theorem Gr.trans {F3 H3 : Hp} (g : Gr F H F' H') (k : Gr F' H' F3 H3) : Gr F H F3 H3 :=
  ⟨g.f.trans k.f, g.h.trans k.h, k.s, fun a o z => (k.n a o z).elim (fun y => g.n a o y) fun y => Or.inr (g.h.free y)⟩
theorem Gr.no {p : Addr} (g : Gr F H F' H') (h : F p = none) {o : HO} (t : H p = some o) : F' p = none := by
  cases e : F' p with
  | none => rfl
  | some u =>
    rcases g.n p u e with z | z
    · rw [h] at z; cases z
    · rw [t] at z; cases z
/-- a new object -/
theorem same_new {p : Addr} {o : HO} (h : H p = none) : Same H (upd H p o) := fun a u z => by rw [upd_ne (ne_of_none z h)]; exact z
theorem Gr.new {p : Addr} {o : HO} (g : Gr F H F' H') (h : H' p = none) : Gr F H (upd F' p o) (upd H' p o) := by
  have hf : F' p = none := g.s.free h
  refine ⟨g.f.trans (same_new hf), g.h.trans (same_new h), fun a u z => ?_, fun a u z => ?_⟩
  · by_cases e : a = p
    · subst e; rw [upd_same] at z ⊢; exact z
    · rw [upd_ne e] at z ⊢; exact g.s a u z
  · by_cases e : a = p
    · subst e; exact Or.inr (g.h.free h)
    · rw [upd_ne e] at z; exact g.n a u z
theorem Gr.newH {p : Addr} {o : HO} (g : Gr F H F' H') (h : H' p = none) : Gr F H F' (upd H' p o) :=
  ⟨g.f, g.h.trans (same_new h), g.s.trans (same_new h), g.n⟩
end

/-! ## what is owned -/
/-- fz: frozen (what is no list, no dict, no object at its place is frozen, too) -/
inductive T where
  | fz | lst (t : T) | dic (t : T) | obj (fts : List (Str × T))
def fty (fts : List (Str × T)) (k : Str) : T := (fts.lookup k).getD .fz
/-- without the mark of a shared one -/
def un : D → D
  | .cel _ d => d
  | d => d
def isL : D → Bool
  | .lst _ => true
  | _ => false
def isD : D → Bool
  | .dic _ => true
  | _ => false
def isO : D → Bool
  | .obj _ _ => true
  | _ => false
mutual
inductive Own (G : KC) (F H : Hp) : T → L2.V → D → List Addr → Prop
  | fz {v : L2.V} {d : D} : R G F v d → Own G F H .fz v d []
  | nl {t : T} {v : L2.V} {d : D} : R G F v d → isL d = false → Own G F H (.lst t) v d []
  | nd {t : T} {v : L2.V} {d : D} : R G F v d → isD d = false → Own G F H (.dic t) v d []
  | no {fts : List (Str × T)} {v : L2.V} {d : D} : R G F v d → isO d = false → Own G F H (.obj fts) v d []
  | lst {t : T} {a : Addr} {vs : List L2.V} {ds : List D} {fp : List Addr} : H a = some (.lst vs) → G.tg a = none → OwnA G F H t vs ds fp → Own G F H (.lst t) (.ref a) (.lst ds) (a :: fp)
  | dic {t : T} {a : Addr} {vs : List (Key × L2.V)} {ds : List (Key × D)} {fp : List Addr} : H a = some (.dK vs) → G.tg a = none → OwnK G F H t vs ds fp → Own G F H (.dic t) (.ref a) (.dic ds) (a :: fp)
  | obj {fts : List (Str × T)} {a dx : Addr} {c : Nat} {vs : List (Str × L2.V)} {ds : List (Str × D)} {fp : List Addr} : H a = some (.ins (G.cl c) dx vs) → (c < G.nc ∧ ∀ p ∈ ds, NoAttr G.K (G.cl c) p.1) → OwnS G F H fts vs ds fp → Own G F H (.obj fts) (.ref a) (.obj c ds) (a :: fp)
inductive OwnA (G : KC) (F H : Hp) : T → List L2.V → List D → List Addr → Prop
  | nil {t : T} : OwnA G F H t [] [] []
  | cons {t : T} {v : L2.V} {vs : List L2.V} {d : D} {ds : List D} {fp fq : List Addr} : Own G F H t v d fp → OwnA G F H t vs ds fq → OwnA G F H t (v :: vs) (d :: ds) (fp ++ fq)
inductive OwnK (G : KC) (F H : Hp) : T → List (Key × L2.V) → List (Key × D) → List Addr → Prop
  | nil {t : T} : OwnK G F H t [] [] []
  | cons {t : T} {k : Key} {v : L2.V} {vs : List (Key × L2.V)} {d : D} {ds : List (Key × D)} {fp fq : List Addr} : Own G F H t v d fp → OwnK G F H t vs ds fq → OwnK G F H t ((k, v) :: vs) ((k, d) :: ds) (fp ++ fq)
inductive OwnS (G : KC) (F H : Hp) : List (Str × T) → List (Str × L2.V) → List (Str × D) → List Addr → Prop
  | nil {fts : List (Str × T)} : OwnS G F H fts [] [] []
  | cons {fts : List (Str × T)} {k : Str} {v : L2.V} {vs : List (Str × L2.V)} {d : D} {ds : List (Str × D)} {fp fq : List Addr} : Own G F H (fty fts k) v d fp → OwnS G F H fts vs ds fq → OwnS G F H fts ((k, v) :: vs) ((k, d) :: ds) (fp ++ fq)
end
mutual
inductive RT (G : KC) (F U : Hp) : T → L2.V → D → Prop
  | fr {t : T} {v : L2.V} {d : D} : R G F v d → RT G F U t v d
  | lst {t : T} {a : Addr} {vs : List L2.V} {ds : List D} : U a = some (.lst vs) → G.tg a = none → RTA G F U t vs ds → RT G F U (.lst t) (.ref a) (.lst ds)
  | dic {t : T} {a : Addr} {vs : List (Key × L2.V)} {ds : List (Key × D)} : Rd U a (.dK vs) → G.tg a = none → RTK G F U t vs ds → RT G F U (.dic t) (.ref a) (.dic ds)
  | obj {fts : List (Str × T)} {a dx : Addr} {c : Nat} {vs : List (Str × L2.V)} {ds : List (Str × D)} : U a = some (.ins (G.cl c) dx vs) → (c < G.nc ∧ ∀ p ∈ ds, NoAttr G.K (G.cl c) p.1) → RTS G F U fts vs ds → RT G F U (.obj fts) (.ref a) (.obj c ds)
inductive RTA (G : KC) (F U : Hp) : T → List L2.V → List D → Prop
  | nil {t : T} : RTA G F U t [] []
  | cons {t : T} {v : L2.V} {vs : List L2.V} {d : D} {ds : List D} : RT G F U t v d → RTA G F U t vs ds → RTA G F U t (v :: vs) (d :: ds)
inductive RTK (G : KC) (F U : Hp) : T → List (Key × L2.V) → List (Key × D) → Prop
  | nil {t : T} : RTK G F U t [] []
  | cons {t : T} {k : Key} {v : L2.V} {vs : List (Key × L2.V)} {d : D} {ds : List (Key × D)} : RT G F U t v d → RTK G F U t vs ds → RTK G F U t ((k, v) :: vs) ((k, d) :: ds)
inductive RTS (G : KC) (F U : Hp) : List (Str × T) → List (Str × L2.V) → List (Str × D) → Prop
  | nil {fts : List (Str × T)} : RTS G F U fts [] []
  | cons {fts : List (Str × T)} {k : Str} {v : L2.V} {vs : List (Str × L2.V)} {d : D} {ds : List (Str × D)} : RT G F U (fty fts k) v d → RTS G F U fts vs ds → RTS G F U fts ((k, v) :: vs) ((k, d) :: ds)
end
section
variable {G : KC} {F F' H H' U U' : Hp}
mutual
theorem RT.mono (e : Same F F') (g : Same U U') : ∀ {t : T} {v : L2.V} {d : D}, RT G F U t v d → RT G F' U' t v d
  | _, _, _, .fr r => .fr (r.mono e)
  | _, _, _, .lst h z r => .lst (g _ _ h) z (RTA.mono e g r)
  | _, _, _, .dic h z r => .dic (same_rd g h) z (RTK.mono e g r)
  | _, _, _, .obj h z r => .obj (g _ _ h) z (RTS.mono e g r)
theorem RTA.mono (e : Same F F') (g : Same U U') : ∀ {t : T} {v : List L2.V} {d : List D}, RTA G F U t v d → RTA G F' U' t v d
  | _, _, _, .nil => .nil
  | _, _, _, .cons h r => .cons (RT.mono e g h) (RTA.mono e g r)
theorem RTK.mono (e : Same F F') (g : Same U U') : ∀ {t : T} {v : List (Key × L2.V)} {d : List (Key × D)}, RTK G F U t v d → RTK G F' U' t v d
  | _, _, _, .nil => .nil
  | _, _, _, .cons h r => .cons (RT.mono e g h) (RTK.mono e g r)
theorem RTS.mono (e : Same F F') (g : Same U U') : ∀ {t : List (Str × T)} {v : List (Str × L2.V)} {d : List (Str × D)}, RTS G F U t v d → RTS G F' U' t v d
  | _, _, _, .nil => .nil
  | _, _, _, .cons h r => .cons (RT.mono e g h) (RTS.mono e g r)
end
mutual
theorem RT.r (e : Same F U) : ∀ {t : T} {v : L2.V} {d : D}, RT G F U t v d → R G U v d
  | _, _, _, .fr r => r.mono e
  | _, _, _, .lst h z r => .lst h z (RTA.r e r)
  | _, _, _, .dic h z r => .dic h z (RTK.r e r)
  | _, _, _, .obj h z r => .obj h z (RTS.r e r)
theorem RTA.r (e : Same F U) : ∀ {t : T} {v : List L2.V} {d : List D}, RTA G F U t v d → RA G U v d
  | _, _, _, .nil => .nil
  | _, _, _, .cons h r => .cons (RT.r e h) (RTA.r e r)
theorem RTK.r (e : Same F U) : ∀ {t : T} {v : List (Key × L2.V)} {d : List (Key × D)}, RTK G F U t v d → RK G U v d
  | _, _, _, .nil => .nil
  | _, _, _, .cons h r => .cons (RT.r e h) (RTK.r e r)
theorem RTS.r (e : Same F U) : ∀ {t : List (Str × T)} {v : List (Str × L2.V)} {d : List (Str × D)}, RTS G F U t v d → RS G U v d
  | _, _, _, .nil => .nil
  | _, _, _, .cons h r => .cons (RT.r e h) (RTS.r e r)
end
theorem RT.fz {v : L2.V} {d : D} (h : RT G F U .fz v d) : R G F v d := by cases h with | fr r => exact r
theorem RTA.fz : ∀ {v : List L2.V} {d : List D}, RTA G F U .fz v d → RA G F v d
  | _, _, .nil => .nil
  | _, _, .cons h r => .cons h.fz (RTA.fz r)
theorem RTK.fz : ∀ {v : List (Key × L2.V)} {d : List (Key × D)}, RTK G F U .fz v d → RK G F v d
  | _, _, .nil => .nil
  | _, _, .cons h r => .cons h.fz (RTK.fz r)
theorem RTA.fr {t : T} : ∀ {v : List L2.V} {d : List D}, RA G F v d → RTA G F U t v d
  | _, _, .nil => .nil
  | _, _, .cons h r => .cons (.fr h) (RTA.fr r)
theorem RTK.fr {t : T} : ∀ {v : List (Key × L2.V)} {d : List (Key × D)}, RK G F v d → RTK G F U t v d
  | _, _, .nil => .nil
  | _, _, .cons h r => .cons (.fr h) (RTK.fr r)
theorem RTS.fr {t : List (Str × T)} : ∀ {v : List (Str × L2.V)} {d : List (Str × D)}, RS G F v d → RTS G F U t v d
  | _, _, .nil => .nil
  | _, _, .cons h r => .cons (.fr h) (RTS.fr r)
theorem RTA.len {t : T} : ∀ {v : List L2.V} {d : List D}, RTA G F U t v d → v.length = d.length
  | _, _, .nil => rfl
  | _, _, .cons h r => congrArg Nat.succ (RTA.len r)
theorem RTA.get {t : T} : ∀ {vs : List L2.V} {ds : List D}, RTA G F U t vs ds → ∀ (i : Nat) (d : D), ds[i]? = some d → ∃ v, vs[i]? = some v ∧ RT G F U t v d
  | _, _, .nil, i, d, h => by simp at h
  | _, _, .cons h r, 0, d, e => by
    simp at e
    subst e
    exact ⟨_, rfl, h⟩
  | _, _, .cons h r, i + 1, d, e => by
    simp at e
    obtain ⟨v, h1, h2⟩ := RTA.get r i d e
    exact ⟨v, by simpa using h1, h2⟩
/-- a list of any standing: its items -/
theorem RT.isList {t : T} {v : L2.V} {ds : List D} (e : Same F U) (h : RT G F U (.lst t) v (.lst ds)) : ∃ a vs, v = .ref a ∧ U a = some (.lst vs) ∧ RTA G F U t vs ds := by
  cases h with
  | fr r => cases r with | lst h z r => exact ⟨_, _, rfl, e _ _ h, .fr r⟩
  | lst h z r => exact ⟨_, _, rfl, h, r⟩
theorem RT.isDic {t : T} {v : L2.V} {ds : List (Key × D)} (e : Same F U) (h : RT G F U (.dic t) v (.dic ds)) : ∃ a vs, v = .ref a ∧ Rd U a (.dK vs) ∧ RTK G F U t vs ds := by
  cases h with
  | fr r => cases r with | dic h z r => exact ⟨_, _, rfl, same_rd e h, .fr r⟩
  | dic h z r => exact ⟨_, _, rfl, h, r⟩
theorem RT.isObj {t : List (Str × T)} {v : L2.V} {c : Nat} {ds : List (Str × D)} (e : Same F U) (h : RT G F U (.obj t) v (.obj c ds)) : ∃ a dx vs, v = .ref a ∧ U a = some (.ins (G.cl c) dx vs) ∧ RTS G F U t vs ds := by
  cases h with
  | fr r => cases r with | obj h z r => exact ⟨_, _, _, rfl, e _ _ h, .fr r⟩
  | obj h z r => exact ⟨_, _, _, rfl, h, r⟩
/-! owned, then read -/
mutual
theorem Own.rt : ∀ {t : T} {v : L2.V} {d : D} {fp : List Addr}, Own G F H t v d fp → (∀ a ∈ fp, ∀ o, H a = some o → U a = some o) → RT G F U t v d
  | _, _, _, _, .fz r, _ => .fr r
  | _, _, _, _, .nl r _, _ => .fr r
  | _, _, _, _, .nd r _, _ => .fr r
  | _, _, _, _, .no r _, _ => .fr r
  | _, _, _, _, .lst h z r, k => .lst (k _ List.mem_cons_self _ h) z (OwnA.rt r fun a ha => k a (List.mem_cons_of_mem _ ha))
  | _, _, _, _, .dic h z r, k => .dic (Or.inl (k _ List.mem_cons_self _ h)) z (OwnK.rt r fun a ha => k a (List.mem_cons_of_mem _ ha))
  | _, _, _, _, .obj h z r, k => .obj (k _ List.mem_cons_self _ h) z (OwnS.rt r fun a ha => k a (List.mem_cons_of_mem _ ha))
theorem OwnA.rt : ∀ {t : T} {v : List L2.V} {d : List D} {fp : List Addr}, OwnA G F H t v d fp → (∀ a ∈ fp, ∀ o, H a = some o → U a = some o) → RTA G F U t v d
  | _, _, _, _, .nil, _ => .nil
  | _, _, _, _, .cons h r, k => .cons (Own.rt h fun a ha => k a (List.mem_append_left _ ha)) (OwnA.rt r fun a ha => k a (List.mem_append_right _ ha))
theorem OwnK.rt : ∀ {t : T} {v : List (Key × L2.V)} {d : List (Key × D)} {fp : List Addr}, OwnK G F H t v d fp → (∀ a ∈ fp, ∀ o, H a = some o → U a = some o) → RTK G F U t v d
  | _, _, _, _, .nil, _ => .nil
  | _, _, _, _, .cons h r, k => .cons (Own.rt h fun a ha => k a (List.mem_append_left _ ha)) (OwnK.rt r fun a ha => k a (List.mem_append_right _ ha))
theorem OwnS.rt : ∀ {t : List (Str × T)} {v : List (Str × L2.V)} {d : List (Str × D)} {fp : List Addr}, OwnS G F H t v d fp → (∀ a ∈ fp, ∀ o, H a = some o → U a = some o) → RTS G F U t v d
  | _, _, _, _, .nil, _ => .nil
  | _, _, _, _, .cons h r, k => .cons (Own.rt h fun a ha => k a (List.mem_append_left _ ha)) (OwnS.rt r fun a ha => k a (List.mem_append_right _ ha))
end
mutual
theorem Own.mono (e : Same F F') : ∀ {t : T} {v : L2.V} {d : D} {fp : List Addr}, Own G F H t v d fp → (∀ a ∈ fp, ∀ o, H a = some o → H' a = some o) → Own G F' H' t v d fp
  | _, _, _, _, .fz r, _ => .fz (r.mono e)
  | _, _, _, _, .nl r i, _ => .nl (r.mono e) i
  | _, _, _, _, .nd r i, _ => .nd (r.mono e) i
  | _, _, _, _, .no r i, _ => .no (r.mono e) i
  | _, _, _, _, .lst h z r, k => .lst (k _ List.mem_cons_self _ h) z (OwnA.mono e r fun a ha => k a (List.mem_cons_of_mem _ ha))
  | _, _, _, _, .dic h z r, k => .dic (k _ List.mem_cons_self _ h) z (OwnK.mono e r fun a ha => k a (List.mem_cons_of_mem _ ha))
  | _, _, _, _, .obj h z r, k => .obj (k _ List.mem_cons_self _ h) z (OwnS.mono e r fun a ha => k a (List.mem_cons_of_mem _ ha))
theorem OwnA.mono (e : Same F F') : ∀ {t : T} {v : List L2.V} {d : List D} {fp : List Addr}, OwnA G F H t v d fp → (∀ a ∈ fp, ∀ o, H a = some o → H' a = some o) → OwnA G F' H' t v d fp
  | _, _, _, _, .nil, _ => .nil
  | _, _, _, _, .cons h r, k => .cons (Own.mono e h fun a ha => k a (List.mem_append_left _ ha)) (OwnA.mono e r fun a ha => k a (List.mem_append_right _ ha))
theorem OwnK.mono (e : Same F F') : ∀ {t : T} {v : List (Key × L2.V)} {d : List (Key × D)} {fp : List Addr}, OwnK G F H t v d fp → (∀ a ∈ fp, ∀ o, H a = some o → H' a = some o) → OwnK G F' H' t v d fp
  | _, _, _, _, .nil, _ => .nil
  | _, _, _, _, .cons h r, k => .cons (Own.mono e h fun a ha => k a (List.mem_append_left _ ha)) (OwnK.mono e r fun a ha => k a (List.mem_append_right _ ha))
theorem OwnS.mono (e : Same F F') : ∀ {t : List (Str × T)} {v : List (Str × L2.V)} {d : List (Str × D)} {fp : List Addr}, OwnS G F H t v d fp → (∀ a ∈ fp, ∀ o, H a = some o → H' a = some o) → OwnS G F' H' t v d fp
  | _, _, _, _, .nil, _ => .nil
  | _, _, _, _, .cons h r, k => .cons (Own.mono e h fun a ha => k a (List.mem_append_left _ ha)) (OwnS.mono e r fun a ha => k a (List.mem_append_right _ ha))
end
mutual
theorem Own.at : ∀ {t : T} {v : L2.V} {d : D} {fp : List Addr}, Own G F H t v d fp → ∀ a ∈ fp, ∃ o, H a = some o
  | _, _, _, _, .fz r, a, h => absurd h List.not_mem_nil
  | _, _, _, _, .nl r _, a, h => absurd h List.not_mem_nil
  | _, _, _, _, .nd r _, a, h => absurd h List.not_mem_nil
  | _, _, _, _, .no r _, a, h => absurd h List.not_mem_nil
  | _, _, _, _, .lst e _ r, a, h => (List.mem_cons.mp h).elim (fun z => ⟨_, z ▸ e⟩) (OwnA.at r a)
  | _, _, _, _, .dic e _ r, a, h => (List.mem_cons.mp h).elim (fun z => ⟨_, z ▸ e⟩) (OwnK.at r a)
  | _, _, _, _, .obj e _ r, a, h => (List.mem_cons.mp h).elim (fun z => ⟨_, z ▸ e⟩) (OwnS.at r a)
theorem OwnA.at : ∀ {t : T} {v : List L2.V} {d : List D} {fp : List Addr}, OwnA G F H t v d fp → ∀ a ∈ fp, ∃ o, H a = some o
  | _, _, _, _, .nil, a, h => absurd h List.not_mem_nil
  | _, _, _, _, .cons x r, a, h => (List.mem_append.mp h).elim (Own.at x a) (OwnA.at r a)
theorem OwnK.at : ∀ {t : T} {v : List (Key × L2.V)} {d : List (Key × D)} {fp : List Addr}, OwnK G F H t v d fp → ∀ a ∈ fp, ∃ o, H a = some o
  | _, _, _, _, .nil, a, h => absurd h List.not_mem_nil
  | _, _, _, _, .cons x r, a, h => (List.mem_append.mp h).elim (Own.at x a) (OwnK.at r a)
theorem OwnS.at : ∀ {t : List (Str × T)} {v : List (Str × L2.V)} {d : List (Str × D)} {fp : List Addr}, OwnS G F H t v d fp → ∀ a ∈ fp, ∃ o, H a = some o
  | _, _, _, _, .nil, a, h => absurd h List.not_mem_nil
  | _, _, _, _, .cons x r, a, h => (List.mem_append.mp h).elim (Own.at x a) (OwnS.at r a)
end
theorem Own.fz_r {v : L2.V} {d : D} {fp : List Addr} (h : Own G F H .fz v d fp) : fp = [] ∧ R G F v d := by cases h with | fz r => exact ⟨rfl, r⟩
theorem OwnA.fz_r : ∀ {v : List L2.V} {d : List D} {fp : List Addr}, OwnA G F H .fz v d fp → fp = [] ∧ RA G F v d
  | _, _, _, .nil => ⟨rfl, .nil⟩
  | _, _, _, .cons h r => by
    obtain ⟨rfl, x⟩ := h.fz_r
    obtain ⟨rfl, y⟩ := OwnA.fz_r r
    exact ⟨rfl, .cons x y⟩
theorem OwnK.fz_r : ∀ {v : List (Key × L2.V)} {d : List (Key × D)} {fp : List Addr}, OwnK G F H .fz v d fp → fp = [] ∧ RK G F v d
  | _, _, _, .nil => ⟨rfl, .nil⟩
  | _, _, _, .cons h r => by
    obtain ⟨rfl, x⟩ := h.fz_r
    obtain ⟨rfl, y⟩ := OwnK.fz_r r
    exact ⟨rfl, .cons x y⟩
theorem OwnA.of_r : ∀ {v : List L2.V} {d : List D}, RA G F v d → OwnA G F H .fz v d []
  | _, _, .nil => .nil
  | _, _, .cons h r => .cons (fp := []) (fq := []) (.fz h) (OwnA.of_r r)
theorem OwnK.of_r : ∀ {v : List (Key × L2.V)} {d : List (Key × D)}, RK G F v d → OwnK G F H .fz v d []
  | _, _, .nil => .nil
  | _, _, .cons h r => .cons (fp := []) (fq := []) (.fz h) (OwnK.of_r r)
end
end Y

namespace Y
open PySem PySem.Spec PyProof.Rows L2 Z

/-! ## outcomes -/
/-- a value; an exception of the class c with its fields; nothing is told -/
inductive Rs (α : Type) where
  | ok (a : α) | ex (c : Nat) (fs : List (Str × D)) | no
def Rs.bind {α β : Type} (x : Rs α) (k : α → Rs β) : Rs β :=
  match x with
  | .ok a => k a
  | .ex c fs => .ex c fs
  | .no => .no
@[simp] theorem Rs.bind_ok {α β : Type} (a : α) (k : α → Rs β) : (Rs.ok a).bind k = k a := rfl
@[simp] theorem Rs.bind_ex {α β : Type} (c : Nat) (fs : List (Str × D)) (k : α → Rs β) : (Rs.ex c fs).bind k = .ex c fs := rfl
@[simp] theorem Rs.bind_no {α β : Type} (k : α → Rs β) : (Rs.no : Rs α).bind k = .no := rfl
abbrev Env := List (Option D)
/-- how a slot holds what it holds: the script; to be read; its own -/
inductive Md where
  | scr | bor (t : T) | own (t : T)
abbrev EK := L2.St → XK

open Classical in
noncomputable def Fz (O : Addr → Prop) (U : Hp) : Hp := fun a => if O a then none else U a
section
variable {O : Addr → Prop} {U U' H H' : Hp}
theorem fz_in {a : Addr} {o : HO} (h : Fz O U a = some o) : ¬ O a ∧ U a = some o := by
  unfold Fz at h
  split at h
  · cases h
  · exact ⟨by assumption, h⟩
theorem fz_of {a : Addr} {o : HO} (h : ¬ O a) (e : U a = some o) : Fz O U a = some o := by
  unfold Fz
  rw [if_neg h]
  exact e
theorem fz_le : Same (Fz O U) U := fun a o h => (fz_in h).2
theorem fz_mono (e : Same U U') : Same (Fz O U) (Fz O U') := fun a o h => fz_of (fz_in h).1 (e _ _ (fz_in h).2)
theorem fz_none {a : Addr} (h : U a = none) : Fz O U a = none := by
  cases e : Fz O U a with
  | none => rfl
  | some o => rw [(fz_in e).2] at h; cases h
theorem fz_upd {p : Addr} {o : HO} (h : ¬ O p) : Fz O (upd U p o) = upd (Fz O U) p o := by
  funext a
  by_cases e : a = p
  · subst e
    rw [upd_same]
    exact fz_of h upd_same
  · rw [upd_ne e]
    unfold Fz
    rw [upd_ne e]
end

/-- a region: what is read stands in the heap; what is set apart stands in the heap -/
structure Reg (G : KC) (O : Addr → Prop) (U H : Hp) : Prop where
  s : Same U H
  o : ∀ a, O a → ∃ u, H a = some u
  t : ∀ a n, G.tg a = some n → ∃ u, H a = some u
theorem Reg.grow {G : KC} {O : Addr → Prop} {U H U' H' : Hp} (r : Reg G O U H) (g : Gr U H U' H') : Reg G O U' H' := ⟨g.s, fun a h => let ⟨u, e⟩ := r.o a h; ⟨u, g.h _ _ e⟩, fun a n h => let ⟨u, e⟩ := r.t a n h; ⟨u, g.h _ _ e⟩⟩
theorem Reg.tn {G : KC} {O : Addr → Prop} {U H : Hp} (r : Reg G O U H) {p : Addr} (h : H p = none) : G.tg p = none := by
  cases e : G.tg p with
  | none => rfl
  | some n =>
    obtain ⟨u, z⟩ := r.t p n e
    rw [h] at z
    cases z
theorem Reg.no {G : KC} {O : Addr → Prop} {U H : Hp} (r : Reg G O U H) {p : Addr} (h : H p = none) : ¬ O p := fun z => by
  obtain ⟨u, e⟩ := r.o p z
  rw [h] at e
  cases e
/-- how outcomes are told: over the heap ahead, what may be read behind, the heap behind -/
structure Rel (β α : Type) where
  r : Hp → Hp → Hp → β → α → Prop
  m : ∀ {H H1 U' H' : Hp} {b : β} {a : α}, Same H H1 → r H1 U' H' b a → r H U' H' b a
def rV (G : KC) (O : Addr → Prop) (t : T) : Rel V D := ⟨fun _ U _ v d => RT G (Fz O U) U t v d, fun _ h => h⟩
/-- a new thing, its owned places -/
def rN (G : KC) (O : Addr → Prop) (t : T) : Rel V D := ⟨fun H U' H' v d => ∃ fp, Own G (Fz O U') H' t v d fp ∧ fp.Nodup ∧ ∀ a ∈ fp, H a = none ∧ U' a = none, fun s ⟨fp, h1, h2, h3⟩ => ⟨fp, h1, h2, fun a ha => ⟨s.free (h3 a ha).1, (h3 a ha).2⟩⟩⟩
def rB : Rel Bool Bool := ⟨fun _ _ _ b a => b = a, fun _ h => h⟩
inductive RL (G : KC) (F U : Hp) : List T → List V → List D → Prop
  | nil : RL G F U [] [] []
  | cons {t : T} {ts : List T} {v : V} {vs : List V} {d : D} {ds : List D} : RT G F U t v d → RL G F U ts vs ds → RL G F U (t :: ts) (v :: vs) (d :: ds)
def rA (G : KC) (O : Addr → Prop) (ts : List T) : Rel (List V) (List D) := ⟨fun _ U _ v d => RL G (Fz O U) U ts v d, fun _ h => h⟩
section
variable {G : KC} {F F' U U' : Hp}
theorem RL.mono (e : Same F F') (g : Same U U') : ∀ {ts : List T} {vs : List V} {ds : List D}, RL G F U ts vs ds → RL G F' U' ts vs ds
  | _, _, _, .nil => .nil
  | _, _, _, .cons h r => .cons (h.mono e g) (RL.mono e g r)
theorem RL.r (e : Same F U) : ∀ {ts : List T} {vs : List V} {ds : List D}, RL G F U ts vs ds → RA G U vs ds
  | _, _, _, .nil => .nil
  | _, _, _, .cons h r => .cons (h.r e) (RL.r e r)
/-- all of them frozen -/
def fzs : List T → Bool
  | [] => true
  | .fz :: ts => fzs ts
  | _ :: _ => false
theorem RL.fz : ∀ {ts : List T} {vs : List V} {ds : List D}, fzs ts = true → RL G F U ts vs ds → RA G F vs ds := by
  intro ts vs ds f h
  induction h with
  | nil => exact .nil
  | @cons t ts v vs d ds h r ih =>
    cases t with
    | fz => exact .cons h.fz (ih f)
    | lst _ => cases f
    | dic _ => cases f
    | obj _ => cases f
end

/-- an exception's dict and its fields, as they lie -/
def XR (G : KC) (F H : Hp) (dd : Option Addr) (fs : List (Str × D)) : Prop := ∃ d vs, dd = some d ∧ H d = some (.xd vs) ∧ RS G F vs fs
def PQ {α β : Type} (G : KC) (O : Addr → Prop) (E : XK) (U H : Hp) (rel : Rel β α) (Q : β → Hp → Prop) : Rs α → Prop
  | .ok a => ∀ b U' H', Gr U H U' H' → rel.r H U' H' b a → Q b H'
  | .ex c fs => ∀ dd U' H', Gr U H U' H' → XR G (Fz O U') H' dd fs → E (.ref (G.cl c)) dd H'
  | .no => False
section
variable {α β γ δ : Type} {G : KC} {O : Addr → Prop} {E : XK} {U H U' H' : Hp} {rel : Rel β α} {rel2 : Rel δ γ} {Q : δ → Hp → Prop} {W : β → Hp → Prop}
theorem PQ.grow {z : Rs α} (g : Gr U H U' H') (q : PQ G O E U H rel W z) : PQ G O E U' H' rel W z := by
  cases z with
  | ok a => exact fun b U2 H2 g2 r => q b U2 H2 (g.trans g2) (rel.m g.h r)
  | ex c fs => exact fun dd U2 H2 g2 r => q dd U2 H2 (g.trans g2) r
  | no => exact q
theorem PQ.bind {x : Rs α} {k : α → Rs γ} (q : PQ G O E U H rel2 Q (x.bind k)) (h : ∀ a b U' H', Gr U H U' H' → rel.r H U' H' b a → PQ G O E U' H' rel2 Q (k a) → W b H') : PQ G O E U H rel W x := by
  cases x with
  | ok a => exact fun b U2 H2 g2 r => h a b U2 H2 g2 r (PQ.grow g2 q)
  | ex c fs => exact q
  | no => exact q
/-- the end: the value -/
theorem PQ.fin {a : α} {b : β} {U H : Hp} (q : PQ G O E U H rel W (.ok a)) (s : Same U H) (r : rel.r H U H b a) : W b H := q b U H (.refl s) r
end

def RM (G : KC) (F U : Hp) : Md → V → D → Prop
  | .scr, v, d => ∃ (a : Addr) (ns : List Int), v = .ref a ∧ d = .lst (ns.map D.int) ∧ SqL G.K F a (ns.map V.int)
  | .bor t, v, d => RT G F U t v d
  | .own t, v, d => RT G F U t v d
structure At (G : KC) (Θ : List Md) (O : Addr → Prop) (U H : Hp) (σ : L2.St) (Γ : Env) : Prop where
  g : Reg G O U H
  len : σ.length = Γ.length
  sl : ∀ (i : Nat) (m : Md) (d : D), Θ[i]? = some m → Γ[i]? = some (some d) → ∃ v, σ[i]? = some (some v) ∧ RM G (Fz O U) U m v d
theorem RM.mono {G : KC} {F F' U U' : Hp} {m : Md} {v : V} {d : D} (e : Same F F') (g : Same U U') (h : RM G F U m v d) : RM G F' U' m v d := by
  cases m with
  | scr => obtain ⟨a, ns, h1, h2, h3⟩ := h; exact ⟨a, ns, h1, h2, same_l e h3⟩
  | bor t => exact RT.mono e g (show RT G F U t v d from h)
  | own t => exact RT.mono e g (show RT G F U t v d from h)
theorem At.grow {G : KC} {Θ : List Md} {O : Addr → Prop} {U H U' H' : Hp} {σ : L2.St} {Γ : Env} (a : At G Θ O U H σ Γ) (g : Gr U H U' H') : At G Θ O U' H' σ Γ :=
  ⟨a.g.grow g, a.len, fun i m d h1 h2 => let ⟨v, e, r⟩ := a.sl i m d h1 h2; ⟨v, e, r.mono (fz_mono g.f) g.f⟩⟩
/-- a reading that changes nothing that stands -/
def Ev {α β : Type} (G : KC) (Θ : List Md) (E : EK) (rel : (Addr → Prop) → Rel β α) (te : L2.St → Hp → (β → Hp → Prop) → Prop) (f : Env → Rs α) : Prop :=
  ∀ (O : Addr → Prop) (U H : Hp) (σ : L2.St) (Γ : Env), At G Θ O U H σ Γ → ∀ Q, PQ G O (E σ) U H (rel O) Q (f Γ) → te σ H Q
abbrev EvV (G : KC) (Θ : List Md) (E : EK) (t : T) (te : TE) (f : Env → Rs D) : Prop := Ev G Θ E (rV G · t) te f
abbrev EvN (G : KC) (Θ : List Md) (E : EK) (t : T) (te : TE) (f : Env → Rs D) : Prop := Ev G Θ E (rN G · t) te f
abbrev EvB (G : KC) (Θ : List Md) (E : EK) (te : TT) (f : Env → Rs Bool) : Prop := Ev G Θ E (fun _ => rB) te f
abbrev EvA (G : KC) (Θ : List Md) (E : EK) (ts : List T) (te : TA) (f : Env → Rs (List D)) : Prop := Ev G Θ E (rA G · ts) te f
/-- an operation on values -/
def O2 (G : KC) (t1 t2 t3 : T) (r : R2) (op : D → D → Rs D) : Prop := ∀ (O : Addr → Prop) (U H : Hp) (v w : V) (x y : D), Reg G O U H → RT G (Fz O U) U t1 v x → RT G (Fz O U) U t2 w y → ∀ Q E, PQ G O E U H (rV G O t3) Q (op x y) → r v w H Q
def O2N (G : KC) (t1 t2 t3 : T) (r : R2) (op : D → D → Rs D) : Prop := ∀ (O : Addr → Prop) (U H : Hp) (v w : V) (x y : D), Reg G O U H → RT G (Fz O U) U t1 v x → RT G (Fz O U) U t2 w y → ∀ Q E, PQ G O E U H (rN G O t3) Q (op x y) → r v w H Q
def O1 (G : KC) (t1 t3 : T) (r : V → Hp → VK → Prop) (op : D → Rs D) : Prop := ∀ (O : Addr → Prop) (U H : Hp) (v : V) (x : D), Reg G O U H → RT G (Fz O U) U t1 v x → ∀ Q E, PQ G O E U H (rV G O t3) Q (op x) → r v H Q
def OC (G : KC) (ts : List T) (t3 : T) (r : List V → Hp → VK → Prop) (op : List D → Rs D) : Prop := ∀ (O : Addr → Prop) (U H : Hp) (vs : List V) (xs : List D), Reg G O U H → RL G (Fz O U) U ts vs xs → ∀ Q E, PQ G O E U H (rV G O t3) Q (op xs) → r vs H Q
def OCN (G : KC) (ts : List T) (t3 : T) (r : List V → Hp → VK → Prop) (op : List D → Rs D) : Prop := ∀ (O : Addr → Prop) (U H : Hp) (vs : List V) (xs : List D), Reg G O U H → RL G (Fz O U) U ts vs xs → ∀ Q E, PQ G O E U H (rN G O t3) Q (op xs) → r vs H Q

/-! ## the readings as functions -/
def pVar (i : Nat) : Env → Rs D := fun Γ => match Γ[i]? with
  | some (some d) => .ok d
  | _ => .no
def pC (d : D) : Env → Rs D := fun _ => .ok d
def pOp (op : D → D → Rs D) (a b : Env → Rs D) : Env → Rs D := fun Γ => (a Γ).bind fun x => (b Γ).bind fun y => op x y
def pUn (op : D → Rs D) (a : Env → Rs D) : Env → Rs D := fun Γ => (a Γ).bind op
def pNil : Env → Rs (List D) := fun _ => .ok []
def pCons (a : Env → Rs D) (b : Env → Rs (List D)) : Env → Rs (List D) := fun Γ => (a Γ).bind fun x => (b Γ).bind fun xs => .ok (x :: xs)
def pArg (op : List D → Rs D) (a : Env → Rs (List D)) : Env → Rs D := fun Γ => (a Γ).bind op
def asB : D → Rs Bool
  | .bl b => .ok b
  | _ => .no
def pTst (a : Env → Rs D) : Env → Rs Bool := fun Γ => (a Γ).bind asB
def bAnd (a b : Env → Rs Bool) : Env → Rs Bool := fun Γ => (a Γ).bind fun x => if x = true then b Γ else .ok false
def bOr (a b : Env → Rs Bool) : Env → Rs Bool := fun Γ => (a Γ).bind fun x => if x = true then .ok true else b Γ
def bNot (a : Env → Rs Bool) : Env → Rs Bool := fun Γ => (a Γ).bind fun x => .ok (!x)
def pAnd (a b : Env → Rs D) : Env → Rs D := fun Γ => (a Γ).bind fun x => (asB x).bind fun c => if c = true then b Γ else .ok (.bl false)
def pOr (a b : Env → Rs D) : Env → Rs D := fun Γ => (a Γ).bind fun x => (asB x).bind fun c => if c = true then .ok (.bl true) else b Γ
def pNot (a : Env → Rs D) : Env → Rs D := fun Γ => (a Γ).bind fun x => (asB x).bind fun c => .ok (.bl (!c))
def pIf (c : Env → Rs Bool) (a b : Env → Rs D) : Env → Rs D := fun Γ => (c Γ).bind fun x => if x = true then a Γ else b Γ
def pChain (o1 o2 : D → D → Rs D) (a b c : Env → Rs D) : Env → Rs D := fun Γ => (a Γ).bind fun x => (b Γ).bind fun y => (o1 x y).bind fun z => (asB z).bind fun k => if k = true then (c Γ).bind fun w => o2 y w else .ok (.bl false)
section
variable {G : KC} {Θ : List Md} {E : EK} {te ta tb tc : TE} {tt tu : TT} {tr : TA} {t t1 t2 t3 t4 : T} {ts : List T} {f g h : Env → Rs D} {fs : Env → Rs (List D)} {b c : Env → Rs Bool} {r : R2} {op : D → D → Rs D}
theorem rt_c {O : Addr → Prop} {U : Hp} {v : V} {d : D} (h : ∀ F, R G F v d) : RT G (Fz O U) U t v d := .fr (h _)
theorem ev_c {v : V} {d : D} (h : ∀ F, R G F v d) : EvV G Θ E t (tC v) (pC d) := fun O U H σ Γ a Q q => q.fin a.g.s (rt_c h)
theorem ev_int {i : Int} : EvV G Θ E .fz (tC (.int i)) (pC (.int i)) := ev_c fun _ => .int i
theorem ev_bl {i : Bool} : EvV G Θ E .fz (tC (.bl i)) (pC (.bl i)) := ev_c fun _ => .bl i
theorem ev_str {i : Str} : EvV G Θ E .fz (tC (.str i)) (pC (.str i)) := ev_c fun _ => .str i
theorem ev_non : EvV G Θ E .fz (tC .non) (pC .non) := ev_c fun _ => .non
theorem pVar_some {Γ : Env} {i : Nat} {P : Rs D → Prop} (q : P (pVar i Γ)) (hno : ¬ P .no) : ∃ d, Γ[i]? = some (some d) ∧ P (.ok d) := by
  unfold pVar at q
  split at q
  · exact ⟨_, by assumption, q⟩
  · exact absurd q hno
theorem ev_bor {i : Nat} (hi : Θ[i]? = some (.bor t)) : EvV G Θ E t (tVar i) (pVar i) := fun O U H σ Γ a Q q => by
  obtain ⟨d, hd, q⟩ := pVar_some (P := PQ G O (E σ) U H (rV G O t) Q) q (fun z => z)
  obtain ⟨v, e, r⟩ := a.sl i _ d hi hd
  exact ⟨v, e, q.fin a.g.s (show RT G (Fz O U) U t v d from r)⟩
theorem ev_own {i : Nat} (hi : Θ[i]? = some (.own t)) : EvV G Θ E t (tVar i) (pVar i) := fun O U H σ Γ a Q q => by
  obtain ⟨d, hd, q⟩ := pVar_some (P := PQ G O (E σ) U H (rV G O t) Q) q (fun z => z)
  obtain ⟨v, e, r⟩ := a.sl i _ d hi hd
  exact ⟨v, e, q.fin a.g.s (show RT G (Fz O U) U t v d from r)⟩
theorem ev_op (ha : EvV G Θ E t1 ta f) (hb : EvV G Θ E t2 tb g) (ho : O2 G t1 t2 t3 r op) : EvV G Θ E t3 (tOp r ta tb) (pOp op f g) := fun O U H σ Γ a Q q =>
  ha O U H σ Γ a _ (q.bind fun x v U1 H1 g1 r1 q => hb O U1 H1 σ Γ (a.grow g1) _ (q.bind fun y w U2 H2 g2 r2 q => ho O U2 H2 v w x y ((a.grow g1).grow g2).g (RT.mono (fz_mono g2.f) g2.f r1) r2 Q _ q))
theorem en_op (ha : EvV G Θ E t1 ta f) (hb : EvV G Θ E t2 tb g) (ho : O2N G t1 t2 t3 r op) : EvN G Θ E t3 (tOp r ta tb) (pOp op f g) := fun O U H σ Γ a Q q =>
  ha O U H σ Γ a _ (q.bind fun x v U1 H1 g1 r1 q => hb O U1 H1 σ Γ (a.grow g1) _ (q.bind fun y w U2 H2 g2 r2 q => ho O U2 H2 v w x y ((a.grow g1).grow g2).g (RT.mono (fz_mono g2.f) g2.f r1) r2 Q _ q))
theorem ev_un {ru : V → Hp → VK → Prop} {o : D → Rs D} (ha : EvV G Θ E t1 ta f) (ho : O1 G t1 t3 ru o) : EvV G Θ E t3 (tUn ru ta) (pUn o f) := fun O U H σ Γ a Q q =>
  ha O U H σ Γ a _ (q.bind fun x v U1 H1 g1 r1 q => ho O U1 H1 v x (a.grow g1).g r1 Q _ q)
theorem ea_nil : EvA G Θ E [] tNil pNil := fun O U H σ Γ a Q q => q.fin a.g.s .nil
theorem ea_cons (ha : EvV G Θ E t ta f) (hr : EvA G Θ E ts tr fs) : EvA G Θ E (t :: ts) (tCons ta tr) (pCons f fs) := fun O U H σ Γ a Q q =>
  ha O U H σ Γ a _ (q.bind fun x v U1 H1 g1 r1 q => hr O U1 H1 σ Γ (a.grow g1) _ (q.bind fun y w U2 H2 g2 r2 q => q.fin ((a.grow g1).grow g2).g.s (.cons (RT.mono (fz_mono g2.f) g2.f r1) r2)))
theorem ev_cb {rc : List V → Hp → VK → Prop} {o : List D → Rs D} (ha : EvA G Θ E ts tr fs) (ho : OC G ts t3 rc o) : EvV G Θ E t3 (tCB rc tr) (pArg o fs) := fun O U H σ Γ a Q q =>
  ha O U H σ Γ a _ (q.bind fun x v U1 H1 g1 r1 q => ho O U1 H1 v x (a.grow g1).g r1 Q _ q)
theorem en_cb {rc : List V → Hp → VK → Prop} {o : List D → Rs D} (ha : EvA G Θ E ts tr fs) (ho : OCN G ts t3 rc o) : EvN G Θ E t3 (tCB rc tr) (pArg o fs) := fun O U H σ Γ a Q q =>
  ha O U H σ Γ a _ (q.bind fun x v U1 H1 g1 r1 q => ho O U1 H1 v x (a.grow g1).g r1 Q _ q)
theorem asB_ok {x : D} {P : Rs Bool → Prop} (q : P (asB x)) (hno : ¬ P .no) : ∃ b, x = .bl b ∧ P (.ok b) := by
  cases x <;> first | exact ⟨_, rfl, q⟩ | exact absurd q hno
theorem asB_bind {β δ : Type} {O : Addr → Prop} {Ex : XK} {U H : Hp} {rel : Rel δ β} {Q : δ → Hp → Prop} {x : D} {k : Bool → Rs β} (q : PQ G O Ex U H rel Q ((asB x).bind k)) : ∃ b, x = .bl b ∧ PQ G O Ex U H rel Q (k b) := by
  cases x <;> first | exact ⟨_, rfl, q⟩ | exact q.elim
theorem bl_of {F U : Hp} {v : V} {b : Bool} (h : RT G F U t v (.bl b)) : v = .bl b := by
  cases h with
  | fr r => cases r; rfl
theorem eb_test (h : EvV G Θ E t te f) : EvB G Θ E (tTest te) (pTst f) := fun O U H σ Γ a Q q =>
  h O U H σ Γ a _ (q.bind fun x v U1 H1 g1 r1 q => by
    obtain ⟨b, rfl, q⟩ := asB_ok (P := PQ G O (E σ) U1 H1 rB Q) q (fun z => z)
    exact ⟨b, bl_of r1, q.fin (a.grow g1).g.s rfl⟩)
theorem eb_B (h : EvV G Θ E t te f) : EvB G Θ E (tB te) (pTst f) := fun O U H σ Γ a Q q =>
  h O U H σ Γ a _ (q.bind fun x v U1 H1 g1 r1 q => by
    obtain ⟨b, rfl, q⟩ := asB_ok (P := PQ G O (E σ) U1 H1 rB Q) q (fun z => z)
    exact ⟨b, bl_of r1, q.fin (a.grow g1).g.s rfl⟩)
theorem eb_and (h1 : EvB G Θ E tt b) (h2 : EvB G Θ E tu c) : EvB G Θ E (tAnd tt tu) (bAnd b c) := fun O U H σ Γ a Q q =>
  h1 O U H σ Γ a _ (q.bind fun x v U1 H1 g1 r1 q => by
    cases r1
    cases x with
    | true => exact h2 O U1 H1 σ Γ (a.grow g1) Q q
    | false => exact q.fin (a.grow g1).g.s rfl)
theorem eb_or (h1 : EvB G Θ E tt b) (h2 : EvB G Θ E tu c) : EvB G Θ E (tOr tt tu) (bOr b c) := fun O U H σ Γ a Q q =>
  h1 O U H σ Γ a _ (q.bind fun x v U1 H1 g1 r1 q => by
    cases r1
    cases x with
    | false => exact h2 O U1 H1 σ Γ (a.grow g1) Q q
    | true => exact q.fin (a.grow g1).g.s rfl)
theorem eb_not (h1 : EvB G Θ E tt b) : EvB G Θ E (tNot tt) (bNot b) := fun O U H σ Γ a Q q =>
  h1 O U H σ Γ a _ (q.bind fun x v U1 H1 g1 r1 q => by
    cases r1
    exact q.fin (a.grow g1).g.s rfl)
theorem ev_and (h1 : EvV G Θ E t1 ta f) (h2 : EvV G Θ E t tb g) : EvV G Θ E t (tAndV ta tb) (pAnd f g) := fun O U H σ Γ a Q q =>
  h1 O U H σ Γ a _ (q.bind fun x v U1 H1 g1 r1 q => by
    obtain ⟨k, rfl, q⟩ := asB_bind q
    refine ⟨k, bl_of r1, ?_⟩
    cases k with
    | true => exact h2 O U1 H1 σ Γ (a.grow g1) Q q
    | false => exact q.fin (a.grow g1).g.s (.fr (.bl _)))
theorem ev_or (h1 : EvV G Θ E t1 ta f) (h2 : EvV G Θ E t tb g) : EvV G Θ E t (tOrV ta tb) (pOr f g) := fun O U H σ Γ a Q q =>
  h1 O U H σ Γ a _ (q.bind fun x v U1 H1 g1 r1 q => by
    obtain ⟨k, rfl, q⟩ := asB_bind q
    refine ⟨k, bl_of r1, ?_⟩
    cases k with
    | false => exact h2 O U1 H1 σ Γ (a.grow g1) Q q
    | true => exact q.fin (a.grow g1).g.s (.fr (.bl _)))
theorem ev_not (h1 : EvV G Θ E t1 ta f) : EvV G Θ E .fz (tNotV ta) (pNot f) := fun O U H σ Γ a Q q =>
  h1 O U H σ Γ a _ (q.bind fun x v U1 H1 g1 r1 q => by
    obtain ⟨k, rfl, q⟩ := asB_bind q
    exact ⟨k, bl_of r1, q.fin (a.grow g1).g.s (.fr (.bl _))⟩)
theorem ev_if (h : EvB G Θ E tt b) (h1 : EvV G Θ E t ta f) (h2 : EvV G Θ E t tb g) : EvV G Θ E t (tIf tt ta tb) (pIf b f g) := fun O U H σ Γ a Q q =>
  h O U H σ Γ a _ (q.bind fun x v U1 H1 g1 r1 q => by
    cases r1
    cases x with
    | true => exact h1 O U1 H1 σ Γ (a.grow g1) Q q
    | false => exact h2 O U1 H1 σ Γ (a.grow g1) Q q)
theorem en_if (h : EvB G Θ E tt b) (h1 : EvN G Θ E t ta f) (h2 : EvN G Θ E t tb g) : EvN G Θ E t (tIf tt ta tb) (pIf b f g) := fun O U H σ Γ a Q q =>
  h O U H σ Γ a _ (q.bind fun x v U1 H1 g1 r1 q => by
    cases r1
    cases x with
    | true => exact h1 O U1 H1 σ Γ (a.grow g1) Q q
    | false => exact h2 O U1 H1 σ Γ (a.grow g1) Q q)
theorem ev_chain {r1 r2 : R2} {o1 o2 : D → D → Rs D} (ha : EvV G Θ E t1 ta f) (hb : EvV G Θ E t2 tb g) (hc : EvV G Θ E t3 tc h) (h1 : O2 G t1 t2 .fz r1 o1) (h2 : O2 G t2 t3 .fz r2 o2) : EvV G Θ E .fz (tChain r1 r2 ta tb tc) (pChain o1 o2 f g h) := fun O U H σ Γ a Q q =>
  ha O U H σ Γ a _ (q.bind fun x v U1 H1 g1 r1 q => hb O U1 H1 σ Γ (a.grow g1) _ (q.bind fun y w U2 H2 g2 r2 q =>
    h1 O U2 H2 v w x y ((a.grow g1).grow g2).g (RT.mono (fz_mono g2.f) g2.f r1) r2 _ (E σ) (q.bind fun z u U3 H3 g3 r3 q => by
      obtain ⟨k, rfl, q⟩ := asB_bind q
      refine ⟨k, bl_of r3, ?_⟩
      have a3 := ((a.grow g1).grow g2).grow g3
      cases k with
      | true =>
        change PQ G O (E σ) U3 H3 (rV G O .fz) Q ((h Γ).bind fun w => o2 y w) at q
        exact hc O U3 H3 σ Γ a3 _ (q.bind fun z2 u2 U4 H4 g4 r4 q => h2 O U4 H4 w u2 y z2 (a3.grow g4).g (RT.mono (fz_mono (g3.f.trans g4.f)) (g3.f.trans g4.f) r2) r4 Q _ q)
      | false => exact q.fin a3.g.s (.fr (.bl _)))))
/-- (e, ..): all frozen -/
def opTup : List D → Rs D := fun ds => if ds.length ≤ 1000000 then .ok (.tup ds) else .no
def opLst : List D → Rs D := fun ds => if ds.length ≤ 1000000 then .ok (.lst ds) else .no
theorem ite_ok {β : Type} {O : Addr → Prop} {Ex : XK} {U H : Hp} {δ : Type} {rel : Rel δ β} {Q : δ → Hp → Prop} {p : Prop} [Decidable p] {x : Rs β} (q : PQ G O Ex U H rel Q (if p then x else .no)) : p ∧ PQ G O Ex U H rel Q x := by
  by_cases e : p
  · rw [if_pos e] at q; exact ⟨e, q⟩
  · rw [if_neg e] at q; exact q.elim
theorem RL.len {F U : Hp} : ∀ {ts : List T} {vs : List V} {ds : List D}, RL G F U ts vs ds → vs.length = ds.length
  | _, _, _, .nil => rfl
  | _, _, _, .cons _ r => congrArg Nat.succ (RL.len r)
theorem big {n : Nat} (h : n ≤ 1000000) : n ≤ sizeLine := Nat.le_trans h (by decide)
theorem ev_tup (ha : EvA G Θ E ts tr fs) (hf : fzs ts = true) : EvV G Θ E .fz (tTup tr) (pArg opTup fs) := fun O U H σ Γ a Q q =>
  ha O U H σ Γ a _ (q.bind fun x v U1 H1 g1 r1 q => by
    obtain ⟨hz, q⟩ := ite_ok q
    have a1 := a.grow g1
    have rr := RL.fz hf r1
    refine ⟨big (by rw [rr.len]; exact hz), fun p hp => ?_⟩
    have gn : Gr U1 H1 (upd U1 p (.tup v)) (upd H1 p (.tup v)) := (Gr.refl a1.g.s).new hp
    refine q (.ref p) _ _ gn (.fr (.tup (Or.inl (Or.inl (fz_of (a1.g.no hp) upd_same))) (rr.mono (fz_mono gn.f))))
    )
theorem en_lst (ha : EvA G Θ E ts tr fs) (hf : fzs ts = true) : EvN G Θ E (.lst .fz) (tLst tr) (pArg opLst fs) := fun O U H σ Γ a Q q =>
  ha O U H σ Γ a _ (q.bind fun x v U1 H1 g1 r1 q => by
    obtain ⟨hz, q⟩ := ite_ok q
    have a1 := a.grow g1
    have rr := RL.fz hf r1
    refine ⟨big (by rw [rr.len]; exact hz), fun p hp => ?_⟩
    refine q (.ref p) U1 _ ((Gr.refl a1.g.s).newH hp) ⟨[p], .lst upd_same (a1.g.tn hp) (OwnA.of_r rr), by simp, fun b hb => ?_⟩
    cases List.mem_singleton.mp hb
    exact ⟨hp, a1.g.s.free hp⟩)
/-! new, then frozen -/
def uni (U H : Hp) (fp : List Addr) : Hp := fun a => match U a with
  | some o => some o
  | none => if a ∈ fp then H a else none
theorem uni_le {U H : Hp} {fp : List Addr} : Same U (uni U H fp) := fun a o h => by unfold uni; rw [h]
theorem uni_h {U H : Hp} {fp : List Addr} (s : Same U H) : Same (uni U H fp) H := fun a o h => by
  unfold uni at h
  split at h
  · rename_i u z; rw [← h]; exact s _ _ z
  · split at h
    · exact h
    · cases h
theorem uni_fp {U H : Hp} {fp : List Addr} {a : Addr} {o : HO} (ha : a ∈ fp) (n : U a = none) (h : H a = some o) : uni U H fp a = some o := by
  unfold uni
  rw [n]
  show (if a ∈ fp then H a else none) = some o
  rw [if_pos ha]
  exact h
theorem uni_in {U H : Hp} {fp : List Addr} {a : Addr} {o : HO} (h : uni U H fp a = some o) : U a = some o ∨ a ∈ fp := by
  unfold uni at h
  split at h
  · rename_i u z; exact Or.inl (z.trans h)
  · split at h
    · rename_i z; exact Or.inr z
    · cases h
theorem gr_uni {U H U' H' : Hp} {fp : List Addr} (g : Gr U H U' H') (k : ∀ a ∈ fp, H a = none ∧ U' a = none) : Gr U H (uni U' H' fp) H' :=
  ⟨g.f.trans uni_le, g.h, uni_h g.s, fun a o h => (uni_in h).elim (g.n a o) fun z => Or.inr (k a z).1⟩
theorem ev_frz (h : EvN G Θ E t te f) : EvV G Θ E .fz te f := fun O U H σ Γ a Q q => h O U H σ Γ a Q (by
  revert q
  cases f Γ with
  | ok d =>
    intro q v U' H' g ⟨fp, ow, nd, k⟩
    have g2 := gr_uni g k
    have rt : RT G (Fz O U') (uni U' H' fp) t v d := ow.rt fun b hb o ho => uni_fp hb (k b hb).2 ho
    refine q v _ _ g2 (.fr ?_)
    have key : ∀ b ∈ fp, ¬ O b := fun b hb z => by
      obtain ⟨u, e⟩ := a.g.o b z
      rw [(k b hb).1] at e
      cases e
    have rt2 : RT G (Fz O U') (Fz O (uni U' H' fp)) t v d := ow.rt fun b hb o ho => fz_of (key b hb) (uni_fp hb (k b hb).2 ho)
    exact rt2.r (fz_mono uni_le)
  | ex c fs => exact fun q => q
  | no => exact fun q => q)
/-- what is new is read -/
theorem ev_new (h : EvN G Θ E t te f) : EvV G Θ E t te f := fun O U H σ Γ a Q q => h O U H σ Γ a Q (by
  revert q
  cases f Γ with
  | ok d =>
    intro q v U' H' g ⟨fp, ow, nd, k⟩
    exact q v _ _ (gr_uni g k) (RT.mono (fz_mono uni_le) (fun _ _ z => z) (ow.rt fun b hb o ho => uni_fp hb (k b hb).2 ho))
  | ex c fs => exact fun q => q
  | no => exact fun q => q)
/-- frozen, read as anything -/
theorem ev_any (h : EvV G Θ E .fz te f) : EvV G Θ E t te f := fun O U H σ Γ a Q q => h O U H σ Γ a Q (by
  revert q
  cases f Γ with
  | ok d => exact fun q v U' H' g r => q v U' H' g (.fr r.fz)
  | ex c fs => exact fun q => q
  | no => exact fun q => q)
/-- a value that is a scalar -/
def pSca (f : Env → Rs D) : Env → Rs D := fun Γ => (f Γ).bind fun d => if sca d = true then .ok d else .no
theorem RT.sca {F U : Hp} {v : V} {d : D} (h : RT G F U t v d) (s : Y.sca d = true) : ∀ F', R G F' v d := fun F' => by
  cases h with
  | fr r => exact r.sca s
  | lst _ _ => cases s
  | dic _ _ => cases s
  | obj _ _ => cases s
theorem ev_sca (h : EvV G Θ E t te f) : EvV G Θ E .fz te (pSca f) := fun O U H σ Γ a Q q =>
  h O U H σ Γ a Q (q.bind fun x v U1 H1 g1 r1 q => by
    obtain ⟨s, q⟩ := ite_ok q
    exact q.fin (a.grow g1).g.s (.fr (r1.sca s _)))
end
end Y

namespace Y
open PySem PySem.Spec PyProof.Rows L2 Z

/-! ## operators, many kinds in one -/
theorem or_op {X : Cx} {f : Value → Value → Sem Value} {r r' : R2} (h : OpR X f r) (h' : OpR X f r') : OpR X f (fun x y H Q => r x y H Q ∨ r' x y H Q) :=
  fun pins s σ H x y v u Q I rx ry q => q.elim (fun z => h pins s σ H x y v u Q I rx ry z) (fun z => h' pins s σ H x y v u Q I rx ry z)
def rAddI : R2 := rI0 fun i j => .int (i + j)
def rAddT : R2 := fun x y H Q => ∃ i j, x = .str i ∧ y = .str j ∧ i.length + j.length ≤ sizeLine ∧ Q (.str (i ++ j)) H
def rAddU (K : PySem.W.Frag) : R2 := fun x y H Q => rAddI x y H Q ∨ rAddT x y H Q ∨ rCat x y H Q ∨ rCatT K x y H Q
def rMulI : R2 := rI CMulW fun i j => .int (i * j)
def rMulS : R2 := fun x y H Q => ∃ z i, x = .str z ∧ y = .int i ∧ PySem.MulOk z i ∧ Q (.str (Txt.mul z i)) H
def rMulU : R2 := fun x y H Q => rMulI x y H Q ∨ rMulS x y H Q ∨ rRep x y H Q
def rSubI : R2 := rI0 fun i j => .int (i - j)
def rDivI : R2 := rI CDivW fun i j => .int (i / j)
def rModI : R2 := rI (fun _ j => 0 < j) fun i j => .int (i % j)
def rPowI : R2 := rI CPow fun i j => .int (i ^ j.toNat)
def rShlI : R2 := rI CPow fun i j => .int (i * 2 ^ j.toNat)
def rLtI : R2 := rI0 fun i j => .bl (decide (i < j))
def rLeI : R2 := rI0 fun i j => .bl (decide (i ≤ j))
def rGtI : R2 := rI0 fun i j => .bl (decide (j < i))
def rGeI : R2 := rI0 fun i j => .bl (decide (j ≤ i))
def rNegI : V → Hp → VK → Prop := rU fun i => .int (-i)
section
variable {X : Cx}
theorem zo_add : OpR X (binaryOp .Add) (rAddU X.K) := or_op op_add (or_op op_add_str (or_op op_cat op_catT))
theorem op_mulS : OpR X (binaryOp .Mult) rMulS := by
  intro pins s σ H x y v u Q I rx ry h
  obtain ⟨z, i, rfl, rfl, hok, q⟩ := h
  obtain ⟨t, rfl⟩ := rx
  obtain ⟨t', rfl⟩ := ry
  exact SB.mul hok fun t' k => ⟨.str _, H, I.tok k, ⟨_, rfl⟩, q⟩
theorem zo_mul : OpR X (binaryOp .Mult) rMulU := or_op op_mulW (or_op op_mulS op_rep)
theorem zo_sub : OpR X (binaryOp .Sub) rSubI := op_sub
theorem zo_fdiv : OpR X (binaryOp .FloorDiv) rDivI := op_fdivW
theorem zo_mod : OpR X (binaryOp .Mod) rModI := op_mod
theorem zo_pow : OpR X (binaryOp .Pow) rPowI := op_pow
theorem zo_shl : OpR X (binaryOp .LShift) rShlI := op_shl
theorem zo_lt : OpR X (compareOp .Lt) rLtI := op_lt
theorem zo_le : OpR X (compareOp .LtE) rLeI := op_le
theorem zo_gt : OpR X (compareOp .Gt) rGtI := op_gt
theorem zo_ge : OpR X (compareOp .GtE) rGeI := op_ge
theorem zo_neg : UnR X (unaryOp .USub) rNegI := un_neg
end

/-! ### over data -/
def Bd (i : Int) : Prop := -1000000000000000000000000000000000000000000000000000000000000 ≤ i ∧ i ≤ 1000000000000000000000000000000000000000000000000000000000000
instance (i : Int) : Decidable (Bd i) := inferInstanceAs (Decidable (_ ∧ _))
theorem Bd.lt {i : Int} (h : Bd i) : i.natAbs < 2 ^ 200 := by
  unfold Bd at h
  have : (2 : Nat) ^ 200 = 1606938044258990275541962092341162602522202993782792835301376 := by decide
  omega
def i2 (f : Int → Int → Rs D) : D → D → Rs D
  | .int i, .int j => f i j
  | _, _ => .no
@[simp] theorem i2_int (f : Int → Int → Rs D) (i j : Int) : i2 f (.int i) (.int j) = f i j := rfl
def opSub : D → D → Rs D := i2 fun i j => .ok (.int (i - j))
def opDiv : D → D → Rs D := i2 fun i j => if 0 < j ∧ Bd j then .ok (.int (i / j)) else .no
def opMod : D → D → Rs D := i2 fun i j => if 0 < j then .ok (.int (i % j)) else .no
def opPow : D → D → Rs D := i2 fun i j => if 0 ≤ j ∧ j ≤ 1000000 ∧ i.natAbs < 2 ^ 64 then .ok (.int (i ^ j.toNat)) else .no
def opShl : D → D → Rs D := i2 fun i j => if 0 ≤ j ∧ j ≤ 1000000 ∧ i.natAbs < 2 ^ 64 then .ok (.int (i * 2 ^ j.toNat)) else .no
def opLt : D → D → Rs D := i2 fun i j => .ok (.bl (decide (i < j)))
def opLe : D → D → Rs D := i2 fun i j => .ok (.bl (decide (i ≤ j)))
def opGt : D → D → Rs D := i2 fun i j => .ok (.bl (decide (j < i)))
def opGe : D → D → Rs D := i2 fun i j => .ok (.bl (decide (j ≤ i)))
def opNeg : D → Rs D
  | .int i => .ok (.int (-i))
  | _ => .no
/-- a length that is no matter -/
def Sz (n : Nat) : Prop := n ≤ 4000000
instance (n : Nat) : Decidable (Sz n) := inferInstanceAs (Decidable (_ ≤ _))
theorem Sz.ok {n : Nat} (h : Sz n) : n ≤ sizeLine := Nat.le_trans h (by decide)
theorem Sz.lt {n : Nat} (h : Sz n) : n < sizeLine := Nat.lt_of_le_of_lt h (by decide)
def opAdd : D → D → Rs D
  | .int i, .int j => .ok (.int (i + j))
  | .str x, .str y => if Sz (x.length + y.length) then .ok (.str (x ++ y)) else .no
  | .lst xs, .lst ys => if Sz (xs.length + ys.length) then .ok (.lst (xs ++ ys)) else .no
  | .tup xs, .tup ys => if xs ≠ [] ∧ ys ≠ [] ∧ Sz (xs.length + ys.length) then .ok (.tup (xs ++ ys)) else .no
  | _, _ => .no
def opMul : D → D → Rs D
  | .int i, .int j => if Bd i ∧ Bd j then .ok (.int (i * j)) else .no
  | .str x, .int j => if 0 ≤ j ∧ j ≤ 4000 ∧ x.length ≤ 1000 then .ok (.str (Txt.mul x j)) else .no
  | .lst xs, .int j => if -4000000 ≤ j ∧ j ≤ 4000000 ∧ Sz (xs.length * j.toNat) then .ok (.lst (List.replicate j.toNat xs).flatten) else .no
  | _, _ => .no
section
variable {G : KC} {O : Addr → Prop} {E : XK} {U H F : Hp} {t t1 t2 t3 : T} {v w : V} {Q : VK} {x y : D}
theorem int_of {i : Int} (h : RT G F U t v (.int i)) : v = .int i := by cases h with | fr r => cases r; rfl
theorem str_of {i : Str} (h : RT G F U t v (.str i)) : v = .str i := by cases h with | fr r => cases r; rfl
theorem non_of (h : RT G F U t v .non) : v = .non := by cases h with | fr r => cases r; rfl
theorem tup_of {ds : List D} (h : RT G F U t v (.tup ds)) : ∃ a vs, v = .ref a ∧ SqT G.K F a vs ∧ RA G F vs ds := by cases h with | fr r => cases r with | tup h r => exact ⟨_, _, rfl, h, r⟩
theorem lst_of {ds : List D} (e : Same F U) (h : RT G F U t v (.lst ds)) : ∃ a vs, v = .ref a ∧ U a = some (.lst vs) ∧ RA G U vs ds := by
  cases h with
  | fr r => cases r with | lst h z r => exact ⟨_, _, rfl, e _ _ h, r.mono e⟩
  | lst h z r => exact ⟨_, _, rfl, h, r.r e⟩
theorem dic_of {ds : List (Key × D)} (e : Same F U) (h : RT G F U t v (.dic ds)) : ∃ a vs, v = .ref a ∧ Rd U a (.dK vs) ∧ RK G U vs ds := by
  cases h with
  | fr r => cases r with | dic h z r => exact ⟨_, _, rfl, same_rd e h, r.mono e⟩
  | dic h z r => exact ⟨_, _, rfl, h, r.r e⟩
theorem PQ_i2 {α : Type} {rel : Rel V D} {f : Int → Int → Rs D} {Q : VK} (q : PQ G O E U H rel Q (i2 f x y)) : ∃ i j, x = .int i ∧ y = .int j ∧ PQ G O E U H rel Q (f i j) := by
  cases x with
  | int i =>
    cases y with
    | int j => exact ⟨i, j, rfl, rfl, q⟩
    | _ => exact q.elim
  | _ => cases y <;> exact q.elim
theorem o2_i0 {g : Int → Int → V} {gd : Int → Int → D} (hg : ∀ F i j, R G F (g i j) (gd i j)) : O2 G t1 t2 t3 (rI0 g) (i2 fun i j => .ok (gd i j)) := fun O U H v w x y a r1 r2 Q E q => by
  obtain ⟨i, j, rfl, rfl, q⟩ := PQ_i2 (α := D) q
  exact ⟨i, j, int_of r1, int_of r2, q.fin a.s (.fr (hg _ i j))⟩
theorem o2_i {C : Int → Int → Prop} {c : Int → Int → Prop} [∀ i j, Decidable (c i j)] {g : Int → Int → V} {gd : Int → Int → D} (hg : ∀ F i j, R G F (g i j) (gd i j)) (hc : ∀ i j, c i j → C i j) : O2 G t1 t2 t3 (rI C g) (i2 fun i j => if c i j then .ok (gd i j) else .no) := fun O U H v w x y a r1 r2 Q E q => by
  obtain ⟨i, j, rfl, rfl, q⟩ := PQ_i2 (α := D) q
  obtain ⟨h, q⟩ := ite_ok q
  exact ⟨i, j, int_of r1, int_of r2, hc i j h, q.fin a.s (.fr (hg _ i j))⟩
theorem o2_sub : O2 G t1 t2 t3 rSubI opSub := o2_i0 fun _ _ _ => .int _
theorem o2_div : O2 G t1 t2 t3 rDivI opDiv := o2_i (C := CDivW) (c := fun _ j => 0 < j ∧ Bd j) (fun _ _ _ => .int _) fun i j h => wide_div h.1 h.2.lt (by decide) (by decide)
theorem o2_mod : O2 G t1 t2 t3 rModI opMod := o2_i (C := fun _ j => 0 < j) (c := fun _ j => 0 < j) (fun _ _ _ => .int _) fun i j h => h
theorem o2_pow : O2 G t1 t2 t3 rPowI opPow := o2_i (C := CPow) (c := fun i j => 0 ≤ j ∧ j ≤ 1000000 ∧ i.natAbs < 2 ^ 64) (fun _ _ _ => .int _) fun i j h => h
theorem o2_shl : O2 G t1 t2 t3 rShlI opShl := o2_i (C := CPow) (c := fun i j => 0 ≤ j ∧ j ≤ 1000000 ∧ i.natAbs < 2 ^ 64) (fun _ _ _ => .int _) fun i j h => h
theorem o2_lt : O2 G t1 t2 t3 rLtI opLt := o2_i0 fun _ _ _ => .bl _
theorem o2_le : O2 G t1 t2 t3 rLeI opLe := o2_i0 fun _ _ _ => .bl _
theorem o2_gt : O2 G t1 t2 t3 rGtI opGt := o2_i0 fun _ _ _ => .bl _
theorem o2_ge : O2 G t1 t2 t3 rGeI opGe := o2_i0 fun _ _ _ => .bl _
theorem o1_neg : O1 G t1 t3 rNegI opNeg := fun O U H v x a r1 Q E q => by
  cases x with
  | int i => exact ⟨i, int_of r1, q.fin a.s (.fr (.int _))⟩
  | _ => exact q.elim
/-- a new list, its items frozen -/
theorem new_lst {a : Reg G O U H} {p : Addr} {vs : List V} {ds : List D} (hp : H p = none) (r : RA G (Fz O U) vs ds) : (rN G O (.lst .fz)).r H U (upd H p (.lst vs)) (.ref p) (.lst ds) :=
  ⟨[p], .lst upd_same (a.tn hp) (OwnA.of_r r), by simp, fun b hb => by cases List.mem_singleton.mp hb; exact ⟨hp, a.s.free hp⟩⟩
theorem new_fr {t : T} (h : R G (Fz O U) v x) (hl : isL x = false) : (rN G O (.lst t)).r H U H v x := ⟨[], .nl h hl, List.nodup_nil, fun b hb => absurd hb List.not_mem_nil⟩
theorem lst_fz {ds : List D} (e : Same F U) (h : RT G F U (.lst .fz) v (.lst ds)) : ∃ a vs, v = .ref a ∧ U a = some (.lst vs) ∧ RA G F vs ds := by
  cases h with
  | fr r => cases r with | lst h z r => exact ⟨_, _, rfl, e _ _ h, r⟩
  | lst h z r => exact ⟨_, _, rfl, h, r.fz⟩
theorem on_add : O2N G (.lst .fz) (.lst .fz) (.lst .fz) (rAddU G.K) opAdd := fun O U H v w x y a r1 r2 Q E q => by
  cases x with
  | int i =>
    cases y with
    | int j => exact Or.inl ⟨i, j, int_of r1, int_of r2, q _ U H (.refl a.s) (new_fr (.int _) rfl)⟩
    | _ => exact q.elim
  | str i =>
    cases y with
    | str j =>
      obtain ⟨h, q⟩ := ite_ok q
      exact Or.inr (Or.inl ⟨i, j, str_of r1, str_of r2, h.ok, q _ U H (.refl a.s) (new_fr (.str _) rfl)⟩)
    | _ => exact q.elim
  | lst xs =>
    cases y with
    | lst ys =>
      obtain ⟨h, q⟩ := ite_ok q
      obtain ⟨l, vs, rfl, e1, q1⟩ := lst_fz fz_le r1
      obtain ⟨b, ws, rfl, e2, q2⟩ := lst_fz fz_le r2
      refine Or.inr (Or.inr (Or.inl ⟨l, b, vs, ws, rfl, rfl, a.s _ _ e1, a.s _ _ e2, by rw [q1.len, q2.len]; exact h.ok, fun p hp => ?_⟩))
      exact q _ U _ ((Gr.refl a.s).newH hp) (new_lst (a := a) hp (q1.append q2))
    | _ => exact q.elim
  | tup xs =>
    cases y with
    | tup ys =>
      obtain ⟨h, q⟩ := ite_ok q
      obtain ⟨l, vs, rfl, e1, q1⟩ := tup_of r1
      obtain ⟨b, ws, rfl, e2, q2⟩ := tup_of r2
      have s : Same (Fz O U) H := fz_le.trans a.s
      have n1 : vs ≠ [] := fun z => by subst z; cases q1; exact h.1 rfl
      have n2 : ws ≠ [] := fun z => by subst z; cases q2; exact h.2.1 rfl
      refine Or.inr (Or.inr (Or.inr ⟨l, b, vs, ws, rfl, rfl, same_t s e1, same_t s e2, n1, by rw [q1.len, q2.len]; exact h.2.2.ok, fun z => absurd z n2, fun _ p hp => ?_⟩))
      have gn : Gr U H (upd U p (.tup (vs ++ ws))) (upd H p (.tup (vs ++ ws))) := (Gr.refl a.s).new hp
      refine q _ _ _ gn ⟨[], .nl (.tup (Or.inl (Or.inl (fz_of (a.no hp) upd_same))) ((q1.append q2).mono (fz_mono gn.f))) rfl, List.nodup_nil, fun b hb => absurd hb List.not_mem_nil⟩
    | _ => exact q.elim
  | _ => cases y <;> exact q.elim
theorem mulS_ok {z : Str} {i : Int} (h0 : 0 ≤ i) (h1 : i ≤ 4000) (h2 : z.length ≤ 1000) : PySem.MulOk z i := by
  refine ⟨by simp; omega, fun n1 _ => ?_, fun n1 _ => ?_⟩
  · have : (9223372036854775807 : Int) / 4000 ≤ (2 ^ 63 - 1) / i := by
      have p : (0 : Int) < i := by omega
      refine (Int.le_ediv_iff_mul_le p).mpr ?_
      have : (9223372036854775807 : Int) / 4000 = 2305843009213693 := by decide
      rw [this]
      have : (2305843009213693 : Int) * i ≤ 2305843009213693 * 4000 := Int.mul_le_mul_of_nonneg_left h1 (by decide)
      omega
    have e : (9223372036854775807 : Int) / 4000 = 2305843009213693 := by decide
    omega
  · have : z.length * i.toNat ≤ 1000 * 4000 := Nat.mul_le_mul h2 (by omega)
    unfold Builtin.Str.tooLong
    rw [decide_eq_false_iff_not]
    have := sizeLine_eq
    omega
theorem on_mul : O2N G (.lst .fz) t2 (.lst .fz) rMulU opMul := fun O U H v w x y a r1 r2 Q E q => by
  cases x with
  | int i =>
    cases y with
    | int j =>
      obtain ⟨h, q⟩ := ite_ok q
      exact Or.inl ⟨i, j, int_of r1, int_of r2, wide_mul h.1.lt h.2.lt (by decide) (by decide) (by decide), q _ U H (.refl a.s) (new_fr (.int _) rfl)⟩
    | _ => exact q.elim
  | str z =>
    cases y with
    | int j =>
      obtain ⟨h, q⟩ := ite_ok q
      exact Or.inr (Or.inl ⟨z, j, str_of r1, int_of r2, mulS_ok h.1 h.2.1 h.2.2, q _ U H (.refl a.s) (new_fr (.str _) rfl)⟩)
    | _ => exact q.elim
  | lst xs =>
    cases y with
    | int j =>
      obtain ⟨h, q⟩ := ite_ok q
      obtain ⟨l, vs, rfl, e1, q1⟩ := lst_fz fz_le r1
      refine Or.inr (Or.inr ⟨l, j, vs, rfl, int_of r2, a.s _ _ e1, by omega, by omega, by rw [q1.len]; exact h.2.2.ok, fun p hp => ?_⟩)
      exact q _ U _ ((Gr.refl a.s).newH hp) (new_lst (a := a) hp (q1.reps _))
    | _ => exact q.elim
  | _ => cases y <;> exact q.elim
/-- a new thing, frozen at once -/
theorem PQ.froz {z : Rs D} (a : Reg G O U H) (q : PQ G O E U H (rV G O .fz) Q z) : PQ G O E U H (rN G O t) Q z := by
  cases z with
  | ok d =>
    intro v U' H' g ⟨fp, ow, nd, k⟩
    refine q v _ _ (gr_uni g k) (.fr ?_)
    have key : ∀ b ∈ fp, ¬ O b := fun b hb z => by
      obtain ⟨u, e⟩ := a.o b z
      rw [(k b hb).1] at e
      cases e
    exact (RT.r (F := Fz O U') (fz_mono uni_le) (ow.rt fun b hb o ho => fz_of (key b hb) (uni_fp hb (k b hb).2 ho)))
  | ex c fs => exact q
  | no => exact q
theorem o2_of_n {r : R2} {op : D → D → Rs D} (h : O2N G t1 t2 t r op) : O2 G .fz .fz .fz r op := fun O U H v w x y a r1 r2 Q E q =>
  h O U H v w x y a (.fr r1.fz) (.fr r2.fz) Q E (PQ.froz a q)
theorem o2_add : O2 G .fz .fz .fz (rAddU G.K) opAdd := o2_of_n on_add
theorem o2_mul : O2 G .fz .fz .fz rMulU opMul := o2_of_n (on_mul (t2 := .fz))
end
end Y

namespace Y
open PySem PySem.Spec PyProof.Rows L2 Z

/-! ## plain data: ==, in, repr -/
mutual
def toP : D → PyData
  | .non => .none
  | .bl b => .bool b
  | .int i => .int i
  | .str x => .str x
  | .lst xs => .list (toPs xs)
  | .tup xs => .tuple (toPs xs)
  | .dic _ => .none
  | .obj _ _ => .none
  | .cel _ d => toP d
def toPs : List D → List PyData
  | [] => []
  | x :: xs => toP x :: toPs xs
end
mutual
/-- neither dicts nor objects within -/
def pla : D → Bool
  | .lst xs => plas xs
  | .tup xs => plas xs
  | .dic _ => false
  | .obj _ _ => false
  | .cel _ d => pla d
  | _ => true
def plas : List D → Bool
  | [] => true
  | x :: xs => pla x && plas xs
end
section
variable {G : KC} {F H : Hp}
mutual
theorem R.dp : ∀ {v : V} {d : D}, R G F v d → pla d = true → Dp G.K F v (toP d)
  | _, _, .non, _ => by simp only [toP]; exact .non
  | _, _, .bl b, _ => by simp only [toP]; exact .bl b
  | _, _, .int i, _ => by simp only [toP]; exact .int i
  | _, _, .str x, _ => by simp only [toP]; exact .str x
  | _, _, .lst h _ r, p => by simp only [toP]; exact .lst (Or.inl (Or.inl h)) (RA.dp r (by simpa only [pla] using p))
  | _, _, .tup h r, p => by simp only [toP]; exact .tup h (RA.dp r (by simpa only [pla] using p))
  | _, _, .dic h _ r, p => by simp [pla] at p
  | _, _, .obj h _ r, p => by simp [pla] at p
  | _, _, .cl h _ r, p => by simp only [toP]; exact .lst (Or.inl (Or.inl h)) (RA.dp r (by simpa only [pla] using p))
  | _, _, .cd h _ r, p => by simp [pla] at p
theorem RA.dp : ∀ {vs : List V} {ds : List D}, RA G F vs ds → plas ds = true → DpAll G.K F vs (toPs ds)
  | _, _, .nil, _ => by simp only [toPs]; exact .nil
  | _, _, .cons h r, p => by
    simp only [plas, Bool.and_eq_true] at p
    simp only [toPs]
    exact .cons (R.dp h p.1) (RA.dp r p.2)
end
/-- plain, within the lines of == -/
def okD (d : D) : Bool := pla d && SeqAt.shaped (toP d)
theorem okD_p {d : D} (h : okD d = true) : pla d = true := (Bool.and_eq_true_iff.mp h).1
theorem okD_s {d : D} (h : okD d = true) : SeqAt.shaped (toP d) = true := (Bool.and_eq_true_iff.mp h).2
def eqD (x y : D) : Bool := PyData.eqv (toP x) (toP y)
def rEqY (K : PySem.W.Frag) : R2 := fun x y H Q => rEq x y H Q ∨ rEqD K x y H Q
def rNeY (K : PySem.W.Frag) : R2 := fun x y H Q => rNe x y H Q ∨ rNeD K x y H Q
theorem zo_eqY {X : Cx} (hu : X.A.units + 64 < cLine) : OpR X (compareOp .Eq) (rEqY X.K) := or_op op_eq (op_eqD hu)
theorem zo_neY {X : Cx} (hu : X.A.units + 64 < cLine) : OpR X (compareOp .NotEq) (rNeY X.K) := or_op op_ne (op_neD hu)
/-- strings are told apart whatever they are -/
def strEq : D → D → Option Bool
  | .str a, .str b => some (decide (a = b))
  | _, _ => none
theorem strEq_some {x y : D} {b : Bool} (h : strEq x y = some b) : ∃ i j, x = .str i ∧ y = .str j ∧ b = decide (i = j) := by
  unfold strEq at h
  split at h
  · cases h; exact ⟨_, _, rfl, rfl, rfl⟩
  · cases h
def opEq (x y : D) : Rs D := match strEq x y with
  | some b => .ok (.bl b)
  | none => if okD x = true ∧ okD y = true then .ok (.bl (eqD x y)) else .no
def opNe (x y : D) : Rs D := match strEq x y with
  | some b => .ok (.bl (!b))
  | none => if okD x = true ∧ okD y = true then .ok (.bl (!eqD x y)) else .no
theorem str_dec (i j : Str) : decide (V.str i = V.str j) = decide (i = j) := decide_eq_decide.mpr ⟨fun z => V.str.inj z, fun z => by rw [z]⟩
theorem RT.str {F U : Hp} {t : T} {v : V} {i : Str} (h : RT G F U t v (.str i)) : v = .str i := by cases h with | fr r => cases r; rfl
theorem o2_eq {t1 t2 t3 : T} : O2 G t1 t2 t3 (rEqY G.K) opEq := fun O U H v w x y a r1 r2 Q E q => by
  unfold opEq at q
  split at q
  · rename_i b hb
    obtain ⟨i, j, rfl, rfl, rfl⟩ := strEq_some hb
    obtain rfl := RT.str r1
    obtain rfl := RT.str r2
    refine Or.inl ⟨rfl, ?_⟩
    rw [str_dec]
    exact q.fin a.s (.fr (.bl _))
  · obtain ⟨h, q⟩ := ite_ok q
    exact Or.inr ⟨_, _, R.dp ((r1.r fz_le).mono a.s) (okD_p h.1), R.dp ((r2.r fz_le).mono a.s) (okD_p h.2), okD_s h.1, okD_s h.2, q.fin a.s (.fr (.bl _))⟩
theorem o2_ne {t1 t2 t3 : T} : O2 G t1 t2 t3 (rNeY G.K) opNe := fun O U H v w x y a r1 r2 Q E q => by
  unfold opNe at q
  split at q
  · rename_i b hb
    obtain ⟨i, j, rfl, rfl, rfl⟩ := strEq_some hb
    obtain rfl := RT.str r1
    obtain rfl := RT.str r2
    refine Or.inl ⟨rfl, ?_⟩
    rw [str_dec]
    exact q.fin a.s (.fr (.bl _))
  · obtain ⟨h, q⟩ := ite_ok q
    exact Or.inr ⟨_, _, R.dp ((r1.r fz_le).mono a.s) (okD_p h.1), R.dp ((r2.r fz_le).mono a.s) (okD_p h.2), okD_s h.1, okD_s h.2, q.fin a.s (.fr (.bl _))⟩
end

/-! ### is None, is True, is False -/
def sngV : V → Bool
  | .non => true
  | .bl _ => true
  | _ => false
def rIsP : R2 := fun x y H Q => sngV y = true ∧ Q (.bl (decide (x = y))) H
def rNotP : R2 := fun x y H Q => sngV y = true ∧ Q (.bl (!decide (x = y))) H
section
variable {X : Cx}
theorem same_sng {M : Model} {A : Around} {E : Value → Shared → Prop} {s : Shared} {x y : V} {u w : Value} {R : Bool → Shared → Prop} (r : RelV x u) (r2 : RelV y w) (h : sngV y = true) (q : R (decide (x = y)) s) : wpAny M A (isSame u w) R E s := by
  have eq_ : ∀ {u w : Value}, plainIs u w = true → (u == w) = decide (x = y) → wpAny M A (isSame u w) R E s := fun h1 h2 => wpAny_isSame_plain h1 (by rw [h2]; exact q)
  cases y with
  | non =>
    cases r2
    cases x with
    | ref a => cases r; exact eq_ rfl (by simp)
    | non => cases r; exact eq_ rfl (by simp)
    | bl b => cases r; exact eq_ rfl (by simp)
    | int i => obtain ⟨t, rfl⟩ := r; exact eq_ rfl (by simp)
    | str x => obtain ⟨t, rfl⟩ := r; exact eq_ rfl (by simp)
    | byt x => obtain ⟨t, rfl⟩ := r; exact eq_ rfl (by simp)
    | flt x => obtain ⟨t, rfl⟩ := r; exact eq_ rfl (by simp)
    | ty n => cases r; exact eq_ rfl (by simp)
  | bl c =>
    cases r2
    cases x with
    | ref a => cases r; exact eq_ rfl (by simp)
    | non => cases r; exact eq_ rfl (by simp)
    | bl b => cases r; exact eq_ rfl (by cases b <;> cases c <;> rfl)
    | int i => obtain ⟨t, rfl⟩ := r; exact eq_ rfl (by simp)
    | str x => obtain ⟨t, rfl⟩ := r; exact eq_ rfl (by simp)
    | byt x => obtain ⟨t, rfl⟩ := r; exact eq_ rfl (by simp)
    | flt x => obtain ⟨t, rfl⟩ := r; exact eq_ rfl (by simp)
    | ty n => cases r; exact eq_ rfl (by simp)
  | _ => cases h
theorem zo_isP : OpR X (compareOp .Is) rIsP := by
  intro pins s σ H x y v u Q I rx ry ⟨h, q⟩
  show wpAny _ _ ((isSame v u) >>= fun z => pure (Value.bool z)) _ _ s
  exact wpAny_bind (same_sng rx ry h (wpAny_pure (fin_bl I q rfl)))
theorem zo_notP : OpR X (compareOp .IsNot) rNotP := by
  intro pins s σ H x y v u Q I rx ry ⟨h, q⟩
  show wpAny _ _ ((isSame v u) >>= fun z => pure (Value.bool (!z))) _ _ s
  exact wpAny_bind (same_sng rx ry h (wpAny_pure (fin_bl I q rfl)))
end
/-- y is None, True or False: x is it -/
def isS : D → D → Rs Bool
  | .non, .non => .ok true
  | _, .non => .ok false
  | .bl a, .bl b => .ok (decide (a = b))
  | _, .bl _ => .ok false
  | _, _ => .no
def opIs (x y : D) : Rs D := (isS x y).bind fun b => .ok (.bl b)
def opIsNot (x y : D) : Rs D := (isS x y).bind fun b => .ok (.bl (!b))
section
variable {G : KC} {O : Addr → Prop} {E : XK} {U H F : Hp} {t t1 t2 t3 : T} {v w : V} {Q : VK} {x y : D}
theorem isS_v {P : Rs Bool → Prop} (hno : ¬ P .no) (r1 : RT G F U t1 v x) (r2 : RT G F U t2 w y) (q : P (isS x y)) : sngV w = true ∧ P (.ok (decide (v = w))) := by
  cases y with
  | non =>
    have e := non_of r2
    subst e
    refine ⟨rfl, ?_⟩
    cases r1 with
    | fr r => cases r <;> simpa [isS] using q
    | lst _ _ _ => simpa [isS] using q
    | dic _ _ _ => simpa [isS] using q
    | obj _ _ _ => simpa [isS] using q
  | bl b =>
    have e := bl_of r2
    subst e
    refine ⟨rfl, ?_⟩
    cases r1 with
    | fr r => cases r <;> simpa [isS] using q
    | lst _ _ _ => simpa [isS] using q
    | dic _ _ _ => simpa [isS] using q
    | obj _ _ _ => simpa [isS] using q
  | _ => cases x <;> exact absurd q hno
theorem o2_is : O2 G t1 t2 t3 rIsP opIs := fun O U H v w x y a r1 r2 Q E q => by
  obtain ⟨h, q⟩ := isS_v (P := fun z => PQ G O E U H (rV G O t3) Q (z.bind fun b => .ok (.bl b))) (fun z => z) r1 r2 q
  exact ⟨h, q.fin a.s (.fr (.bl _))⟩
theorem o2_isNot : O2 G t1 t2 t3 rNotP opIsNot := fun O U H v w x y a r1 r2 Q E q => by
  obtain ⟨h, q⟩ := isS_v (P := fun z => PQ G O E U H (rV G O t3) Q (z.bind fun b => .ok (.bl (!b)))) (fun z => z) r1 r2 q
  exact ⟨h, q.fin a.s (.fr (.bl _))⟩
end

/-! ### in -/
def rInS (neg : Bool) : R2 := fun x y H Q => ∃ i j, x = .str i ∧ y = .str j ∧ Q (.bl (neg != !(Builtin.Str.occurrences j i 0 j.length 1).isEmpty)) H
def rInQ (K : PySem.W.Frag) (neg : Bool) : R2 := fun x y H Q => ∃ d e ds, Dp K H x d ∧ Dp K H y e ∧ (e = .list ds ∨ e = .tuple ds) ∧ SeqAt.shaped d = true ∧ SeqAt.shaped e = true ∧ Q (.bl (neg != ds.any fun z => PyData.eqv z d)) H
def rInK (neg : Bool) : R2 := fun x y H Q => ∃ a o, y = .ref a ∧ DGet H a x o ∧ Q (.bl (neg != o.isSome)) H
def rInU (K : PySem.W.Frag) (neg : Bool) : R2 := fun x y H Q => rInS neg x y H Q ∨ rInQ K neg x y H Q ∨ rInK neg x y H Q
section
variable {X : Cx}
theorem op_inS : OpR X (compareOp .In) (rInS false) := by
  intro pins s σ H x y v u Q I rx ry ⟨i, j, h1, h2, q⟩
  exact op_in_str pins s σ H x y v u Q I rx ry ⟨i, j, h1, h2, by simpa using q⟩
theorem op_ninS : OpR X (compareOp .NotIn) (rInS true) := by
  intro pins s σ H x y v u Q I rx ry ⟨i, j, h1, h2, q⟩
  exact op_notIn_str pins s σ H x y v u Q I rx ry ⟨i, j, h1, h2, by simpa using q⟩
theorem op_inQ (hu : X.A.units + 65 < cLine) : OpR X (compareOp .In) (rInQ X.K false) := by
  intro pins s σ H x y v u Q I rx ry h
  obtain ⟨d, e, ds, hd, he, hl, sd, se, q⟩ := h
  obtain ⟨as, r1⟩ := Dp.reads I d x v hd rx
  obtain ⟨bs, r2⟩ := Dp.reads I e y u he ry
  have q' : Q (.bl (ds.any fun z => PyData.eqv z d)) H := by simpa using q
  rcases hl with rfl | rfl
  · exact SeqAt.in_list_reads r2 r1 (SeqAt.canLay_of_shaped se) (SeqAt.canLay_of_shaped sd) (room_in_shaped sd hu) ⟨.bl _, H, I, rfl, q'⟩
  · exact SeqAt.in_tuple_reads r2 r1 (SeqAt.canLay_of_shaped se) (SeqAt.canLay_of_shaped sd) (room_in_shaped sd hu) ⟨.bl _, H, I, rfl, q'⟩
theorem op_ninQ (hu : X.A.units + 65 < cLine) : OpR X (compareOp .NotIn) (rInQ X.K true) := by
  intro pins s σ H x y v u Q I rx ry h
  obtain ⟨d, e, ds, hd, he, hl, sd, se, q⟩ := h
  obtain ⟨as, r1⟩ := Dp.reads I d x v hd rx
  obtain ⟨bs, r2⟩ := Dp.reads I e y u he ry
  have q' : Q (.bl (!ds.any fun z => PyData.eqv z d)) H := by simpa using q
  rcases hl with rfl | rfl
  · exact SeqAt.notIn_list_reads r2 r1 (SeqAt.canLay_of_shaped se) (SeqAt.canLay_of_shaped sd) (room_in_shaped sd hu) ⟨.bl _, H, I, rfl, q'⟩
  · exact SeqAt.notIn_tuple_reads r2 r1 (SeqAt.canLay_of_shaped se) (SeqAt.canLay_of_shaped sd) (room_in_shaped sd hu) ⟨.bl _, H, I, rfl, q'⟩
theorem op_inK (hu : X.A.units + 1 < cLine) : OpR X (compareOp .In) (rInK false) := by
  intro pins s σ H x y v u Q I rx ry h
  obtain ⟨a, o, rfl, g, q⟩ := h
  obtain rfl : u = Value.ref a := ry
  exact d_in hu I g rx fun s3 I3 => ⟨.bl o.isSome, H, I3, rfl, by simpa using q⟩
theorem op_ninK (hu : X.A.units + 1 < cLine) : OpR X (compareOp .NotIn) (rInK true) := by
  intro pins s σ H x y v u Q I rx ry h
  obtain ⟨a, o, rfl, g, q⟩ := h
  obtain rfl : u = Value.ref a := ry
  exact d_notIn hu I g rx fun s3 I3 => ⟨.bl (!o.isSome), H, I3, rfl, by simpa using q⟩
theorem zo_in (hu : X.A.units + 65 < cLine) : OpR X (compareOp .In) (rInU X.K false) := or_op op_inS (or_op (op_inQ hu) (op_inK (by omega)))
theorem zo_notin (hu : X.A.units + 65 < cLine) : OpR X (compareOp .NotIn) (rInU X.K true) := or_op op_ninS (or_op (op_ninQ hu) (op_ninK (by omega)))
end
/-- a text within a text -/
def strIn (x y : Str) : Bool := !(Builtin.Str.occurrences y x 0 y.length 1).isEmpty
def keyD : D → Option Key
  | .int i => some (.inl i)
  | .str x => some (.inr x)
  | _ => none
def valD {κ : Type} [DecidableEq κ] (kvs : List (κ × D)) (k : κ) : Option D := (kvs.find? fun kv => decide (kv.1 = k)).map (·.2)
/-- is x in y? -/
def inD (x y : D) : Rs Bool := match un y with
  | .str z => match x with
    | .str w => .ok (strIn w z)
    | _ => .no
  | .lst ds => if okD x = true ∧ okD (.lst ds) = true then .ok (ds.any fun z => eqD z x) else .no
  | .tup ds => if okD x = true ∧ okD (.tup ds) = true then .ok (ds.any fun z => eqD z x) else .no
  | .dic kvs => match keyD x with
    | some k => .ok (valD kvs k).isSome
    | none => .no
  | _ => .no
def opIn (x y : D) : Rs D := (inD x y).bind fun b => .ok (.bl b)
def opNotIn (x y : D) : Rs D := (inD x y).bind fun b => .ok (.bl (!b))
section
variable {G : KC} {O : Addr → Prop} {E : XK} {U H F : Hp} {t t1 t2 t3 : T} {v w : V} {Q : VK} {x y : D}
theorem toPs_map : ∀ ds : List D, toPs ds = ds.map toP
  | [] => rfl
  | d :: ds => by simp only [toPs, List.map_cons, toPs_map ds]
theorem RK.val : ∀ {vs : List (Key × V)} {ds : List (Key × D)}, RK G F vs ds → ∀ k : Key, (valV vs k = none ∧ valD ds k = none) ∨ ∃ v d, valV vs k = some v ∧ valD ds k = some d ∧ R G F v d
  | _, _, .nil, k => Or.inl ⟨rfl, rfl⟩
  | _, _, .cons (k := k') (vs := vs) (ds := ds) (d := d0) h r, k => by
    by_cases e : k' = k
    · refine Or.inr ⟨_, _, valV_pos e, ?_, h⟩
      simp [valD, List.find?_cons, e]
    · have a : valD ((k', d0) :: ds) k = valD ds k := by simp [valD, List.find?_cons, e]
      rw [valV_neg e, a]
      exact RK.val r k
theorem keyD_v {k : Key} (h : RT G F U t v x) (e : keyD x = some k) : v = kV k := by
  cases x with
  | int i => cases e; exact int_of h
  | str z => cases e; exact str_of h
  | _ => cases e
theorem R_lst {ds : List D} (r : R G F v x) (e : un x = .lst ds) : ∃ a vs, v = .ref a ∧ F a = some (.lst vs) ∧ RA G F vs ds := by
  cases r <;> simp only [un, reduceCtorEq, D.lst.injEq] at e
  · subst e; exact ⟨_, _, rfl, by assumption, by assumption⟩
  · subst e; exact ⟨_, _, rfl, by assumption, by assumption⟩
theorem R_tup {ds : List D} (r : R G F v x) (e : un x = .tup ds) : ∃ a vs, v = .ref a ∧ SqT G.K F a vs ∧ RA G F vs ds := by
  cases r <;> simp only [un, reduceCtorEq, D.tup.injEq] at e
  · subst e; exact ⟨_, _, rfl, by assumption, by assumption⟩
theorem R_dic {ds : List (Key × D)} (r : R G F v x) (e : un x = .dic ds) : ∃ a vs, v = .ref a ∧ Rd F a (.dK vs) ∧ RK G F vs ds := by
  cases r <;> simp only [un, reduceCtorEq, D.dic.injEq] at e
  · subst e; exact ⟨_, _, rfl, by assumption, by assumption⟩
  · subst e; exact ⟨_, _, rfl, by assumption, by assumption⟩
theorem R_str {z : Str} (r : R G F v x) (e : un x = .str z) : v = .str z := by
  cases r <;> simp only [un, reduceCtorEq, D.str.injEq] at e
  · subst e; rfl
theorem in_gen {neg : Bool} (a : Reg G O U H) (r1 : RT G (Fz O U) U t1 v x) (r2 : RT G (Fz O U) U t2 w y) (q : PQ G O E U H (rV G O t3) Q ((inD x y).bind fun b => .ok (.bl (neg != b)))) : rInU G.K neg v w H Q := by
  have rv := (r1.r fz_le).mono a.s
  have rw_ := (r2.r fz_le).mono a.s
  unfold inD at q
  generalize hu : un y = y' at q
  cases y' with
  | str z =>
    cases x with
    | str p => exact Or.inl ⟨p, z, str_of r1, R_str rw_ hu, q.fin a.s (.fr (.bl _))⟩
    | _ => exact q.elim
  | lst ds =>
    dsimp only at q
    by_cases h : okD x = true ∧ okD (.lst ds) = true
    · rw [if_pos h] at q
      obtain ⟨p, vs, rfl, e, rr⟩ := R_lst rw_ hu
      refine Or.inr (Or.inl ⟨toP x, .list (toPs ds), toPs ds, rv.dp (okD_p h.1), .lst (Or.inl (Or.inl e)) (rr.dp (by have := okD_p h.2; simpa only [pla] using this)), Or.inl rfl, okD_s h.1, by have := okD_s h.2; simpa only [toP] using this, ?_⟩)
      rw [toPs_map, List.any_map]
      exact q.fin a.s (.fr (.bl _))
    · rw [if_neg h] at q; exact q.elim
  | tup ds =>
    dsimp only at q
    by_cases h : okD x = true ∧ okD (.tup ds) = true
    · rw [if_pos h] at q
      obtain ⟨p, vs, rfl, e, rr⟩ := R_tup rw_ hu
      refine Or.inr (Or.inl ⟨toP x, .tuple (toPs ds), toPs ds, rv.dp (okD_p h.1), .tup e (rr.dp (by have := okD_p h.2; simpa only [pla] using this)), Or.inr rfl, okD_s h.1, by have := okD_s h.2; simpa only [toP] using this, ?_⟩)
      rw [toPs_map, List.any_map]
      exact q.fin a.s (.fr (.bl _))
    · rw [if_neg h] at q; exact q.elim
  | dic kvs =>
    dsimp only at q
    cases hk : keyD x with
    | none => rw [hk] at q; exact q.elim
    | some k =>
      rw [hk] at q
      obtain ⟨p, vs, rfl, e, rr⟩ := R_dic rw_ hu
      have ev := keyD_v r1 hk
      subst ev
      refine Or.inr (Or.inr ⟨p, _, rfl, Or.inl ⟨vs, k, e, rfl, rfl⟩, ?_⟩)
      have : (valV vs k).isSome = (valD kvs k).isSome := by
        rcases rr.val k with ⟨h1, h2⟩ | ⟨v, d, h1, h2, _⟩
        · rw [h1, h2]; rfl
        · rw [h1, h2]; rfl
      rw [this]
      exact q.fin a.s (.fr (.bl _))
  | _ => exact q.elim
theorem o2_in : O2 G t1 t2 t3 (rInU G.K false) opIn := fun O U H v w x y a r1 r2 Q E q => by
  refine in_gen (neg := false) (E := E) (t3 := t3) a r1 r2 ?_
  have : (fun b : Bool => (Rs.ok (.bl (false != b)) : Rs D)) = fun b => .ok (.bl b) := by funext b; cases b <;> rfl
  rw [this]
  exact q
theorem o2_notIn : O2 G t1 t2 t3 (rInU G.K true) opNotIn := fun O U H v w x y a r1 r2 Q E q => by
  refine in_gen (neg := true) (E := E) (t3 := t3) a r1 r2 ?_
  have : (fun b : Bool => (Rs.ok (.bl (true != b)) : Rs D)) = fun b => .ok (.bl (!b)) := by funext b; cases b <;> rfl
  rw [this]
  exact q
end
end Y

namespace Y
open PySem PySem.Spec PyProof.Rows L2 Z

/-! ## x[i] -/
def rIxD : R2 := fun x y H Q => ∃ a v, x = .ref a ∧ DGet H a y (some v) ∧ Q v H
def rIxU (K : PySem.W.Frag) : R2 := fun x y H Q => rIx K x y H Q ∨ rIxD x y H Q
theorem ix_dic {X : Cx} (hu : X.A.units + 1 < cLine) : IxR X rIxD := by
  intro value slice pins s σ H x y v u Q I rx ry h hs
  obtain ⟨a, z, rfl, g, q⟩ := h
  obtain rfl : v = Value.ref a := rx
  exact tail_any (dict_typeIs I g) PySem.F.slot_dict_getitem.lookup (d_getItem hu I g ry fun w' s3 I3 rw' => ⟨z, H, I3, rw', q⟩) hs
theorem ix_u {X : Cx} (hu : X.A.units + 1 < cLine) : IxR X (rIxU X.K) := IxR.or ix_seq (ix_dic hu)
def ofO {α : Type} : Option α → Rs α
  | some a => .ok a
  | none => .no
@[simp] theorem ofO_some {α : Type} (a : α) : ofO (some a) = .ok a := rfl
def opIx (x y : D) : Rs D := match un x with
  | .lst ds => match y with
    | .int i => ofO (atI ds i)
    | _ => .no
  | .tup ds => match y with
    | .int i => ofO (atI ds i)
    | _ => .no
  | .str z => match y with
    | .int i => if z.length ≤ 1000000 then (ofO (atI z.cps.toList i)).bind fun c => .ok (.str ⟨#[c]⟩) else .no
    | _ => .no
  | .dic kvs => match keyD y with
    | some k => ofO (valD kvs k)
    | none => .no
  | _ => .no
section
variable {G : KC} {O : Addr → Prop} {E : XK} {U H F : Hp} {t t1 t2 t3 : T} {v w : V} {Q : VK} {x y d : D} {K : PySem.W.Frag}
theorem atI_len {α β : Type} {xs : List α} {ys : List β} {i : Int} {y : β} (hl : xs.length = ys.length) (h : atI ys i = some y) (hx : ∀ (j : Nat), ys[j]? = some y → ∃ x, xs[j]? = some x) : ∃ (j : Nat), ys[j]? = some y ∧ atI xs i = xs[j]? := by
  unfold atI at h ⊢
  rw [hl]
  cases e : ixN ys.length i with
  | none => rw [e] at h; cases h
  | some j =>
    rw [e] at h
    exact ⟨j, h, rfl⟩
theorem RA.atI {vs : List V} {ds : List D} {i : Int} (r : RA G F vs ds) (h : L2.atI ds i = some d) : ∃ v, L2.atI vs i = some v ∧ R G F v d := by
  obtain ⟨j, hj, e⟩ := atI_len r.len h (fun j hj => let ⟨v, h, _⟩ := r.get j d hj; ⟨v, h⟩)
  obtain ⟨v, hv, rv⟩ := r.get j d hj
  exact ⟨v, e.trans hv, rv⟩
theorem RTA.atI {vs : List V} {ds : List D} {i : Int} (r : RTA G F U t vs ds) (h : L2.atI ds i = some d) : ∃ v, L2.atI vs i = some v ∧ RT G F U t v d := by
  obtain ⟨j, hj, e⟩ := atI_len r.len h (fun j hj => let ⟨v, h, _⟩ := r.get j d hj; ⟨v, h⟩)
  obtain ⟨v, hv, rv⟩ := r.get j d hj
  exact ⟨v, e.trans hv, rv⟩
theorem PQ_ofO {β α : Type} {O : Addr → Prop} {E : XK} {U H : Hp} {rel : Rel β α} {Q : β → Hp → Prop} {z : Option α} (q : PQ G O E U H rel Q (ofO z)) : ∃ a, z = some a ∧ PQ G O E U H rel Q (.ok a) := by
  cases z with
  | none => exact q.elim
  | some a => exact ⟨a, rfl, q⟩
theorem o2_ix : O2 G .fz t2 .fz (rIxU G.K) opIx := fun O U H v w x y a r1 r2 Q E q => by
  have r := r1.fz
  have s : Same (Fz O U) H := fz_le.trans a.s
  unfold opIx at q
  generalize hu : un x = x' at q
  cases x' with
  | lst ds =>
    cases y with
    | int i =>
      obtain ⟨d, hd, q⟩ := PQ_ofO q
      obtain ⟨b, vs, rfl, e, rr⟩ := R_lst r hu
      obtain ⟨v, hv, rv⟩ := rr.atI hd
      exact Or.inl (Or.inl ⟨b, vs, i, v, rfl, int_of r2, Or.inl (Or.inl (s _ _ e)), hv, q.fin a.s (.fr rv)⟩)
    | _ => exact q.elim
  | tup ds =>
    cases y with
    | int i =>
      obtain ⟨d, hd, q⟩ := PQ_ofO q
      obtain ⟨b, vs, rfl, e, rr⟩ := R_tup r hu
      obtain ⟨v, hv, rv⟩ := rr.atI hd
      exact Or.inl (Or.inr (Or.inl ⟨b, vs, i, v, rfl, int_of r2, same_t s e, hv, q.fin a.s (.fr rv)⟩))
    | _ => exact q.elim
  | str z =>
    cases y with
    | int i =>
      obtain ⟨h, q⟩ := ite_ok q
      cases hc : L2.atI z.cps.toList i with
      | none => rw [hc] at q; exact q.elim
      | some c =>
        rw [hc] at q
        exact Or.inl (Or.inr (Or.inr ⟨z, i, c, R_str r hu, int_of r2, big h, hc, q.fin a.s (.fr (.str _))⟩))
    | _ => exact q.elim
  | dic kvs =>
    dsimp only at q
    cases hk : keyD y with
    | none => rw [hk] at q; exact q.elim
    | some k =>
      rw [hk] at q
      obtain ⟨d, hd, q⟩ := PQ_ofO q
      obtain ⟨p, vs, rfl, e, rr⟩ := R_dic r hu
      have ev := keyD_v r2 hk
      subst ev
      rcases rr.val k with ⟨h1, h2⟩ | ⟨v, d', h1, h2, rv⟩
      · rw [h2] at hd; cases hd
      · rw [h2] at hd
        cases hd
        exact Or.inr ⟨p, v, rfl, Or.inl ⟨vs, k, same_rd s e, rfl, h1.symm⟩, q.fin a.s (.fr rv)⟩
  | _ => exact q.elim
/-- of a list that is owned or frozen -/
theorem o2_ixL : O2 G (.lst t) t2 t (rIxU G.K) opIx := fun O U H v w x y a r1 r2 Q E q => by
  cases r1 with
  | fr r =>
    refine o2_ix O U H v w x y a (.fr r) r2 Q E ?_
    revert q
    cases opIx x y with
    | ok d => exact fun q v U' H' g r => q v U' H' g (.fr r.fz)
    | ex c fs => exact fun q => q
    | no => exact fun q => q
  | @lst _ b vs ds e z r =>
    unfold opIx at q
    cases y with
    | int i =>
      obtain ⟨d, hd, q⟩ := PQ_ofO (show PQ G O E U H (rV G O t) Q (ofO (L2.atI ds i)) from q)
      obtain ⟨v, hv, rv⟩ := r.atI hd
      exact Or.inl (Or.inl ⟨b, vs, i, v, rfl, int_of r2, Or.inl (Or.inl (a.s _ _ e)), hv, q.fin a.s rv⟩)
    | _ => exact q.elim
theorem RTK.val : ∀ {vs : List (Key × V)} {ds : List (Key × D)}, RTK G F U t vs ds → ∀ k : Key, (valV vs k = none ∧ valD ds k = none) ∨ ∃ v d, valV vs k = some v ∧ valD ds k = some d ∧ RT G F U t v d
  | _, _, .nil, k => Or.inl ⟨rfl, rfl⟩
  | _, _, .cons (k := k') (vs := vs) (ds := ds) (d := d0) h r, k => by
    by_cases e : k' = k
    · refine Or.inr ⟨_, _, valV_pos e, ?_, h⟩
      simp [valD, List.find?_cons, e]
    · have a : valD ((k', d0) :: ds) k = valD ds k := by simp [valD, List.find?_cons, e]
      rw [valV_neg e, a]
      exact RTK.val r k
/-- of a dict -/
theorem o2_ixK : O2 G (.dic t) t2 t (rIxU G.K) opIx := fun O U H v w x y a r1 r2 Q E q => by
  cases r1 with
  | fr r =>
    refine o2_ix O U H v w x y a (.fr r) r2 Q E ?_
    revert q
    cases opIx x y with
    | ok d => exact fun q v U' H' g r => q v U' H' g (.fr r.fz)
    | ex c fs => exact fun q => q
    | no => exact fun q => q
  | @dic _ b vs ds e z r =>
    have q' : PQ G O E U H (rV G O t) Q (match keyD y with | some k => ofO (valD ds k) | none => .no) := q
    cases hk : keyD y with
    | none => rw [hk] at q'; exact q'.elim
    | some k =>
      rw [hk] at q'
      obtain ⟨d, hd, q⟩ := PQ_ofO q'
      have ev := keyD_v r2 hk
      subst ev
      rcases r.val k with ⟨h1, h2⟩ | ⟨v, d', h1, h2, rv⟩
      · rw [h2] at hd; cases hd
      · rw [h2] at hd
        cases hd
        exact Or.inr ⟨b, v, rfl, Or.inl ⟨vs, k, same_rd a.s e, rfl, h1.symm⟩, q.fin a.s rv⟩
end

/-! ## slices -/
def rSlU (K : PySem.W.Frag) : V → Option Int → Option Int → Hp → VK → Prop := fun x lo hi H Q => rSlL K x lo hi H Q ∨ rSlA K x lo hi H Q ∨ rSlS x lo hi H Q
theorem sl_u {X : Cx} : L2.SlR X (rSlU X.K) := sl_list.or (sl_tupA.or sl_str)
def cutD (xs : List D) (lo hi : Option Int) : List D := (xs.drop (HT.sIx xs.length 0 lo)).take (HT.sIx xs.length xs.length hi - HT.sIx xs.length 0 lo)
def rO (G : KC) (O : Addr → Prop) : Rel (Option Int) (Option Int) := ⟨fun _ _ _ b a => b = a, fun _ h => h⟩
def pNone : Env → Rs (Option Int) := fun _ => .ok none
def asI : D → Rs Int
  | .int i => .ok i
  | _ => .no
def pSome (f : Env → Rs D) : Env → Rs (Option Int) := fun Γ => (f Γ).bind fun d => (asI d).bind fun i => .ok (some i)
def opSl (x : D) (lo hi : Option Int) : Rs D := match un x with
  | .lst ds => .ok (.lst (cutD ds lo hi))
  | .tup ds => .ok (.tup (cutD ds lo hi))
  | .str z => if z.length ≤ 1000000 then .ok (.str (cutS z lo hi)) else .no
  | _ => .no
def pSl (f : Env → Rs D) (l h : Env → Rs (Option Int)) : Env → Rs D := fun Γ => (f Γ).bind fun x => (l Γ).bind fun lo => (h Γ).bind fun hi => opSl x lo hi
section
variable {G : KC} {Θ : List Md} {E : EK} {te : TE} {tl th : TO} {t t1 t2 t3 t4 : T} {f g h : Env → Rs D} {fl fh : Env → Rs (Option Int)} {O : Addr → Prop} {U H F : Hp} {v w : V} {x y d : D}
abbrev EvO (G : KC) (Θ : List Md) (E : EK) (te : TO) (f : Env → Rs (Option Int)) : Prop := Ev G Θ E (rO G) te f
theorem eo_none : EvO G Θ E tNoPart pNone := fun O U H σ Γ a Q q => q.fin a.g.s rfl
theorem asI_bind {β δ : Type} {Ex : XK} {rel : Rel δ β} {Q : δ → Hp → Prop} {k : Int → Rs β} (q : PQ G O Ex U H rel Q ((asI x).bind k)) : ∃ b, x = .int b ∧ PQ G O Ex U H rel Q (k b) := by
  cases x <;> first | exact ⟨_, rfl, q⟩ | exact q.elim
theorem eo_some (h : EvV G Θ E t te f) : EvO G Θ E (tPart te) (pSome f) := fun O U H σ Γ a Q q =>
  h O U H σ Γ a _ (q.bind fun x v U1 H1 g1 r1 q => by
    obtain ⟨i, rfl, q⟩ := asI_bind q
    exact ⟨i, int_of r1, q.fin (a.grow g1).g.s rfl⟩)
theorem cutV_R {vs : List V} {ds : List D} (r : RA G F vs ds) (lo hi : Option Int) : RA G F (cutV vs lo hi) (cutD ds lo hi) := by
  unfold cutV cutD
  rw [r.len]
  exact (r.drop _).take _
/-- a list's is new -/
theorem en_sl (he : EvV G Θ E (.lst .fz) te f) (hl : EvO G Θ E tl fl) (hh : EvO G Θ E th fh) : EvN G Θ E (.lst .fz) (tSl (rSlU G.K) te tl th) (pSl f fl fh) := fun O U H σ Γ a Q q =>
  he O U H σ Γ a _ (q.bind fun x v U1 H1 g1 r1 q => hl O U1 H1 σ Γ (a.grow g1) _ (q.bind fun lo lo' U2 H2 g2 e2 q => hh O U2 H2 σ Γ ((a.grow g1).grow g2) _ (q.bind fun hi hi' U3 H3 g3 e3 q => by
    cases e2
    cases e3
    have a3 := ((a.grow g1).grow g2).grow g3
    have g23 := g2.trans g3
    have r3 := RT.mono (fz_mono g23.f) g23.f r1
    have s3 : Same (Fz O U3) H3 := fz_le.trans a3.g.s
    cases r3 with
    | @lst _ b vs ds e z r =>
      exact Or.inl ⟨b, vs, rfl, Or.inl (Or.inl (a3.g.s _ _ e)), fun p hp => q _ U3 _ ((Gr.refl a3.g.s).newH hp) (new_lst (a := a3.g) hp (cutV_R r.fz lo hi))⟩
    | fr r =>
      unfold opSl at q
      generalize hu : un x = x' at q
      cases x' with
      | lst ds =>
        obtain ⟨b, vs, rfl, e, rr⟩ := R_lst r hu
        exact Or.inl ⟨b, vs, rfl, Or.inl (Or.inl (s3 _ _ e)), fun p hp => q _ U3 _ ((Gr.refl a3.g.s).newH hp) (new_lst (a := a3.g) hp (cutV_R rr lo hi))⟩
      | tup ds =>
        obtain ⟨b, vs, rfl, e, rr⟩ := R_tup r hu
        refine Or.inr (Or.inl ⟨b, vs, rfl, same_t s3 e, fun hw => ?_, fun _ p hp => ?_⟩)
        · have : cutD ds lo hi = ds := by
            unfold cutD
            rw [rr.len] at hw
            rw [hw.1, hw.2, List.drop_zero, Nat.sub_zero, List.take_length]
          dsimp only at q
          rw [this] at q
          exact q _ U3 H3 (.refl a3.g.s) (new_fr (.tup e rr) rfl)
        · have gn : Gr U3 H3 (upd U3 p (.tup (cutV vs lo hi))) (upd H3 p (.tup (cutV vs lo hi))) := (Gr.refl a3.g.s).new hp
          exact q _ _ _ gn ⟨[], .nl (.tup (Or.inl (Or.inl (fz_of (a3.g.no hp) upd_same))) ((cutV_R rr lo hi).mono (fz_mono gn.f))) rfl, List.nodup_nil, fun b hb => absurd hb List.not_mem_nil⟩
      | str z =>
        dsimp only at q
        by_cases hz : z.length ≤ 1000000
        · rw [if_pos hz] at q
          exact Or.inr (Or.inr ⟨z, R_str r hu, big hz, q _ U3 H3 (.refl a3.g.s) (new_fr (.str _) rfl)⟩)
        · rw [if_neg hz] at q; exact q.elim
      | _ => exact q.elim)))
end
end Y

namespace Y
open PySem PySem.Spec PyProof.Rows L2 Z

/-! ## isinstance -/
inductive Ty where
  | int | bool | str | list | tuple | dict
def Ty.nm : Ty → String
  | .int => "int" | .bool => "bool" | .str => "str" | .list => "list" | .tuple => "tuple" | .dict => "dict"
inductive Cl where
  | ty (t : Ty) | own (c : Nat)
def tyIs : Ty → D → Bool
  | .int, .int _ => true
  | .int, .bl _ => true
  | .bool, .bl _ => true
  | .str, .str _ => true
  | .list, .lst _ => true
  | .tuple, .tup _ => true
  | .dict, .dic _ => true
  | _, _ => false
def isi1 : Cl → D → Bool
  | .ty t, d => tyIs t (un d)
  | .own c, d => match un d with
    | .obj k _ => decide (k = c)
    | _ => false
def opIsi (cs : List Cl) (x : D) : Rs D := .ok (.bl (cs.any fun c => isi1 c x))
/-- what is to be known of the classes -/
structure KOk (G : KC) : Prop where
  cls : ∀ c, c < G.nc → Cls G.K (G.cl c)
  ty : ∀ c, c < G.nc → PySem.W.findIn G.K (.ref (G.cl c)) "__class__" = some (some (.builtin "object.__class__")) ∧ PySem.W.specialIn G.K (.builtin "object.__class__") "__get__" = some (some (.builtin "getset_descriptor.__get__")) ∧ PySem.W.takesIn G.K (.builtin "object.__class__") = some true ∧ PySem.W.mroIn G.K (G.cl c) (.type "object") = some true
  ko : ∀ c t, c < G.nc → PySem.W.kitOne G.K (.ref (G.cl c)) (.type (Ty.nm t)) = some false
  kk : ∀ c k, c < G.nc → k < G.nc → PySem.W.kitOne G.K (.ref (G.cl c)) (.ref (G.cl k)) = some (decide (c = k))
  kn : ∀ c n, c < G.nc → n ∈ ["NoneType", "bool", "int", "str", "list", "tuple", "dict"] → PySem.W.kitOne G.K (.type n) (.ref (G.cl c)) = some false
/-- no classes -/
theorem kok0 {G : KC} (h : G.nc = 0) : KOk G := by
  refine ⟨fun c z => ?_, fun c z => ?_, fun c t z => ?_, fun c k z => ?_, fun c n z => ?_⟩ <;> (rw [h] at z; exact absurd z (Nat.not_lt_zero _))
def tyN : D → String
  | .non => "NoneType"
  | .bl _ => "bool"
  | .int _ => "int"
  | .str _ => "str"
  | .lst _ => "list"
  | .tup _ => "tuple"
  | .dic _ => "dict"
  | .obj _ _ => ""
  | .cel _ _ => ""
def tyV (G : KC) : D → Value
  | .obj c _ => .ref (G.cl c)
  | d => .type (tyN d)
section
variable {G : KC} {O : Addr → Prop} {Θ : List Md} {E : EK} {U H F : Hp} {t t1 t2 t3 : T} {v w : V} {Q : VK} {x y d : D} {ta : TE} {f : Env → Rs D}
theorem ty_x (hk : KOk G) (r : R G U v x) (s : Same U H) : TyX G.K H v (tyV G (un x)) := by
  cases r with
  | non => exact .base .non
  | bl b => exact .base (.bl _)
  | int b => exact .base (.int _)
  | str b => exact .base (.str _)
  | lst h _ r => exact .base (.lst (s _ _ h))
  | cl h _ r => exact .base (.lst (s _ _ h))
  | tup h r =>
    rcases h with (h | ⟨o, h⟩) | ⟨o, its, n, h1, h2, _⟩
    · exact .base (.tup (s _ _ h))
    · exact .fTuple (s _ _ h)
    · exact .kTuple h1 h2
  | dic h _ r => exact h.elim (fun h => .base (.dK (s _ _ h))) fun ⟨o, h⟩ => .fDict (s _ _ h)
  | cd h _ r => exact h.elim (fun h => .base (.dK (s _ _ h))) fun ⟨o, h⟩ => .fDict (s _ _ h)
  | obj h hc r =>
    have z := hk.ty _ hc.1
    exact .base (.ins (s _ _ h) (hk.cls _ hc.1) z.1 z.2.1 z.2.2.1 z.2.2.2)
inductive ClR (G : KC) : Cl → V → Value → Prop
  | ty (t : Ty) : ClR G (.ty t) (.ty t.nm) (.type t.nm)
  | own (c : Nat) (h : c < G.nc) : ClR G (.own c) (.ref (G.cl c)) (.ref (G.cl c))
theorem ClR.cv {c : Cl} {cv : V} {u : Value} (h : ClR G c cv u) : ClsV cv u := by
  cases h with
  | ty t => exact .ty _
  | own c h => exact .own _
theorem kit_bb : ∀ n ∈ ["NoneType", "bool", "int", "str", "list", "tuple", "dict"], ∀ t : Ty, kitB n t.nm = some (decide (n = t.nm) || (decide (n = "bool") && decide (t.nm = "int"))) := by
  intro n hn t
  simp only [List.mem_cons, List.not_mem_nil, or_false] at hn
  rcases hn with rfl | rfl | rfl | rfl | rfl | rfl | rfl <;> cases t <;> decide +kernel
theorem kit_isi (hk : KOk G) {c : Cl} {cv : V} {u : Value} (hc : ClR G c cv u) (r : R G U v x) : PySem.W.kitOne G.K (tyV G (un x)) u = some (isi1 c x) := by
  cases hc with
  | ty t =>
    cases r with
    | obj h hc r => exact (hk.ko _ t hc.1).trans (by cases t <;> rfl)
    | non => exact (kit_ty (kit_bb "NoneType" (by decide) t)).trans (by cases t <;> simp [Ty.nm, isi1, un, tyIs])
    | bl b => exact (kit_ty (kit_bb "bool" (by decide) t)).trans (by cases t <;> simp [Ty.nm, isi1, un, tyIs])
    | int b => exact (kit_ty (kit_bb "int" (by decide) t)).trans (by cases t <;> simp [Ty.nm, isi1, un, tyIs])
    | str b => exact (kit_ty (kit_bb "str" (by decide) t)).trans (by cases t <;> simp [Ty.nm, isi1, un, tyIs])
    | lst h _ r => exact (kit_ty (kit_bb "list" (by decide) t)).trans (by cases t <;> simp [Ty.nm, isi1, un, tyIs])
    | cl h _ r => exact (kit_ty (kit_bb "list" (by decide) t)).trans (by cases t <;> simp [Ty.nm, isi1, un, tyIs])
    | tup h r => exact (kit_ty (kit_bb "tuple" (by decide) t)).trans (by cases t <;> simp [Ty.nm, isi1, un, tyIs])
    | dic h _ r => exact (kit_ty (kit_bb "dict" (by decide) t)).trans (by cases t <;> simp [Ty.nm, isi1, un, tyIs])
    | cd h _ r => exact (kit_ty (kit_bb "dict" (by decide) t)).trans (by cases t <;> simp [Ty.nm, isi1, un, tyIs])
  | own c hc =>
    cases r with
    | obj h hc2 r => exact hk.kk _ _ hc2.1 hc
    | non => exact hk.kn _ "NoneType" hc (by decide)
    | bl b => exact hk.kn _ "bool" hc (by decide)
    | int b => exact hk.kn _ "int" hc (by decide)
    | str b => exact hk.kn _ "str" hc (by decide)
    | lst h _ r => exact hk.kn _ "list" hc (by decide)
    | cl h _ r => exact hk.kn _ "list" hc (by decide)
    | tup h r => exact hk.kn _ "tuple" hc (by decide)
    | dic h _ r => exact hk.kn _ "dict" hc (by decide)
    | cd h _ r => exact hk.kn _ "dict" hc (by decide)
theorem ev_isi {c : Cl} {cv : V} {u : Value} (hk : KOk G) (hc : ClR G c cv u) (ha : EvV G Θ E t ta f) : EvV G Θ E .fz (tCB (rIsi G.K) (tCons ta (tCons (tC cv) tNil))) (pUn (opIsi [c]) f) := fun O U H σ Γ a Q q =>
  ha O U H σ Γ a _ (q.bind fun x v U1 H1 g1 r1 q => by
    have r := RT.r fz_le r1
    have e : opIsi [c] x = .ok (.bl (isi1 c x)) := by simp [opIsi]
    rw [e] at q
    exact ⟨v, cv, _, u, _, rfl, hc.cv, ty_x hk r (a.grow g1).g.s, kit_isi hk hc r, q.fin (a.grow g1).g.s (.fr (.bl _))⟩)
theorem ev_isi2 {c c' : Cl} {cv cv' : V} {u u' : Value} (hk : KOk G) (hc : ClR G c cv u) (hc' : ClR G c' cv' u') (ha : EvV G Θ E t ta f) :
    EvV G Θ E .fz (tCB (rIsiT G.K) (tCons ta (tCons (tTup (tCons (tC cv) (tCons (tC cv') tNil))) tNil))) (pUn (opIsi [c, c']) f) := fun O U H σ Γ a Q q =>
  ha O U H σ Γ a _ (q.bind fun x v U1 H1 g1 r1 q => by
    have a1 := a.grow g1
    have r := RT.r fz_le r1
    have e : opIsi [c, c'] x = .ok (.bl (isi1 c x || isi1 c' x)) := by simp [opIsi]
    rw [e] at q
    refine ⟨by show 2 ≤ sizeLine; decide, fun p hp => ?_⟩
    have gn : Gr U1 H1 U1 (upd H1 p (.tup [cv, cv'])) := (Gr.refl a1.g.s).newH hp
    refine ⟨v, p, [cv, cv'], _, [u, u'], isi1 c x || isi1 c' x, rfl, upd_same, .cons hc.cv (.cons hc'.cv .nil), ty_x hk r gn.s, ?_, q _ U1 _ gn (.fr (.bl _))⟩
    have k1 := kit_isi hk hc r
    have k2 := kit_isi hk hc' r
    generalize isi1 c x = b1 at k1 ⊢
    generalize isi1 c' x = b2 at k2 ⊢
    cases b1 with
    | true => exact kitAny_cons k1 (fun z => by cases z) (fun _ => rfl)
    | false =>
      cases b2 with
      | true => exact kitAny_cons k1 (fun _ => kitAny_cons k2 (fun z => by cases z) (fun _ => rfl)) (fun z => by cases z)
      | false => exact kitAny_cons k1 (fun _ => kitAny_cons k2 (fun _ => kitAny_nil) (fun z => by cases z)) (fun z => by cases z))
end

/-! ## built-ins -/
def rMax2 : List V → Hp → VK → Prop := fun xs H Q => ∃ i j, xs = [.int i, .int j] ∧ Q (.int (if j > i then j else i)) H
def rMin2 : List V → Hp → VK → Prop := fun xs H Q => ∃ i j, xs = [.int i, .int j] ∧ Q (.int (if j < i then j else i)) H
def rInt1 : List V → Hp → VK → Prop := fun xs H Q => (∃ i, xs = [.int i] ∧ Q (.int i) H) ∨ ∃ k, xs = [.bl k] ∧ Q (.int (if k then 1 else 0)) H
def rIntS : List V → Hp → VK → Prop := fun xs H Q => ∃ a n, xs = [.str a] ∧ PySem.intText? a = some n ∧ a.length ≤ 640 ∧ Q (.int n) H
def rIntU : List V → Hp → VK → Prop := fun xs H Q => rInt1 xs H Q ∨ rIntS xs H Q
def rLenA (K : PySem.W.Frag) : List V → Hp → VK → Prop := fun xs H Q => ∃ x n, xs = [x] ∧ LenV K x H n ∧ Q (.int n) H
def rLenD : List V → Hp → VK → Prop := fun xs H Q => ∃ d kvs, xs = [.ref d] ∧ Rd H d (.dK kvs) ∧ Q (.int kvs.length) H
def rLenU (K : PySem.W.Frag) : List V → Hp → VK → Prop := fun xs H Q => rLenA K xs H Q ∨ rLenD xs H Q
def rListU (K : PySem.W.Frag) : List V → Hp → VK → Prop := fun xs H Q => ∃ p ys, xs = [.ref p] ∧ (SqL K H p ys ∨ SqT K H p ys) ∧ ∀ l, H l = none → Q (.ref l) (upd H l (.lst ys))
def rTupU (K : PySem.W.Frag) : List V → Hp → VK → Prop := fun xs H Q => ∃ p ys, xs = [.ref p] ∧ ((SqL K H p ys ∧ ∀ l, H l = none → Q (.ref l) (upd H l (.tup ys))) ∨ (SqT K H p ys ∧ Q (.ref p) H))
def rRepr (K : PySem.W.Frag) : List V → Hp → VK → Prop := fun xs H Q => ∃ x d, xs = [x] ∧ Dp K H x d ∧ d.showable = true ∧ d.shown.length ≤ sizeLine ∧ d.depth ≤ 64 ∧ Q (.str d.shown) H
theorem or_call {X : Cx} {f : Value} {r r' : List V → Hp → VK → Prop} (h : CallR X f r) (h' : CallR X f r') : CallR X f (fun xs H Q => r xs H Q ∨ r' xs H Q) :=
  fun pins s σ H xs us Q I rs q => q.elim (fun z => h pins s σ H xs us Q I rs z) (fun z => h' pins s σ H xs us Q I rs z)
section
variable {X : Cx}
theorem call_lenR : CallR X (.builtin "len") rLenD := by
  intro pins s σ H xs us Q I r h
  obtain ⟨d, kvs, rfl, h, q⟩ := h
  obtain ⟨u, rfl, rx⟩ := vals1 r
  obtain rfl : u = Value.ref d := rx
  exact d_len I h fun t s' I' => ⟨.int kvs.length, H, I', ⟨t, rfl⟩, q⟩
theorem zc_max2 (hc : X.calm = true) : CallR X (.builtin "max") rMax2 := call_max2 hc
theorem zc_min2 (hc : X.calm = true) : CallR X (.builtin "min") rMin2 := call_min2 hc
theorem zc_int : CallR X (.type "int") rIntU := or_call call_int1 call_int_str
theorem zc_len : CallR X (.builtin "len") (rLenU X.K) := or_call call_len call_lenR
theorem zc_list : CallR X (.type "list") (rListU X.K) := call_list_of
theorem zc_tup : CallR X (.type "tuple") (rTupU X.K) := call_tuple_of
mutual
theorem dp_nodict {K : PySem.W.Frag} {H : Hp} : ∀ {v : V} {d : PyData}, Dp K H v d → d.hasDict = false
  | _, _, .non => by simp [PyData.hasDict]
  | _, _, .bl b => by simp [PyData.hasDict]
  | _, _, .int i => by simp [PyData.hasDict]
  | _, _, .str x => by simp [PyData.hasDict]
  | _, _, .lst h r => by simp [PyData.hasDict, dp_nodicts r]
  | _, _, .tup h r => by simp [PyData.hasDict, dp_nodicts r]
theorem dp_nodicts {K : PySem.W.Frag} {H : Hp} : ∀ {vs : List V} {ds : List PyData}, DpAll K H vs ds → PyData.hasDictAll ds = false
  | _, _, .nil => by simp [PyData.hasDictAll]
  | _, _, .cons h r => by simp [PyData.hasDictAll, dp_nodict h, dp_nodicts r]
end
theorem zc_repr (hG : X.A.guards = some []) (hu : X.A.units + 70 < cLine) : CallR X (.builtin "repr") (rRepr X.K) := by
  intro pins s σ H xs us Q I r h
  obtain ⟨x, d, rfl, hd, hs, hz, hdp, q⟩ := h
  obtain ⟨u, rfl, rx⟩ := Vals.one r
  have nd := dp_nodict hd
  obtain ⟨as, hr⟩ := Dp.reads I d x u hd rx
  cases hd with
  | non =>
    cases rx
    exact P.repr_of_none ⟨.str (PyData.shown .none), H, I.tok _, ⟨_, rfl⟩, q⟩
  | bl b =>
    cases rx
    exact P.repr_of_bool ⟨.str (PyData.shown (.bool b)), H, I.tok _, ⟨_, by cases b <;> rfl⟩, q⟩
  | int i =>
    obtain ⟨t, rfl⟩ := rx
    exact P.repr_of_int (by simpa [PyData.showable] using hs) ⟨.str (PyData.shown (.int i)), H, I.tok _, ⟨_, rfl⟩, q⟩
  | str z =>
    obtain ⟨t, rfl⟩ := rx
    exact P.repr_of_str ⟨.str (PyData.shown (.str z)), H, I.tok _, ⟨_, rfl⟩, q⟩ hz
  | lst h1 h2 =>
    cases rx
    exact repr_of_reads' hr hs (fun z => by rw [nd] at z; cases z) hG (by omega) (fun _ _ e => e) (fun h' u tk k => ⟨.str (PyData.shown _), H, I.kept (t' := tk) k, ⟨_, rfl⟩, q⟩) hz
  | tup h1 h2 =>
    cases rx
    exact repr_of_reads' hr hs (fun z => by rw [nd] at z; cases z) hG (by omega) (fun _ _ e => e) (fun h' u tk k => ⟨.str (PyData.shown _), H, I.kept (t' := tk) k, ⟨_, rfl⟩, q⟩) hz
end
def ints? : List D → Option (List Int)
  | [] => some []
  | .int i :: ds => (ints? ds).map (i :: ·)
  | _ :: _ => none
def bls? : List D → Option (List Bool)
  | [] => some []
  | .bl i :: ds => (bls? ds).map (i :: ·)
  | _ :: _ => none
def strs? : List D → Option (List Str)
  | [] => some []
  | .str i :: ds => (strs? ds).map (i :: ·)
  | _ :: _ => none
@[simp] theorem ints?_map : ∀ ns : List Int, ints? (ns.map D.int) = some ns
  | [] => rfl
  | n :: ns => by simp [ints?, ints?_map ns]
@[simp] theorem bls?_map : ∀ ns : List Bool, bls? (ns.map D.bl) = some ns
  | [] => rfl
  | n :: ns => by simp [bls?, bls?_map ns]
@[simp] theorem strs?_map : ∀ ns : List Str, strs? (ns.map D.str) = some ns
  | [] => rfl
  | n :: ns => by simp [strs?, strs?_map ns]
theorem ints?_eq : ∀ {ds : List D} {ns : List Int}, ints? ds = some ns → ds = ns.map D.int
  | [], ns, h => by cases h; rfl
  | d :: ds, ns, h => by
    cases d <;> simp only [ints?, reduceCtorEq] at h
    cases e : ints? ds with
    | none => rw [e] at h; cases h
    | some ms =>
      rw [e] at h
      cases h
      rw [ints?_eq e]
      rfl
theorem bls?_eq : ∀ {ds : List D} {ns : List Bool}, bls? ds = some ns → ds = ns.map D.bl
  | [], ns, h => by cases h; rfl
  | d :: ds, ns, h => by
    cases d <;> simp only [bls?, reduceCtorEq] at h
    cases e : bls? ds with
    | none => rw [e] at h; cases h
    | some ms =>
      rw [e] at h
      cases h
      rw [bls?_eq e]
      rfl
theorem strs?_eq : ∀ {ds : List D} {ns : List Str}, strs? ds = some ns → ds = ns.map D.str
  | [], ns, h => by cases h; rfl
  | d :: ds, ns, h => by
    cases d <;> simp only [strs?, reduceCtorEq] at h
    cases e : strs? ds with
    | none => rw [e] at h; cases h
    | some ms =>
      rw [e] at h
      cases h
      rw [strs?_eq e]
      rfl
def itemsD (x : D) : Option (List D) := match un x with
  | .lst ds => some ds
  | .tup ds => some ds
  | _ => none
def lstD (x : D) : Option (List D) := match un x with
  | .lst ds => some ds
  | _ => none
def opLen : List D → Rs D
  | [x] => match un x with
    | .lst ds => .ok (.int ds.length)
    | .tup ds => .ok (.int ds.length)
    | .str z => if z.length ≤ 1000000 then .ok (.int z.length) else .no
    | .dic ds => .ok (.int ds.length)
    | _ => .no
  | _ => .no
def opSum : List D → Rs D
  | [x] => (ofO ((lstD x).bind ints?)).bind fun ns => .ok (.int ns.sum)
  | _ => .no
def opAll : List D → Rs D
  | [x] => (ofO ((lstD x).bind bls?)).bind fun ns => .ok (.bl (ns.all id))
  | _ => .no
def opAny : List D → Rs D
  | [x] => (ofO ((lstD x).bind bls?)).bind fun ns => .ok (.bl (ns.any id))
  | _ => .no
def opMax2 : List D → Rs D
  | [.int i, .int j] => .ok (.int (if j > i then j else i))
  | _ => .no
def opMin2 : List D → Rs D
  | [.int i, .int j] => .ok (.int (if j < i then j else i))
  | _ => .no
def opInt : List D → Rs D
  | [.int i] => .ok (.int i)
  | [.bl b] => .ok (.int (if b then 1 else 0))
  | [.str z] => if z.length ≤ 640 then (ofO (PySem.intText? z)).bind fun n => .ok (.int n) else .no
  | _ => .no
def opList : List D → Rs D
  | [x] => (ofO (itemsD x)).bind fun ds => .ok (.lst ds)
  | _ => .no
def opTuple : List D → Rs D
  | [x] => (ofO (itemsD x)).bind fun ds => .ok (.tup ds)
  | _ => .no
/-- within the lines of repr -/
def okR (d : D) : Prop := pla d = true ∧ (toP d).showable = true ∧ (toP d).shown.length ≤ sizeLine ∧ (toP d).depth ≤ 64
instance (d : D) : Decidable (okR d) := inferInstanceAs (Decidable (_ ∧ _ ∧ _ ∧ _))
def opRepr : List D → Rs D
  | [x] => if okR x then .ok (.str (toP x).shown) else .no
  | _ => .no
section
variable {G : KC} {O : Addr → Prop} {Θ : List Md} {E : XK} {U H F : Hp} {t t1 t2 t3 : T} {v w : V} {Q : VK} {x y d : D} {ta : TE} {f : Env → Rs D} {vs : List V} {ds : List D} {ts : List T}
theorem RL.one (h : RL G F U ts vs [x]) : ∃ t v, ts = [t] ∧ vs = [v] ∧ RT G F U t v x := by
  cases h with
  | cons h r =>
    cases r
    exact ⟨_, _, rfl, rfl, h⟩
theorem RL.two (h : RL G F U ts vs [x, y]) : ∃ t t' v w, ts = [t, t'] ∧ vs = [v, w] ∧ RT G F U t v x ∧ RT G F U t' w y := by
  cases h with
  | cons h r =>
    obtain ⟨t', w, rfl, rfl, h'⟩ := r.one
    exact ⟨_, _, _, _, rfl, rfl, h, h'⟩
theorem itemsD_R (r : R G F v x) (e : itemsD x = some ds) : ∃ a vs, v = .ref a ∧ (F a = some (.lst vs) ∨ SqT G.K F a vs) ∧ RA G F vs ds := by
  unfold itemsD at e
  generalize hu : un x = z at e
  cases z <;> simp only [reduceCtorEq, Option.some.injEq] at e
  · subst e
    obtain ⟨a, vs, h1, h2, h3⟩ := R_lst r hu
    exact ⟨a, vs, h1, Or.inl h2, h3⟩
  · subst e
    obtain ⟨a, vs, h1, h2, h3⟩ := R_tup r hu
    exact ⟨a, vs, h1, Or.inr h2, h3⟩
theorem lstD_R (r : R G F v x) (e : lstD x = some ds) : ∃ a vs, v = .ref a ∧ F a = some (.lst vs) ∧ RA G F vs ds := by
  unfold lstD at e
  generalize hu : un x = z at e
  cases z <;> simp only [reduceCtorEq, Option.some.injEq] at e
  subst e
  exact R_lst r hu
theorem oc_len : OC G [t1] t3 (rLenU G.K) opLen := fun O U H vs xs a r Q E q => by
  match xs, q with
  | [x], q =>
    obtain ⟨_, v, _, rfl, r1⟩ := r.one
    have rr := (RT.r fz_le r1).mono a.s
    unfold opLen at q
    dsimp only at q
    generalize hu : un x = x' at q
    cases x' with
    | lst ds =>
      obtain ⟨p, vs, rfl, e, r2⟩ := R_lst rr hu
      exact Or.inl ⟨_, ds.length, rfl, Or.inl ⟨_, Or.inl (Or.inl e), r2.len.symm⟩, q.fin a.s (.fr (.int _))⟩
    | tup ds =>
      obtain ⟨p, vs, rfl, e, r2⟩ := R_tup rr hu
      exact Or.inl ⟨_, ds.length, rfl, Or.inr ⟨_, e, r2.len.symm⟩, q.fin a.s (.fr (.int _))⟩
    | str z =>
      have ev := R_str rr hu
      subst ev
      dsimp only at q
      by_cases h : z.length ≤ 1000000
      · rw [if_pos h] at q
        exact Or.inl ⟨_, z.length, rfl, ⟨big h, rfl⟩, q.fin a.s (.fr (.int _))⟩
      · rw [if_neg h] at q; exact q.elim
    | dic ds =>
      obtain ⟨p, vs, rfl, e, r2⟩ := R_dic rr hu
      have el : ∀ {vs : List (Key × V)} {ds : List (Key × D)}, RK G H vs ds → vs.length = ds.length := by
        intro vs
        induction vs with
        | nil => intro ds h; cases h; rfl
        | cons p vs ih => intro ds h; cases h with | cons _ r => exact congrArg Nat.succ (ih r)
      refine Or.inr ⟨_, _, rfl, e, ?_⟩
      rw [el r2]
      exact q.fin a.s (.fr (.int _))
    | _ => exact q.elim
  | [], q => exact q.elim
  | _ :: _ :: _, q => exact q.elim
theorem oc_sum : OC G [t1] t3 (rSum G.K) opSum := fun O U H vs xs a r Q E q => by
  match xs, q with
  | [x], q =>
    obtain ⟨_, v, _, rfl, r1⟩ := r.one
    have rr := (RT.r fz_le r1).mono a.s
    unfold opSum at q
    dsimp only at q
    cases h : lstD x with
    | none => rw [h] at q; exact q.elim
    | some ds =>
      rw [h] at q
      cases h2 : ints? ds with
      | none => rw [Option.bind_some, h2] at q; exact q.elim
      | some ns =>
        rw [Option.bind_some, h2] at q
        obtain ⟨p, vs, rfl, e, r2⟩ := lstD_R rr h
        rw [ints?_eq h2] at r2
        exact ⟨p, ns, rfl, Or.inl (Or.inl (by rw [← r2.of_ints]; exact e)), q.fin a.s (.fr (.int _))⟩
  | [], q => exact q.elim
  | _ :: _ :: _, q => exact q.elim
theorem oc_all : OC G [t1] t3 (rAll G.K) opAll := fun O U H vs xs a r Q E q => by
  match xs, q with
  | [x], q =>
    obtain ⟨_, v, _, rfl, r1⟩ := r.one
    have rr := (RT.r fz_le r1).mono a.s
    unfold opAll at q
    dsimp only at q
    cases h : lstD x with
    | none => rw [h] at q; exact q.elim
    | some ds =>
      rw [h] at q
      cases h2 : bls? ds with
      | none => rw [Option.bind_some, h2] at q; exact q.elim
      | some ns =>
        rw [Option.bind_some, h2] at q
        obtain ⟨p, vs, rfl, e, r2⟩ := lstD_R rr h
        rw [bls?_eq h2] at r2
        exact ⟨p, ns, rfl, Or.inl (Or.inl (by rw [← r2.of_bools]; exact e)), q.fin a.s (.fr (.bl _))⟩
  | [], q => exact q.elim
  | _ :: _ :: _, q => exact q.elim
theorem oc_any : OC G [t1] t3 (rAny G.K) opAny := fun O U H vs xs a r Q E q => by
  match xs, q with
  | [x], q =>
    obtain ⟨_, v, _, rfl, r1⟩ := r.one
    have rr := (RT.r fz_le r1).mono a.s
    unfold opAny at q
    dsimp only at q
    cases h : lstD x with
    | none => rw [h] at q; exact q.elim
    | some ds =>
      rw [h] at q
      cases h2 : bls? ds with
      | none => rw [Option.bind_some, h2] at q; exact q.elim
      | some ns =>
        rw [Option.bind_some, h2] at q
        obtain ⟨p, vs, rfl, e, r2⟩ := lstD_R rr h
        rw [bls?_eq h2] at r2
        exact ⟨p, ns, rfl, Or.inl (Or.inl (by rw [← r2.of_bools]; exact e)), q.fin a.s (.fr (.bl _))⟩
  | [], q => exact q.elim
  | _ :: _ :: _, q => exact q.elim
theorem oc_max2 : OC G [t1, t2] t3 rMax2 opMax2 := fun O U H vs xs a r Q E q => by
  unfold opMax2 at q
  split at q
  · obtain ⟨_, _, v, w, _, rfl, r1, r2⟩ := r.two
    exact ⟨_, _, by rw [int_of r1, int_of r2], q.fin a.s (.fr (.int _))⟩
  · exact q.elim
theorem oc_min2 : OC G [t1, t2] t3 rMin2 opMin2 := fun O U H vs xs a r Q E q => by
  unfold opMin2 at q
  split at q
  · obtain ⟨_, _, v, w, _, rfl, r1, r2⟩ := r.two
    exact ⟨_, _, by rw [int_of r1, int_of r2], q.fin a.s (.fr (.int _))⟩
  · exact q.elim
theorem oc_int : OC G [t1] t3 rIntU opInt := fun O U H vs xs a r Q E q => by
  unfold opInt at q
  split at q
  · obtain ⟨_, v, _, rfl, r1⟩ := r.one
    exact Or.inl (Or.inl ⟨_, by rw [int_of r1], q.fin a.s (.fr (.int _))⟩)
  · obtain ⟨_, v, _, rfl, r1⟩ := r.one
    exact Or.inl (Or.inr ⟨_, by rw [bl_of r1], q.fin a.s (.fr (.int _))⟩)
  · rename_i z
    obtain ⟨_, v, _, rfl, r1⟩ := r.one
    obtain ⟨h, q⟩ := ite_ok q
    cases h2 : PySem.intText? z with
    | none => rw [h2] at q; exact q.elim
    | some n =>
      rw [h2] at q
      exact Or.inr ⟨_, n, by rw [str_of r1], h2, h, q.fin a.s (.fr (.int _))⟩
  · exact q.elim
theorem oc_repr : OC G [t1] t3 (rRepr G.K) opRepr := fun O U H vs xs a r Q E q => by
  unfold opRepr at q
  split at q
  · obtain ⟨_, v, _, rfl, r1⟩ := r.one
    have rr := (RT.r fz_le r1).mono a.s
    obtain ⟨h, q⟩ := ite_ok q
    exact ⟨v, _, rfl, rr.dp h.1, h.2.1, h.2.2.1, h.2.2.2, q.fin a.s (.fr (.str _))⟩
  · exact q.elim
/-- the items of a list or a tuple, they themselves frozen -/
theorem items_fz (r : RT G F U (.lst .fz) v x) (s : Same F U) (e : itemsD x = some ds) : ∃ a vs, v = .ref a ∧ (U a = some (.lst vs) ∨ SqT G.K F a vs) ∧ RA G F vs ds := by
  cases r with
  | fr r =>
    obtain ⟨a, vs, h1, h2, h3⟩ := itemsD_R r e
    exact ⟨a, vs, h1, h2.imp (s _ _) id, h3⟩
  | lst h z r =>
    cases e
    exact ⟨_, _, rfl, Or.inl h, r.fz⟩
theorem on_list : OCN G [.lst .fz] (.lst .fz) (rListU G.K) opList := fun O U H vs xs a r Q E q => by
  match xs, q with
  | [x], q =>
    obtain ⟨t, v, et, rfl, r1⟩ := r.one
    cases et
    unfold opList at q
    dsimp only at q
    cases h : itemsD x with
    | none => rw [h] at q; exact q.elim
    | some ds =>
      rw [h] at q
      obtain ⟨p, vs, rfl, e, r2⟩ := items_fz r1 fz_le h
      refine ⟨p, vs, rfl, e.imp (fun z => Or.inl (Or.inl (a.s _ _ z))) (same_t (fz_le.trans a.s)), fun l hl => ?_⟩
      exact q _ U _ ((Gr.refl a.s).newH hl) (new_lst (a := a) hl r2)
  | [], q => exact q.elim
  | _ :: _ :: _, q => exact q.elim
theorem oc_tuple : OC G [.lst .fz] .fz (rTupU G.K) opTuple := fun O U H vs xs a r Q E q => by
  match xs, q with
  | [x], q =>
    obtain ⟨t, v, et, rfl, r1⟩ := r.one
    cases et
    unfold opTuple at q
    dsimp only at q
    cases h : itemsD x with
    | none => rw [h] at q; exact q.elim
    | some ds =>
      rw [h] at q
      obtain ⟨p, vs, rfl, e, r2⟩ := items_fz r1 fz_le h
      refine ⟨p, vs, rfl, ?_⟩
      rcases e with e | e
      · refine Or.inl ⟨Or.inl (Or.inl (a.s _ _ e)), fun l hl => ?_⟩
        have gn : Gr U H (upd U l (.tup vs)) (upd H l (.tup vs)) := (Gr.refl a.s).new hl
        exact q _ _ _ gn (.fr (.tup (Or.inl (Or.inl (fz_of (a.no hl) upd_same))) (r2.mono (fz_mono gn.f))))
      · exact Or.inr ⟨same_t (fz_le.trans a.s) e, q.fin a.s (.fr (.tup e r2))⟩
  | [], q => exact q.elim
  | _ :: _ :: _, q => exact q.elim
end
end Y

namespace Y
open PySem PySem.Spec PyProof.Rows L2 Z

/-! ## what is walked -/
def ItD (G : KC) (O : Addr → Prop) (U1 : Hp) (t : T) (J : It) (ds : List D) : Prop := ∀ (U H : Hp), Same U1 U → Reg G O U H → ∀ i : Nat, (i < ds.length → J.go i H) ∧ (ds.length ≤ i → J.stop i H) ∧
  ∀ x H' d, J.yld i H x H' → ds[i]? = some d → ∃ U', Gr U H U' H' ∧ RT G (Fz O U') U' t x d
def rI (G : KC) (O : Addr → Prop) (t : T) : Rel It (List D) := ⟨fun _ U _ J ds => ItD G O U t J ds, fun _ h => h⟩
abbrev EvI (G : KC) (Θ : List Md) (E : EK) (t : T) (te : TI) (f : Env → Rs (List D)) : Prop := Ev G Θ E (rI G · t) te f
/-- a list, a tuple or a text -/
def iSeq (K : PySem.W.Frag) (tl : TE) : TI := fun σ H Rr => tl σ H fun x H1 => (∃ a xs, x = .ref a ∧ SqL K H1 a xs ∧ Rr (Itl K a) H1) ∨ (∃ a xs, x = .ref a ∧ SqT K H1 a xs ∧ Rr (Itt K a) H1) ∨ ∃ z, x = .str z ∧ Rr (Its z) H1
theorem pi_seq {X : Cx} {tg l : Expr} {tl : TE} (hl : PE X l tl) : PI X tg l (iSeq X.K tl) := by
  constructor
  intro pins s σ H Rr I h
  apply thn (hl.run pins s σ H _ I h)
  rintro v s1 ⟨x, H1, I1, r1, q1⟩
  have lay : ∀ (ob : Obj), Inv X pins σ H1 { s1 with heap := s1.heap.push ob, toks := s1.toks } := fun ob => I1.kept (t' := s1.toks) fun b o e => Heap.get?_push_of_some _ e
  have fp : ∀ b ∈ [s1.heap.objs.size], FpOk X pins H1 b := fun b hb => by
    cases List.mem_singleton.mp hb
    exact I1.fpOk (Nat.le_refl _) (I1.hok.fresh (Nat.le_refl _))
  rcases q1 with ⟨a, xs, rfl, hq, q⟩ | ⟨a, xs, rfl, hq, q⟩ | ⟨z, rfl, q⟩
  · cases r1
    obtain ⟨its, rv, p, hz⟩ := I1.list hq
    exact wpAny_pyIter_list p.isList ⟨_, [s1.heap.objs.size], _, _, H1, rfl, lay _, turn_list a _, ⟨_, Heap.get?_push_size _ rfl, rfl, rfl⟩, fp, q⟩
  · cases r1
    obtain ⟨its, rv, p, hz⟩ := I1.tuple hq
    exact wpAny_pyIter_tuple (show s1.heap.IsTuple a its.toArray from p) ⟨_, [s1.heap.objs.size], _, _, H1, rfl, lay _, turn_tuple a _, ⟨_, Heap.get?_push_size _ rfl, rfl, rfl⟩, fp, q⟩
  · obtain ⟨t, rfl⟩ := r1
    cases ha : z.cps.all (· < 128)
    · exact wpAny_pyIter_wide ha (pi_one (tk := s1.toks) I1 _ (turn_str _ z t "str_iterator" (.inr rfl)) ⟨_, Heap.get?_push_size _ rfl, rfl, rfl⟩ q)
    · exact wpAny_pyIter_ascii ha (pi_one (tk := s1.toks) I1 _ (turn_str _ z t "str_ascii_iterator" (.inl rfl)) ⟨_, Heap.get?_push_size _ rfl, rfl, rfl⟩ q)
def charsD (z : Str) : List D := z.cps.toList.map fun c => D.str ⟨#[c]⟩
def seqD (x : D) : Rs (List D) := match un x with
  | .lst ds => .ok ds
  | .tup ds => .ok ds
  | .str z => .ok (charsD z)
  | _ => .no
def pSeq (f : Env → Rs D) : Env → Rs (List D) := fun Γ => (f Γ).bind seqD
def rngD (lo : Int) (n : Nat) : List D := (List.range n).map fun i : Nat => D.int (lo + (i : Int))
theorem rngD_len {lo : Int} {n : Nat} : (rngD lo n).length = n := by unfold rngD; rw [List.length_map, List.length_range]
def Lm (n : Int) : Prop := -1000000000000000000 ≤ n ∧ n ≤ 1000000000000000000
instance (i : Int) : Decidable (Lm i) := inferInstanceAs (Decidable (_ ∧ _))
def itRange : List D → Rs (List D)
  | [.int n] => if Lm n then .ok (rngD 0 n.toNat) else .no
  | [.int m, .int n] => if Lm m ∧ Lm n then .ok (rngD m (n - m).toNat) else .no
  | _ => .no
def enD (ds : List D) : List D := ds.zipIdx.map fun p => D.tup [.int (p.2 : Int), p.1]
def zpD (xs ys : List D) : List D := (xs.zip ys).map fun p => D.tup [p.1, p.2]
def itEnum : List D → Rs (List D)
  | [x] => (ofO (lstD x)).bind fun ds => .ok (enD ds)
  | _ => .no
def itZip : List D → Rs (List D)
  | [x, y] => (ofO (lstD x)).bind fun ds => (ofO (lstD y)).bind fun es => .ok (zpD ds es)
  | _ => .no
def pIt (op : List D → Rs (List D)) (f : Env → Rs (List D)) : Env → Rs (List D) := fun Γ => (f Γ).bind op
section
variable {G : KC} {Θ : List Md} {E : EK} {te tl : TE} {ta : TA} {t t1 t2 : T} {ts : List T} {f : Env → Rs D} {fs : Env → Rs (List D)} {O : Addr → Prop} {U U1 H F : Hp} {v w : V} {x y d : D} {ds es : List D}
theorem it_list {a : Addr} {vs : List V} (h : U1 a = some (.lst vs)) (r : RTA G (Fz O U1) U1 t vs ds) : ItD G O U1 t (Itl G.K a) ds := fun U H s1 rg i => by
  have hs : SqL G.K H a vs := Or.inl (Or.inl (rg.s _ _ (s1 _ _ h)))
  refine ⟨fun hi => ?_, fun hi => ⟨vs, hs, by rw [r.len]; exact hi⟩, fun x H' d hy hd => ?_⟩
  · have : i < vs.length := by rw [r.len]; exact hi
    exact ⟨vs, vs[i], hs, List.getElem?_eq_getElem this⟩
  · obtain ⟨rfl, f⟩ := hy
    obtain ⟨v, hv, rv⟩ := r.get i d hd
    rw [f _ hs] at hv
    cases hv
    exact ⟨U, .refl rg.s, rv.mono (fz_mono s1) s1⟩
theorem it_tup {a : Addr} {vs : List V} (h : SqT G.K U1 a vs) (r : RTA G (Fz O U1) U1 t vs ds) : ItD G O U1 t (Itt G.K a) ds := fun U H s1 rg i => by
  have hs : SqT G.K H a vs := same_t (s1.trans rg.s) h
  refine ⟨fun hi => ?_, fun hi => ⟨vs, hs, by rw [r.len]; exact hi⟩, fun x H' d hy hd => ?_⟩
  · have : i < vs.length := by rw [r.len]; exact hi
    exact ⟨vs, vs[i], hs, List.getElem?_eq_getElem this⟩
  · obtain ⟨rfl, f⟩ := hy
    obtain ⟨v, hv, rv⟩ := r.get i d hd
    rw [f _ hs] at hv
    cases hv
    exact ⟨U, .refl rg.s, rv.mono (fz_mono s1) s1⟩
theorem it_str (z : Str) : ItD G O U1 t (Its z) (charsD z) := fun U H s1 rg i => by
  have hl : (charsD z).length = z.cps.size := by unfold charsD; rw [List.length_map, Array.length_toList]
  rw [hl]
  refine ⟨fun hi => hi, fun hi => hi, fun x H' d hy hd => ?_⟩
  obtain ⟨rfl, c, hc, rfl⟩ := hy
  unfold charsD at hd
  rw [List.getElem?_map] at hd
  have : z.cps.toList[i]? = some c := by rw [Array.getElem?_toList]; exact hc
  rw [this] at hd
  cases hd
  exact ⟨U, .refl rg.s, .fr (.str _)⟩
theorem it_rng (lo : Int) (n : Nat) : ItD G O U1 t (Itr lo n) (rngD lo n) := fun U H s1 rg i => by
  rw [rngD_len]
  refine ⟨fun hi => hi, fun hi => hi, fun x H' d hy hd => ?_⟩
  obtain ⟨rfl, rfl⟩ := hy
  unfold rngD at hd
  rw [List.getElem?_map] at hd
  by_cases hi : i < n
  · rw [List.getElem?_range hi] at hd
    cases hd
    exact ⟨U, .refl rg.s, .fr (.int _)⟩
  · rw [List.getElem?_eq_none (by simp; omega)] at hd
    cases hd
theorem PQ_seqD {Ex : XK} {rel : Rel It (List D)} {Q : It → Hp → Prop} (q : PQ G O Ex U H rel Q (seqD x)) : (∃ ds, un x = .lst ds ∧ PQ G O Ex U H rel Q (.ok ds)) ∨ (∃ ds, un x = .tup ds ∧ PQ G O Ex U H rel Q (.ok ds)) ∨ ∃ z, un x = .str z ∧ PQ G O Ex U H rel Q (.ok (charsD z)) := by
  unfold seqD at q
  generalize un x = x' at q ⊢
  cases x' with
  | lst ds => exact Or.inl ⟨ds, rfl, q⟩
  | tup ds => exact Or.inr (Or.inl ⟨ds, rfl, q⟩)
  | str z => exact Or.inr (Or.inr ⟨z, rfl, q⟩)
  | _ => exact q.elim
theorem ei_seqL (h : EvV G Θ E (.lst t) tl f) : EvI G Θ E t (iSeq G.K tl) (pSeq f) := fun O U H σ Γ a Q q =>
  h O U H σ Γ a _ (q.bind fun x v U1 H1 g1 r1 q => by
    have a1 := a.grow g1
    have s : Same (Fz O U1) H1 := fz_le.trans a1.g.s
    cases r1 with
    | fr r =>
      rcases PQ_seqD q with ⟨ds, hu, q⟩ | ⟨ds, hu, q⟩ | ⟨z, hu, q⟩
      · obtain ⟨b, vs, rfl, e, rr⟩ := R_lst r hu
        exact Or.inl ⟨b, vs, rfl, Or.inl (Or.inl (s _ _ e)), q _ U1 H1 (.refl a1.g.s) (it_list (fz_le _ _ e) (.fr rr))⟩
      · obtain ⟨b, vs, rfl, e, rr⟩ := R_tup r hu
        exact Or.inr (Or.inl ⟨b, vs, rfl, same_t s e, q _ U1 H1 (.refl a1.g.s) (it_tup (same_t fz_le e) (.fr rr))⟩)
      · exact Or.inr (Or.inr ⟨z, R_str r hu, q _ U1 H1 (.refl a1.g.s) (it_str z)⟩)
    | @lst _ b vs ds e z r => exact Or.inl ⟨b, vs, rfl, Or.inl (Or.inl (a1.g.s _ _ e)), q _ U1 H1 (.refl a1.g.s) (it_list e r)⟩)
theorem ei_seq (h : EvV G Θ E .fz tl f) : EvI G Θ E .fz (iSeq G.K tl) (pSeq f) := ei_seqL (ev_any h)
theorem ei_r1 (h : EvA G Θ E [t1] ta fs) : EvI G Θ E .fz (iRng1 ta) (pIt itRange fs) := fun O U H σ Γ a Q q =>
  h O U H σ Γ a _ (q.bind fun x v U1 H1 g1 r1 q => by
    have a1 := a.grow g1
    unfold itRange at q
    split at q
    · obtain ⟨_, v, _, rfl, r⟩ := r1.one
      obtain ⟨h, q⟩ := ite_ok q
      unfold Lm at h
      exact ⟨_, by rw [int_of r], by omega, by omega, q _ U1 H1 (.refl a1.g.s) (it_rng 0 _)⟩
    · cases r1 with | cons _ r => cases r
    · exact q.elim)
theorem ei_r2 (h : EvA G Θ E [t1, t2] ta fs) : EvI G Θ E .fz (iRng2 ta) (pIt itRange fs) := fun O U H σ Γ a Q q =>
  h O U H σ Γ a _ (q.bind fun x v U1 H1 g1 r1 q => by
    have a1 := a.grow g1
    unfold itRange at q
    split at q
    · cases r1 with | cons _ r => cases r
    · obtain ⟨_, _, v, w, _, rfl, r, r'⟩ := r1.two
      obtain ⟨h, q⟩ := ite_ok q
      unfold Lm at h
      exact ⟨_, _, by rw [int_of r, int_of r'], ⟨by omega, by omega, by omega, by omega⟩, q _ U1 H1 (.refl a1.g.s) (it_rng _ _)⟩
    · exact q.elim)
theorem it_enum {a : Addr} {vs : List V} (h : U1 a = some (.lst vs)) (r : RA G (Fz O U1) vs ds) : ItD G O U1 .fz (Ite G.K a) (enD ds) := fun U H s1 rg i => by
  have hs : SqL G.K H a vs := Or.inl (Or.inl (rg.s _ _ (s1 _ _ h)))
  have hl : (enD ds).length = vs.length := by unfold enD; rw [List.length_map, List.length_zipIdx, r.len]
  rw [hl]
  refine ⟨fun hi => ⟨vs, vs[i], hs, List.getElem?_eq_getElem hi⟩, fun hi => ⟨vs, hs, hi⟩, fun x H' d hy hd => ?_⟩
  obtain ⟨T, y, rfl, hT, rfl, f⟩ := hy
  unfold enD at hd
  rw [List.getElem?_map, List.getElem?_zipIdx] at hd
  cases e : ds[i]? with
  | none => rw [e] at hd; cases hd
  | some d0 =>
    rw [e] at hd
    simp only [Option.map_some, Nat.zero_add, Option.some.injEq] at hd
    subst hd
    obtain ⟨v, hv, rv⟩ := r.get i d0 e
    rw [f _ hs] at hv
    cases hv
    have g : Gr U H (upd U T (.tup [.int (i : Nat), y])) (upd H T (.tup [.int (i : Nat), y])) := (Gr.refl rg.s).new hT
    exact ⟨_, g, .fr (.tup (Or.inl (Or.inl (fz_of (rg.no hT) upd_same))) (.cons (.int _) (.cons (rv.mono (fz_mono (s1.trans g.f))) .nil)))⟩
theorem it_zip {a b : Addr} {vs ws : List V} (h : U1 a = some (.lst vs)) (h2 : U1 b = some (.lst ws)) (r : RA G (Fz O U1) vs ds) (r2 : RA G (Fz O U1) ws es) : ItD G O U1 .fz (Itz G.K a b) (zpD ds es) := fun U H s1 rg i => by
  have hs : SqL G.K H a vs := Or.inl (Or.inl (rg.s _ _ (s1 _ _ h)))
  have hs2 : SqL G.K H b ws := Or.inl (Or.inl (rg.s _ _ (s1 _ _ h2)))
  have hl : (zpD ds es).length = min vs.length ws.length := by unfold zpD; rw [List.length_map, List.length_zip, r.len, r2.len]
  rw [hl]
  refine ⟨fun hi => ?_, fun hi => ⟨vs, ws, hs, hs2, by omega⟩, fun x H' d hy hd => ?_⟩
  · have hi1 : i < vs.length := by omega
    have hi2 : i < ws.length := by omega
    exact ⟨vs, ws, vs[i], ws[i], hs, hs2, List.getElem?_eq_getElem hi1, List.getElem?_eq_getElem hi2⟩
  obtain ⟨T, y, z, rfl, hT, rfl, f, f2⟩ := hy
  unfold zpD at hd
  rw [List.getElem?_map] at hd
  cases e : (ds.zip es)[i]? with
  | none => rw [e] at hd; cases hd
  | some p =>
    rw [e] at hd
    cases hd
    have ee := List.getElem?_zip_eq_some.mp e
    obtain ⟨v, hv, rv⟩ := r.get i p.1 ee.1
    obtain ⟨v2, hv2, rv2⟩ := r2.get i p.2 ee.2
    rw [f _ hs] at hv
    rw [f2 _ hs2] at hv2
    cases hv
    cases hv2
    have g : Gr U H (upd U T (.tup [y, z])) (upd H T (.tup [y, z])) := (Gr.refl rg.s).new hT
    have m := fz_mono (O := O) (s1.trans g.f)
    exact ⟨_, g, .fr (.tup (Or.inl (Or.inl (fz_of (rg.no hT) upd_same))) (.cons (rv.mono m) (.cons (rv2.mono m) .nil)))⟩
theorem lst_fzD (r : RT G F U (.lst .fz) v x) (s : Same F U) (e : lstD x = some ds) : ∃ a vs, v = .ref a ∧ U a = some (.lst vs) ∧ RA G F vs ds := by
  cases r with
  | fr r =>
    obtain ⟨a, vs, h1, h2, h3⟩ := lstD_R r e
    exact ⟨a, vs, h1, s _ _ h2, h3⟩
  | lst h z r =>
    cases e
    exact ⟨_, _, rfl, h, r.fz⟩
theorem ei_enum (h : EvA G Θ E [.lst .fz] ta fs) : EvI G Θ E .fz (iEnum G.K ta) (pIt itEnum fs) := fun O U H σ Γ a Q q =>
  h O U H σ Γ a _ (q.bind fun x v U1 H1 g1 r1 q => by
    have a1 := a.grow g1
    match x, q with
    | [x], q =>
      obtain ⟨t, v, et, rfl, r⟩ := r1.one
      cases et
      cases hx : lstD x with
      | none => simp only [itEnum, hx] at q; exact q.elim
      | some ds =>
        simp only [itEnum, hx] at q
        obtain ⟨b, vs, rfl, e, rr⟩ := lst_fzD r fz_le hx
        exact ⟨b, vs, rfl, Or.inl (Or.inl (a1.g.s _ _ e)), q _ U1 H1 (.refl a1.g.s) (it_enum e rr)⟩
    | [], q => exact q.elim
    | _ :: _ :: _, q => exact q.elim)
theorem ei_zip (h : EvA G Θ E [.lst .fz, .lst .fz] ta fs) : EvI G Θ E .fz (iZip G.K ta) (pIt itZip fs) := fun O U H σ Γ a Q q =>
  h O U H σ Γ a _ (q.bind fun x v U1 H1 g1 r1 q => by
    have a1 := a.grow g1
    match x, q with
    | [x, y], q =>
      obtain ⟨t, t', v, w, et, rfl, r, r'⟩ := r1.two
      cases et
      cases hx : lstD x with
      | none => simp only [itZip, hx] at q; exact q.elim
      | some ds =>
        cases hy : lstD y with
        | none => simp only [itZip, hx, hy] at q; exact q.elim
        | some es =>
          simp only [itZip, hx, hy] at q
          obtain ⟨b, vs, rfl, e, rr⟩ := lst_fzD r fz_le hx
          obtain ⟨b', ws, rfl, e', rr'⟩ := lst_fzD r' fz_le hy
          exact ⟨b, b', vs, ws, rfl, Or.inl (Or.inl (a1.g.s _ _ e)), Or.inl (Or.inl (a1.g.s _ _ e')), q _ U1 H1 (.refl a1.g.s) (it_zip e e' rr rr')⟩
    | [], q => exact q.elim
    | [_], q => exact q.elim
    | _ :: _ :: _ :: _, q => exact q.elim)
end

/-! ## comprehensions -/
def wipD (Γ : Env) : List Nat → Env
  | [] => Γ
  | v :: vs => (wipD Γ vs).set v none
theorem wipD_len (Γ : Env) : ∀ vs : List Nat, (wipD Γ vs).length = Γ.length
  | [] => rfl
  | v :: vs => by unfold wipD; rw [List.length_set, wipD_len Γ vs]
/-- a target: the slots behind -/
abbrev GF := D → Env → Option Env
def tgN (i : Nat) : GF := fun d Γ => some (Γ.set i (some d))
def tgNil : List D → Env → Option Env
  | [], Γ => some Γ
  | _ :: _, _ => none
def tgCons (g : GF) (gs : List D → Env → Option Env) : List D → Env → Option Env
  | d :: ds, Γ => (g d Γ).bind fun Γ1 => gs ds Γ1
  | [], _ => none
def tgT (gs : List D → Env → Option Env) : GF := fun d Γ => match d with
  | .tup ds => gs ds Γ
  | _ => none
def mapO (f : D → Rs (Option D)) : List D → Rs (List D)
  | [] => .ok []
  | d :: ds => (f d).bind fun o => (mapO f ds).bind fun es => .ok (o.toList ++ es)
def noX {α : Type} : Rs α → Rs α
  | .ok a => .ok a
  | _ => .no
@[simp] theorem noX_ok {α : Type} (a : α) : noX (Rs.ok a) = .ok a := rfl
def pLc1 (g : GF) (tt : Env → Rs Bool) (fe : Env → Rs D) (Γ : Env) (d : D) : Rs (Option D) := match g d Γ with
  | some Γ1 => (noX (tt Γ1)).bind fun b => if b = true then (noX (fe Γ1)).bind fun y => .ok (some y) else .ok none
  | none => .no
def bYes : Env → Rs Bool := fun _ => .ok true
def pLc (fi : Env → Rs (List D)) (g : GF) (tt : Env → Rs Bool) (fe : Env → Rs D) (vs : List Nat) : Env → Rs D := fun Γ => (fi Γ).bind fun ds =>
  if ds.length ≤ 4000000 then (mapO (pLc1 g tt fe (wipD Γ vs)) ds).bind fun es => .ok (.lst es) else .no
section
variable {G : KC} {Θ : List Md} {E : EK} {te tl : TE} {tt : TT} {wi : TI} {t t1 t2 : T} {fe : Env → Rs D} {fi : Env → Rs (List D)} {fb : Env → Rs Bool} {O : Addr → Prop} {U U1 H F : Hp} {v w : V} {x y d : D} {ds es : List D} {σ σ' : L2.St} {Γ Γ' : Env} {vs : List Nat} {g : TG} {gs : TGs} {gf : GF} {gfs : List D → Env → Option Env}
theorem At.wipe (a : At G Θ O U H σ Γ) : ∀ vs : List Nat, At G Θ O U H (L2.wipe σ vs) (wipD Γ vs)
  | [] => a
  | v :: vs => by
    have ih := At.wipe a vs
    refine ⟨a.g, by unfold L2.wipe wipD; rw [List.length_set, List.length_set]; exact ih.len, fun i m d h1 e => ?_⟩
    unfold wipD at e
    unfold L2.wipe
    by_cases z : v = i
    · subst z
      have hl : v < (wipD Γ vs).length := by
        have := (List.getElem?_eq_some_iff.mp e).1
        rw [List.length_set] at this
        exact this
      rw [List.getElem?_set_self hl] at e
      cases e
    · rw [List.getElem?_set_ne z] at e ⊢
      exact ih.sl i m d h1 e
theorem wipe_get (i : Nat) : ∀ vs : List Nat, i ∉ vs → (wipe σ vs)[i]? = σ[i]?
  | [], _ => rfl
  | v :: vs, h => by
    unfold wipe
    rw [List.getElem?_set_ne (fun (z : v = i) => h (by rw [z]; exact List.mem_cons_self)), wipe_get i vs fun z => h (List.mem_cons_of_mem _ z)]
theorem wipe_in (i : Nat) : ∀ vs : List Nat, i ∈ vs → i < σ.length → (wipe σ vs)[i]? = some none
  | v :: vs, h, hl => by
    unfold wipe
    by_cases z : v = i
    · subst z
      exact List.getElem?_set_self (by rw [wipe_length]; exact hl)
    · rw [List.getElem?_set_ne z]
      exact wipe_in i vs ((List.mem_cons.mp h).resolve_left fun y => z y.symm) hl
theorem wipe_eq {vs : List Nat} (hl : σ'.length = σ.length) (h : ∀ i, i ∉ vs → σ'[i]? = (wipe σ vs)[i]?) : wipe σ' vs = wipe σ vs := by
  apply List.ext_getElem?
  intro i
  by_cases hi : i ∈ vs
  · by_cases hz : i < σ.length
    · rw [wipe_in i vs hi hz, wipe_in i vs hi (by rw [hl]; exact hz)]
    · rw [List.getElem?_eq_none (by rw [wipe_length, hl]; omega), List.getElem?_eq_none (by rw [wipe_length]; omega)]
  · rw [wipe_get i vs hi, h i hi]
def Agr (vs : List Nat) (σ σ' : L2.St) : Prop := σ'.length = σ.length ∧ ∀ i, i ∉ vs → σ'[i]? = σ[i]?
/-- a target, read alone: its names are among vs, their items of the kind t -/
def EvG (G : KC) (Θ : List Md) (vs : List Nat) (t : T) (g : TG) (gf : GF) : Prop := ∀ (O : Addr → Prop) (U H : Hp) (σ : L2.St) (Γ : Env) (v : V) (d : D), At G Θ O U H σ Γ → RT G (Fz O U) U t v d → ∀ QQ : L2.St → Hp → Prop, (∃ Γ', gf d Γ = some Γ' ∧ ∀ σ', At G Θ O U H σ' Γ' → Agr vs σ σ' → QQ σ' H) → g v σ H QQ
def EvGs (G : KC) (Θ : List Md) (vs : List Nat) (g : TGs) (gf : List D → Env → Option Env) : Prop := ∀ (O : Addr → Prop) (U H : Hp) (σ : L2.St) (Γ : Env) (us : List V) (ds : List D), At G Θ O U H σ Γ → RA G (Fz O U) us ds → ∀ QQ : L2.St → Hp → Prop, (∃ Γ', gf ds Γ = some Γ' ∧ ∀ σ', At G Θ O U H σ' Γ' → Agr vs σ σ' → QQ σ' H) → g us σ H QQ
theorem At.set {i : Nat} (a : At G Θ O U H σ Γ) (hi : Θ[i]? = some (.bor t)) (r : RT G (Fz O U) U t v d) : At G Θ O U H (σ.set i (some v)) (Γ.set i (some d)) :=
  ⟨a.g, by rw [List.length_set, List.length_set]; exact a.len, fun j m d' h1 h => by
    by_cases z : i = j
    · subst z
      have hl : i < Γ.length := by
        have := (List.getElem?_eq_some_iff.mp h).1
        rw [List.length_set] at this
        exact this
      rw [List.getElem?_set_self hl] at h
      cases h
      rw [hi] at h1
      cases h1
      exact ⟨v, List.getElem?_set_self (by rw [a.len]; exact hl), r⟩
    · rw [List.getElem?_set_ne z] at h ⊢
      exact a.sl j m d' h1 h⟩
theorem eg_name {i : Nat} (hi : i ∈ vs) (hm : Θ[i]? = some (.bor t)) : EvG G Θ vs t (gName i) (tgN i) := fun O U H σ Γ v d a r QQ ⟨Γ', e, k⟩ => by
  cases e
  exact k _ (a.set hm r) ⟨List.length_set, fun j hj => List.getElem?_set_ne (fun (z : i = j) => hj (by rw [← z]; exact hi))⟩
theorem egs_nil : EvGs G Θ vs gNil tgNil := fun O U H σ Γ us ds a r QQ ⟨Γ', e, k⟩ => by
  cases r with
  | nil =>
    cases e
    exact ⟨rfl, k σ a ⟨rfl, fun _ _ => rfl⟩⟩
  | cons _ _ => cases e
theorem egs_cons (h : EvG G Θ vs .fz g gf) (h2 : EvGs G Θ vs gs gfs) : EvGs G Θ vs (gCons g gs) (tgCons gf gfs) := fun O U H σ Γ us ds a r QQ ⟨Γ', e, k⟩ => by
  cases r with
  | nil => cases e
  | @cons v vs' d ds r1 r2 =>
    have e' : (gf d Γ).bind (fun Γ1 => gfs ds Γ1) = some Γ' := e
    cases z : gf d Γ with
    | none => rw [z] at e'; cases e'
    | some Γ1 =>
      rw [z] at e'
      exact ⟨_, _, rfl, h O U H σ Γ _ _ a (.fr r1) _ ⟨Γ1, z, fun σ1 a1 g1 => h2 O U H σ1 Γ1 _ _ a1 r2 QQ ⟨Γ', e', fun σ2 a2 g2 => k σ2 a2 ⟨g2.1.trans g1.1, fun i hi => (g2.2 i hi).trans (g1.2 i hi)⟩⟩⟩⟩
theorem egs_len : ∀ {gs : TGs}, True := fun {_} => trivial
theorem eg_tup {n : Nat} (hn : ∀ (ds : List D) (Γ Γ' : Env), gfs ds Γ = some Γ' → ds.length = n) (h : EvGs G Θ vs gs gfs) : EvG G Θ vs .fz (gTup G.K n gs) (tgT gfs) := fun O U H σ Γ v d a r QQ ⟨Γ', e, k⟩ => by
  have r' := r.fz
  cases d with
  | tup ds =>
    obtain ⟨b, us, rfl, h1, r1⟩ := R_tup r' rfl
    exact ⟨b, us, rfl, same_t (fz_le.trans a.g.s) h1, by rw [r1.len]; exact hn ds Γ Γ' e, h O U H σ Γ us ds a r1 QQ ⟨Γ', e, k⟩⟩
  | _ => cases e
/-- how many items a target wants -/
def tgLen : ∀ n : Nat, (List D → Env → Option Env) → Prop := fun n gfs => ∀ (ds : List D) (Γ Γ' : Env), gfs ds Γ = some Γ' → ds.length = n
theorem tgl_nil : tgLen 0 tgNil := fun ds Γ Γ' e => by
  cases ds with
  | nil => rfl
  | cons _ _ => cases e
theorem tgl_cons {n : Nat} (h : tgLen n gfs) : tgLen (n + 1) (tgCons gf gfs) := fun ds Γ Γ' e => by
  cases ds with
  | nil => cases e
  | cons d ds =>
    have e' : (gf d Γ).bind (fun Γ1 => gfs ds Γ1) = some Γ' := e
    cases z : gf d Γ with
    | none => rw [z] at e'; cases e'
    | some Γ1 => rw [z] at e'; exact congrArg Nat.succ (h ds Γ1 Γ' e')
theorem mapO_inv {f : D → Rs (Option D)} : ∀ {ds : List D} {es : List D}, mapO f ds = .ok es → ∃ os : List (Option D), es = (os.map Option.toList).flatten ∧ os.length = ds.length ∧ ∀ (i : Nat) (d : D), ds[i]? = some d → ∃ o, os[i]? = some o ∧ f d = .ok o
  | [], es, h => by
    cases h
    exact ⟨[], rfl, rfl, fun i d z => by simp at z⟩
  | d :: ds, es, h => by
    have h' : (f d).bind (fun o => (mapO f ds).bind fun es => .ok (o.toList ++ es)) = .ok es := h
    cases e1 : f d with
    | ok o =>
      rw [e1, Rs.bind_ok] at h'
      cases e2 : mapO f ds with
      | ok es2 =>
        rw [e2, Rs.bind_ok] at h'
        cases h'
        obtain ⟨os, h1, h2, h3⟩ := mapO_inv e2
        refine ⟨o :: os, by rw [h1]; simp, by simp [h2], fun i d' z => ?_⟩
        cases i with
        | zero => simp at z; subst z; exact ⟨o, rfl, e1⟩
        | succ i => simp at z; obtain ⟨o', h5, h6⟩ := h3 i d' z; exact ⟨o', by simpa using h5, h6⟩
      | ex c fs => rw [e2] at h'; cases h'
      | no => rw [e2] at h'; cases h'
    | ex c fs => rw [e1] at h'; cases h'
    | no => rw [e1] at h'; cases h'
theorem mapO_nox {f : D → Rs (Option D)} (hf : ∀ d c fs, f d ≠ .ex c fs) : ∀ (ds : List D) (c : Nat) (fs : List (Str × D)), mapO f ds ≠ .ex c fs
  | [], c, fs => fun z => by cases z
  | d :: ds, c, fs => fun z => by
    have z' : (f d).bind (fun o => (mapO f ds).bind fun es => .ok (o.toList ++ es)) = .ex c fs := z
    cases e1 : f d with
    | ok o =>
      rw [e1, Rs.bind_ok] at z'
      cases e2 : mapO f ds with
      | ok es => rw [e2] at z'; cases z'
      | ex c' fs' => exact mapO_nox hf ds c' fs' e2
      | no => rw [e2] at z'; cases z'
    | ex c' fs' => exact hf d c' fs' e1
    | no => rw [e1] at z'; cases z'
theorem noX_nox {α β : Type} {x : Rs α} {k : α → Rs β} (hk : ∀ a c fs, k a ≠ .ex c fs) (c : Nat) (fs : List (Str × D)) : (noX x).bind k ≠ .ex c fs := by
  cases x with
  | ok a => exact hk a c fs
  | ex _ _ => exact fun z => by cases z
  | no => exact fun z => by cases z
theorem pLc1_nox (d : D) (c : Nat) (fs : List (Str × D)) : pLc1 gf fb fe Γ d ≠ .ex c fs := by
  unfold pLc1
  cases gf d Γ with
  | none => exact fun z => by cases z
  | some Γ1 =>
    refine noX_nox (fun b c fs => ?_) c fs
    cases b with
    | true => exact noX_nox (fun y c fs z => by cases z) c fs
    | false => exact fun z => by cases z
def E0k : EK := fun _ => E0
/-- a comprehension; what is made is frozen -/
theorem en_lc (hi : EvI G Θ E t wi fi) (hg : EvG G Θ vs t g gf) (ht : EvB G Θ E0k tt fb) (he : EvV G Θ E0k .fz te fe) : EvN G Θ E (.lst .fz) (tLc wi g tt te vs) (pLc fi gf fb fe vs) := fun O U H σ Γ a Q q =>
  hi O U H σ Γ a _ (q.bind fun ds J U1 H1 g1 it q => by
    intro Dn hD
    obtain ⟨hz, q⟩ := ite_ok q
    have a1 := a.grow g1
    generalize hm : mapO (pLc1 gf fb fe (wipD Γ vs)) ds = z at q
    cases z with
    | no => exact q.elim
    | ex c fs => exact absurd hm (mapO_nox pLc1_nox ds c fs)
    | ok es =>
      obtain ⟨os, e1, e2, e3⟩ := mapO_inv hm
      refine ⟨fun k m H' => k + m = ds.length ∧ ∃ U' acc, Gr U1 H1 U' H' ∧ U' Dn = none ∧ H' Dn = some (.lst acc) ∧ RA G (Fz O U') acc ((os.take k).map Option.toList).flatten, ⟨ds.length, Nat.zero_add _, U1, [], Gr.newH (.refl a1.g.s) hD, a1.g.s.free hD, upd_same, .nil⟩, ?_⟩
      rintro k m H' ⟨hk, U', acc, gg, fD, hd, ra⟩
      have rg : Reg G O U' H' := a1.g.grow gg
      obtain ⟨i1, i2, i3⟩ := it U' H' gg.f rg k
      by_cases lt : k < ds.length
      · refine Or.inr ⟨i1 lt, fun H'' => ∃ U' acc, Gr U1 H1 U' H'' ∧ U' Dn = none ∧ H'' Dn = some (.lst acc) ∧ RA G (Fz O U') acc ((os.take (k + 1)).map Option.toList).flatten, fun H'' w => ⟨m - 1, by omega, by omega, w⟩, fun x H3 hy => ?_⟩
        have hn : ds[k]? = some ds[k] := List.getElem?_eq_getElem lt
        obtain ⟨o, ho, hf⟩ := e3 k _ hn
        obtain ⟨U3, g3, rx⟩ := i3 x H3 ds[k] hy hn
        have ge := gg.trans g3
        have f3 : U3 Dn = none := g3.no fD hd
        have aw : At G Θ O U3 H3 (wipe σ vs) (wipD Γ vs) := (a1.grow ge).wipe vs
        have tk : ((os.take (k + 1)).map Option.toList).flatten = ((os.take k).map Option.toList).flatten ++ o.toList := by
          rw [List.take_add_one, ho, List.map_append, List.flatten_append]
          simp
        unfold pLc1 at hf
        cases hgf : gf ds[k] (wipD Γ vs) with
        | none => rw [hgf] at hf; cases hf
        | some Γ1 =>
          rw [hgf] at hf
          dsimp only at hf
          refine hg O U3 H3 (wipe σ vs) (wipD Γ vs) x ds[k] aw rx _ ⟨Γ1, hgf, fun σ2 a2 g2 => ?_⟩
          refine ⟨wipe_eq (g2.1.trans (wipe_length σ vs)) g2.2, ?_⟩
          refine ht O U3 H3 σ2 Γ1 a2 _ ?_
          cases hb : fb Γ1 with
          | no => rw [hb] at hf; cases hf
          | ex c fs => rw [hb] at hf; cases hf
          | ok b =>
            rw [hb, noX_ok, Rs.bind_ok] at hf
            intro b' U4 H4 g4 eb
            cases eb
            have a4 := a2.grow g4
            have f4 : U4 Dn = none := g4.no f3 (g3.h _ _ hd)
            have hd4 : H4 Dn = some (.lst acc) := g4.h _ _ (g3.h _ _ hd)
            cases b with
            | false =>
              show ∃ U' acc, Gr U1 H1 U' H4 ∧ _
              cases hf
              refine ⟨U4, acc, ge.trans g4, f4, hd4, ?_⟩
              rw [tk]
              simp only [Option.toList, List.append_nil]
              exact ra.mono (fz_mono (g3.trans g4).f)
            | true =>
              show te σ2 H4 _
              refine he O U4 H4 σ2 Γ1 a4 _ ?_
              cases hy2 : fe Γ1 with
              | no => rw [if_pos rfl, hy2] at hf; cases hf
              | ex c fs => rw [if_pos rfl, hy2] at hf; cases hf
              | ok yd =>
                rw [if_pos rfl, hy2, noX_ok, Rs.bind_ok] at hf
                cases hf
                intro y U5 H5 g5 ry
                have f5 : U5 Dn = none := g5.no f4 hd4
                have h5 : H5 Dn = some (.lst acc) := g5.h _ _ hd4
                have g6 := (ge.trans g4).trans g5
                refine ⟨acc, h5, ?_, U5, acc ++ [y], ⟨g6.f, fun a o z => ?_, fun a o z => ?_, g6.n⟩, f5, upd_same, ?_⟩
                · rw [ra.len]
                  have : ∀ l : List (Option D), ((l.map Option.toList).flatten).length ≤ l.length := by
                    intro l
                    induction l with
                    | nil => exact Nat.le_refl _
                    | cons o l ih =>
                      cases o <;> simp at ih ⊢ <;> omega
                  have h1 := this (os.take k)
                  have h2 := List.length_take_le' k os
                  exact Nat.lt_of_le_of_lt (Nat.le_trans h1 (by omega : _ ≤ 4000000)) (by decide)
                · rw [upd_ne (ne_of_none z hD)]
                  exact g6.h a o z
                · rw [upd_ne (ne_of_none z f5)]
                  exact g5.s a o z
                · rw [tk]
                  exact (ra.mono (fz_mono ((g3.trans g4).trans g5).f)).append (.cons ry.fz .nil)
      · have ek : k = ds.length := by omega
        subst ek
        rw [← e2, List.take_length, ← e1] at ra
        exact Or.inl ⟨i2 (Nat.le_refl _), q _ U' H' gg ⟨[Dn], .lst hd (a1.g.tn hD) (OwnA.of_r ra), by simp, fun b hb => by cases List.mem_singleton.mp hb; exact ⟨hD, fD⟩⟩⟩)
end
end Y

namespace Y
open PySem PySem.Spec PyProof.Rows L2 Z

/-! ## the state of an activation -/
structure Bs where
  H0 : Hp
  F0 : Hp
  M : List Addr
  pins : List (Nat × V)
  W : Hp
def SlotR (G : KC) (W F H : Hp) : Md → Option (Option V) → Option D → List Addr → Prop
  | _, _, none, fp => fp = []
  | .scr, v, some d, fp => fp = [] ∧ ∃ (a : Addr) (ns : List Int), v = some (some (.ref a)) ∧ d = .lst (ns.map D.int) ∧ SqL G.K F a (ns.map V.int)
  | .bor t, v, some d, fp => fp = [] ∧ ∃ u, v = some (some u) ∧ RT G F W t u d
  | .own t, v, some d, fp => ∃ u, v = some (some u) ∧ Own G F H t u d fp
structure EnvR (G : KC) (Θ : List Md) (B : Bs) (F H : Hp) (σ : L2.St) (Γ : Env) (fps : List (List Addr)) : Prop where
  ls : σ.length = Γ.length
  lf : fps.length = Γ.length
  lt : Θ.length = Γ.length
  slot : ∀ (i : Nat) (m : Md) (o : Option D) (fp : List Addr), Θ[i]? = some m → Γ[i]? = some o → fps[i]? = some fp → SlotR G B.W F H m σ[i]? o fp
  nd : fps.flatten.Nodup
  out : ∀ a ∈ fps.flatten, F a = none
  mine : ∀ a ∈ fps.flatten, a ∈ B.M ∨ B.H0 a = none
  pin : ∀ q ∈ B.pins, σ[q.1]? = some (some q.2)
  fr : Same F H
  f0 : Same B.F0 F
  keep : ∀ a o, B.H0 a = some o → a ∉ B.M → H a = some o
  there : ∀ a, H a = none → B.H0 a = none
  new : ∀ a o, F a = some o → B.F0 a = some o ∨ B.H0 a = none ∨ a ∈ B.M
  w : Same B.W B.H0
  wm : ∀ a ∈ B.M, B.W a = none
  tg : ∀ a n, G.tg a = some n → ∃ u, B.H0 a = some u
  po : ∀ q ∈ B.pins, ∃ t, Θ[q.1]? = some (.own t)
section
variable {G : KC} {Θ : List Md} {B : Bs} {F H F' H' : Hp} {σ σ' : L2.St} {Γ Γ' : Env} {fps fps' : List (List Addr)}
theorem EnvR.ws (e : EnvR G Θ B F H σ Γ fps) : Same B.W H := fun a o h => e.keep a o (e.w a o h) fun z => by rw [e.wm a z] at h; cases h
theorem EnvR.tgH (e : EnvR G Θ B F H σ Γ fps) (a : Addr) (n : Nat) (h : G.tg a = some n) : ∃ u, H a = some u := by
  obtain ⟨u, z⟩ := e.tg a n h
  cases y : H a with
  | some v => exact ⟨v, rfl⟩
  | none => rw [e.there a y] at z; cases z
theorem EnvR.fw (e : EnvR G Θ B F H σ Γ fps) {a : Addr} (h : a ∈ fps.flatten) : B.W a = none := by
  rcases e.mine a h with z | z
  · exact e.wm a z
  · cases y : B.W a with
    | none => rfl
    | some o => rw [e.w a o y] at z; cases z
theorem flat_mem {i : Nat} {fp : List Addr} {a : Addr} (h : fps[i]? = some fp) (ha : a ∈ fp) : a ∈ fps.flatten := List.mem_flatten.mpr ⟨fp, List.mem_of_getElem? h, ha⟩
theorem EnvR.fpAt (e : EnvR G Θ B F H σ Γ fps) {i : Nat} {m : Md} (h : Θ[i]? = some m) : ∃ o fp, Γ[i]? = some o ∧ fps[i]? = some fp := by
  have hl : i < Γ.length := by rw [← e.lt]; exact (List.getElem?_eq_some_iff.mp h).1
  exact ⟨Γ[i], fps[i]'(by rw [e.lf]; exact hl), List.getElem?_eq_getElem hl, List.getElem?_eq_getElem (by rw [e.lf]; exact hl)⟩
/-- what is owned stands -/
theorem EnvR.at (e : EnvR G Θ B F H σ Γ fps) {a : Addr} (h : a ∈ fps.flatten) : ∃ o, H a = some o := by
  obtain ⟨fp, h1, h2⟩ := List.mem_flatten.mp h
  obtain ⟨i, hi, e1⟩ := List.getElem_of_mem h1
  have hl : i < Θ.length := by rw [e.lt, ← e.lf]; exact hi
  have hg : i < Γ.length := by rw [← e.lf]; exact hi
  have s := e.slot i Θ[i] Γ[i] fp (List.getElem?_eq_getElem hl) (List.getElem?_eq_getElem hg) (by rw [List.getElem?_eq_getElem hi, e1])
  revert s
  generalize Γ[i] = o
  generalize Θ[i] = m
  intro s
  cases o with
  | none => rw [show fp = [] by cases m <;> exact s] at h2; exact absurd h2 List.not_mem_nil
  | some d =>
    cases m with
    | scr => rw [s.1] at h2; exact absurd h2 List.not_mem_nil
    | bor t => rw [s.1] at h2; exact absurd h2 List.not_mem_nil
    | own t =>
      obtain ⟨u, _, ow⟩ := s
      exact ow.at a h2
theorem SlotR.mono {W : Hp} {m : Md} {v : Option (Option V)} {o : Option D} {fp : List Addr} (h : SlotR G W F H m v o fp) (f : Same F F') (k : ∀ a ∈ fp, ∀ u, H a = some u → H' a = some u) : SlotR G W F' H' m v o fp := by
  cases o with
  | none => cases m <;> exact h
  | some d =>
    cases m with
    | scr => obtain ⟨a, p, ns, b, c, d⟩ := h; exact ⟨a, p, ns, b, c, same_l f d⟩
    | bor t => obtain ⟨a, u, b, c⟩ := h; exact ⟨a, u, b, c.mono f (.refl _)⟩
    | own t => obtain ⟨u, b, c⟩ := h; exact ⟨u, b, c.mono f k⟩
/-- F and H grow; what is owned stays -/
theorem EnvR.grow (e : EnvR G Θ B F H σ Γ fps) (f : Same F F') (h : Same H H') (s : Same F' H') (n : ∀ a o, F' a = some o → F a = some o ∨ H a = none) : EnvR G Θ B F' H' σ Γ fps where
  ls := e.ls
  lf := e.lf
  lt := e.lt
  slot := fun i m o fp h1 h2 h3 => (e.slot i m o fp h1 h2 h3).mono f fun a _ u z => h a u z
  nd := e.nd
  out := fun a ha => by
    cases z : F' a with
    | none => rfl
    | some o =>
      rcases n a o z with y | y
      · rw [e.out a ha] at y; cases y
      · obtain ⟨u, q⟩ := e.at ha; rw [q] at y; cases y
  mine := e.mine
  pin := e.pin
  fr := s
  f0 := e.f0.trans f
  keep := fun a o z y => h a o (e.keep a o z y)
  there := fun a z => e.there a (h.free z)
  new := fun a o z => (n a o z).elim (e.new a o) fun y => Or.inr (Or.inl (e.there a y))
  w := e.w
  wm := e.wm
  tg := e.tg
  po := e.po
/-! the whole as a region -/
def OH (F H : Hp) : Addr → Prop := fun a => F a = none ∧ ∃ o, H a = some o
theorem fz_OH (s : Same F H) : Fz (OH F H) H = F := by
  funext a
  unfold Fz
  split
  · rename_i h; exact h.1.symm
  · rename_i h
    cases e : F a with
    | some o => exact s a o e
    | none =>
      cases e2 : H a with
      | none => rfl
      | some u => exact absurd ⟨e, u, e2⟩ h
theorem EnvR.at_ (e : EnvR G Θ B F H σ Γ fps) : At G Θ (OH F H) H H σ Γ where
  g := ⟨.refl _, fun a h => h.2, e.tgH⟩
  len := e.ls
  sl := fun i m d h1 h2 => by
    obtain ⟨o, fp, h3, h4⟩ := e.fpAt h1
    rw [h2] at h3
    cases h3
    have s := e.slot i m _ fp h1 h2 h4
    rw [fz_OH e.fr]
    cases m with
    | scr => obtain ⟨_, a, ns, b, c, d⟩ := s; exact ⟨_, b, a, ns, rfl, c, d⟩
    | bor t => obtain ⟨_, u, b, c⟩ := s; exact ⟨u, b, c.mono (.refl _) e.ws⟩
    | own t => obtain ⟨u, b, c⟩ := s; exact ⟨u, b, c.rt fun a _ o z => z⟩
/-- behind a pure reading -/
theorem EnvR.pure {U' : Hp} (e : EnvR G Θ B F H σ Γ fps) (g : Gr H H U' H') : EnvR G Θ B (Fz (OH F H) U') H' σ Γ fps ∧ Same F (Fz (OH F H) U') := by
  have f : Same F (Fz (OH F H) U') := fun a o h => fz_of (fun z => by rw [z.1] at h; cases h) (g.f _ _ (e.fr _ _ h))
  refine ⟨e.grow f g.h (fz_le.trans g.s) fun a o h => ?_, f⟩
  obtain ⟨h1, h2⟩ := fz_in h
  rcases g.n a o h2 with z | z
  · cases y : F a with
    | some u => rw [e.fr _ _ y] at z; cases z; exact Or.inl rfl
    | none => exact absurd ⟨y, o, z⟩ h1
  · exact Or.inr z
theorem EnvR.pures {U' : Hp} (e : EnvR G Θ B F H σ Γ fps) (g : Gr H H U' H') : Same (Fz (OH F H) U') H' := fz_le.trans g.s
/-! ## outcomes with a state -/
inductive Ou (α : Type) where
  | ok (a : α) (Γ : Env) | ex (c : Nat) (fs : List (Str × D)) (Γ : Env) | no
def Ou.bind {α β : Type} (x : Ou α) (k : α → Env → Ou β) : Ou β := match x with
  | .ok a Γ => k a Γ
  | .ex c fs Γ => .ex c fs Γ
  | .no => .no
@[simp] theorem Ou.bind_ok {α β : Type} (a : α) (Γ : Env) (k : α → Env → Ou β) : (Ou.ok a Γ).bind k = k a Γ := rfl
@[simp] theorem Ou.bind_ex {α β : Type} (c : Nat) (fs : List (Str × D)) (Γ : Env) (k : α → Env → Ou β) : (Ou.ex c fs Γ).bind k = .ex c fs Γ := rfl
@[simp] theorem Ou.bind_no {α β : Type} (k : α → Env → Ou β) : (Ou.no : Ou α).bind k = .no := rfl
def Rs.ou {α : Type} (x : Rs α) (Γ : Env) : Ou α := match x with
  | .ok a => .ok a Γ
  | .ex c fs => .ex c fs Γ
  | .no => .no
@[simp] theorem Rs.ou_ok {α : Type} (a : α) (Γ : Env) : (Rs.ok a).ou Γ = .ok a Γ := rfl
@[simp] theorem Rs.ou_ex {α : Type} (c : Nat) (fs : List (Str × D)) (Γ : Env) : (Rs.ex c fs : Rs α).ou Γ = .ex c fs Γ := rfl
@[simp] theorem Rs.ou_no {α : Type} (Γ : Env) : (Rs.no : Rs α).ou Γ = .no := rfl
def pE {α : Type} (f : Env → Rs α) : Env → Ou α := fun Γ => (f Γ).ou Γ
structure RelE (β α : Type) where
  r : Hp → Hp → β → α → List Addr → Prop
def eV (G : KC) (t : T) : RelE V D := ⟨fun F H v d fp => Own G F H t v d fp⟩
def eB : RelE Bool Bool := ⟨fun _ _ b a fp => b = a ∧ fp = []⟩
def eA (G : KC) : RelE (List V) (List D) := ⟨fun F _ vs ds fp => RA G F vs ds ∧ fp = []⟩
def EQ {α β : Type} (G : KC) (Θ : List Md) (B : Bs) (E : XK) (F : Hp) (σ : L2.St) (rel : RelE β α) (Q : β → Hp → Prop) : Ou α → Prop
  | .ok a Γ => ∀ b F' H' fps fp, EnvR G Θ B F' H' σ Γ fps → Same F F' → rel.r F' H' b a fp → (fp ++ fps.flatten).Nodup → (∀ a ∈ fp, F' a = none ∧ (a ∈ B.M ∨ B.H0 a = none)) → Q b H'
  | .ex c fs Γ => ∀ dd F' H' fps, EnvR G Θ B F' H' σ Γ fps → Same F F' → XR G F' H' dd fs → E (.ref (G.cl c)) dd H'
  | .no => False
def Ef {α β : Type} (G : KC) (Θ : List Md) (E : EK) (rel : RelE β α) (te : L2.St → Hp → (β → Hp → Prop) → Prop) (f : Env → Ou α) : Prop :=
  ∀ (B : Bs) (F H : Hp) (σ : L2.St) (Γ : Env) (fps : List (List Addr)), EnvR G Θ B F H σ Γ fps → ∀ Q, EQ G Θ B (E σ) F σ rel Q (f Γ) → te σ H Q
abbrev EfV (G : KC) (Θ : List Md) (E : EK) (t : T) (te : TE) (f : Env → Ou D) : Prop := Ef G Θ E (eV G t) te f
abbrev EfB (G : KC) (Θ : List Md) (E : EK) (te : TT) (f : Env → Ou Bool) : Prop := Ef G Θ E eB te f
abbrev EfA (G : KC) (Θ : List Md) (E : EK) (te : TA) (f : Env → Ou (List D)) : Prop := Ef G Θ E (eA G) te f
variable {α β γ δ : Type} {E : EK} {Ex : XK} {rel : RelE β α} {rel2 : RelE δ γ} {Q : δ → Hp → Prop} {W : β → Hp → Prop} {te ta tb tc : TE} {tt tu : TT} {tr : TA} {t t1 t2 t3 : T} {ts : List T} {f g : Env → Ou D} {pf : Env → Rs D} {fs : Env → Ou (List D)} {pfs : Env → Rs (List D)} {b c : Env → Ou Bool} {pb : Env → Rs Bool}
theorem EQ.bind {x : Ou α} {k : α → Env → Ou γ} (q : EQ G Θ B Ex F σ rel2 Q (x.bind k))
    (h : ∀ a Γ1 b F1 H1 fps1 fp, EnvR G Θ B F1 H1 σ Γ1 fps1 → Same F F1 → rel.r F1 H1 b a fp → (fp ++ fps1.flatten).Nodup → (∀ a ∈ fp, F1 a = none ∧ (a ∈ B.M ∨ B.H0 a = none)) → EQ G Θ B Ex F1 σ rel2 Q (k a Γ1) → W b H1) : EQ G Θ B Ex F σ rel W x := by
  cases x with
  | ok a Γ1 =>
    intro b F1 H1 fps1 fp e s r n m
    refine h a Γ1 b F1 H1 fps1 fp e s r n m ?_
    have q' : EQ G Θ B Ex F σ rel2 Q (k a Γ1) := q
    cases hk : k a Γ1 with
    | ok a' Γ2 => rw [hk] at q'; exact fun b F2 H2 fps2 fp2 e2 s2 => q' b F2 H2 fps2 fp2 e2 (s.trans s2)
    | ex c fs Γ2 => rw [hk] at q'; exact fun dd F2 H2 fps2 e2 s2 => q' dd F2 H2 fps2 e2 (s.trans s2)
    | no => rw [hk] at q'; exact q'
  | ex c fs Γ1 => exact q
  | no => exact q
/-- the end of a reading that owns nothing -/
theorem EQ.fin {a : α} {b : β} (q : EQ G Θ B Ex F σ rel W (.ok a Γ)) (e : EnvR G Θ B F H σ Γ fps) (r : rel.r F H b a []) : W b H :=
  q b F H fps [] e (.refl _) r (by simpa using e.nd) (fun a z => absurd z List.not_mem_nil)
theorem pq_of {rel0 : (Addr → Prop) → Rel β α} {z : Rs α} (e : EnvR G Θ B F H σ Γ fps) (q : EQ G Θ B Ex F σ rel W (z.ou Γ))
    (k : ∀ a b U' H', Gr H H U' H' → (rel0 (OH F H)).r H U' H' b a → ∃ fp, rel.r (Fz (OH F H) U') H' b a fp ∧ fp.Nodup ∧ ∀ x ∈ fp, H x = none ∧ U' x = none) : PQ G (OH F H) Ex H H (rel0 (OH F H)) W z := by
  cases z with
  | ok a =>
    intro b U' H' g r
    obtain ⟨fp, h1, h2, h3⟩ := k a b U' H' g r
    obtain ⟨e', s'⟩ := e.pure g
    refine q b _ H' fps fp e' s' h1 ?_ fun x hx => ⟨fz_none (h3 x hx).2, Or.inr (e.there x (h3 x hx).1)⟩
    refine List.nodup_append.mpr ⟨h2, e.nd, fun x hx y hy z => ?_⟩
    subst z
    obtain ⟨o, ho⟩ := e.at hy
    rw [(h3 x hx).1] at ho
    cases ho
  | ex c fs =>
    intro dd U' H' g r
    obtain ⟨e', s'⟩ := e.pure g
    exact q dd _ H' fps e' s' r
  | no => exact q
theorem ef_p (h : EvV G Θ E .fz te pf) : EfV G Θ E .fz te (pE pf) := fun B F H σ Γ fps e Q q =>
  h _ H H σ Γ e.at_ Q (pq_of (rel0 := fun O => rV G O .fz) e q fun a b U' H' g r => ⟨[], .fz r.fz, List.nodup_nil, fun _ z => absurd z List.not_mem_nil⟩)
theorem ef_n (h : EvN G Θ E t te pf) : EfV G Θ E t te (pE pf) := fun B F H σ Γ fps e Q q =>
  h _ H H σ Γ e.at_ Q (pq_of (rel0 := fun O => rN G O t) e q fun a b U' H' g ⟨fp, h1, h2, h3⟩ => ⟨fp, h1, h2, h3⟩)
theorem ef_b (h : EvB G Θ E tt pb) : EfB G Θ E tt (pE pb) := fun B F H σ Γ fps e Q q =>
  h _ H H σ Γ e.at_ Q (pq_of (rel0 := fun _ => rB) e q fun a b U' H' g r => ⟨[], ⟨r, rfl⟩, List.nodup_nil, fun _ z => absurd z List.not_mem_nil⟩)
theorem ef_a (h : EvA G Θ E ts tr pfs) (hf : fzs ts = true) : EfA G Θ E tr (pE pfs) := fun B F H σ Γ fps e Q q =>
  h _ H H σ Γ e.at_ Q (pq_of (rel0 := fun O => rA G O ts) e q fun a b U' H' g r => ⟨[], ⟨RL.fz hf r, rfl⟩, List.nodup_nil, fun _ z => absurd z List.not_mem_nil⟩)

/-! ## parts with effects; what they give is frozen -/
def eOp (op : D → D → Rs D) (a b : Env → Ou D) : Env → Ou D := fun Γ => (a Γ).bind fun x Γ1 => (b Γ1).bind fun y Γ2 => (op x y).ou Γ2
def eUn (op : D → Rs D) (a : Env → Ou D) : Env → Ou D := fun Γ => (a Γ).bind fun x Γ1 => (op x).ou Γ1
def eCons (a : Env → Ou D) (b : Env → Ou (List D)) : Env → Ou (List D) := fun Γ => (a Γ).bind fun x Γ1 => (b Γ1).bind fun xs Γ2 => .ok (x :: xs) Γ2
def eArg (op : List D → Rs D) (a : Env → Ou (List D)) : Env → Ou D := fun Γ => (a Γ).bind fun x Γ1 => (op x).ou Γ1
def eTst (a : Env → Ou D) : Env → Ou Bool := fun Γ => (a Γ).bind fun x Γ1 => (asB x).ou Γ1
def cAnd (a b : Env → Ou Bool) : Env → Ou Bool := fun Γ => (a Γ).bind fun x Γ1 => if x = true then b Γ1 else .ok false Γ1
def cOr (a b : Env → Ou Bool) : Env → Ou Bool := fun Γ => (a Γ).bind fun x Γ1 => if x = true then .ok true Γ1 else b Γ1
def cNot (a : Env → Ou Bool) : Env → Ou Bool := fun Γ => (a Γ).bind fun x Γ1 => .ok (!x) Γ1
def eIf (c : Env → Ou Bool) (a b : Env → Ou D) : Env → Ou D := fun Γ => (c Γ).bind fun x Γ1 => if x = true then a Γ1 else b Γ1
def eAnd (a b : Env → Ou D) : Env → Ou D := fun Γ => (a Γ).bind fun x Γ1 => ((asB x).ou Γ1).bind fun c Γ1 => if c = true then b Γ1 else .ok (.bl false) Γ1
def eOr (a b : Env → Ou D) : Env → Ou D := fun Γ => (a Γ).bind fun x Γ1 => ((asB x).ou Γ1).bind fun c Γ1 => if c = true then .ok (.bl true) Γ1 else b Γ1
/-- the state as a region, frozen parts alone -/
theorem EnvR.reg (e : EnvR G Θ B F H σ Γ fps) : Reg G (OH F H) H H := ⟨.refl _, fun a h => h.2, e.tgH⟩
theorem ef_o2 {r : R2} {op : D → D → Rs D} {t1 t2 : T} (ha : EfV G Θ E .fz ta f) (hb : EfV G Θ E .fz tb g) (ho : O2 G t1 t2 .fz r op) : EfV G Θ E .fz (tOp r ta tb) (eOp op f g) := fun B F H σ Γ fps e Q q =>
  ha B F H σ Γ fps e _ (q.bind fun x Γ1 v F1 H1 fps1 fp1 e1 s1 r1 n1 m1 q => hb B F1 H1 σ Γ1 fps1 e1 _ (q.bind fun y Γ2 w F2 H2 fps2 fp2 e2 s2 r2 n2 m2 q => by
    have z1 := (Own.fz_r r1).2
    have z2 := (Own.fz_r r2).2
    refine ho _ H2 H2 v w x y e2.reg (.fr (by rw [fz_OH e2.fr]; exact z1.mono s2)) (.fr (by rw [fz_OH e2.fr]; exact z2)) Q (E σ) ?_
    exact pq_of (rel0 := fun O => rV G O .fz) e2 q fun a b U' H' g r => ⟨[], .fz r.fz, List.nodup_nil, fun _ z => absurd z List.not_mem_nil⟩))
theorem ef_o2n {r : R2} {op : D → D → Rs D} {t1 t2 : T} (ha : EfV G Θ E .fz ta f) (hb : EfV G Θ E .fz tb g) (ho : O2N G t1 t2 t r op) : EfV G Θ E t (tOp r ta tb) (eOp op f g) := fun B F H σ Γ fps e Q q =>
  ha B F H σ Γ fps e _ (q.bind fun x Γ1 v F1 H1 fps1 fp1 e1 s1 r1 n1 m1 q => hb B F1 H1 σ Γ1 fps1 e1 _ (q.bind fun y Γ2 w F2 H2 fps2 fp2 e2 s2 r2 n2 m2 q => by
    have z1 := (Own.fz_r r1).2
    have z2 := (Own.fz_r r2).2
    refine ho _ H2 H2 v w x y e2.reg (.fr (by rw [fz_OH e2.fr]; exact z1.mono s2)) (.fr (by rw [fz_OH e2.fr]; exact z2)) Q (E σ) ?_
    exact pq_of (rel0 := fun O => rN G O t) e2 q fun a b U' H' g ⟨fp, h1, h2, h3⟩ => ⟨fp, h1, h2, h3⟩))
theorem ef_un {ru : V → Hp → VK → Prop} {o : D → Rs D} (ha : EfV G Θ E .fz ta f) (ho : O1 G .fz .fz ru o) : EfV G Θ E .fz (tUn ru ta) (eUn o f) := fun B F H σ Γ fps e Q q =>
  ha B F H σ Γ fps e _ (q.bind fun x Γ1 v F1 H1 fps1 fp1 e1 s1 r1 n1 m1 q => by
    have z1 := (Own.fz_r r1).2
    refine ho _ H1 H1 v x e1.reg (.fr (by rw [fz_OH e1.fr]; exact z1)) Q (E σ) ?_
    exact pq_of (rel0 := fun O => rV G O .fz) e1 q fun a b U' H' g r => ⟨[], .fz r.fz, List.nodup_nil, fun _ z => absurd z List.not_mem_nil⟩)
theorem fa_cons (ha : EfV G Θ E .fz ta f) (hr : EfA G Θ E tr fs) : EfA G Θ E (tCons ta tr) (eCons f fs) := fun B F H σ Γ fps e Q q =>
  ha B F H σ Γ fps e _ (q.bind fun x Γ1 v F1 H1 fps1 fp1 e1 s1 r1 n1 m1 q => hr B F1 H1 σ Γ1 fps1 e1 _ (q.bind fun ys Γ2 ws F2 H2 fps2 fp2 e2 s2 r2 n2 m2 q =>
    q.fin e2 ⟨.cons ((Own.fz_r r1).2.mono s2) r2.1, rfl⟩))
theorem fa_nil : EfA G Θ E tNil (pE pNil) := fun B F H σ Γ fps e Q q => q.fin e ⟨.nil, rfl⟩
/-- as many frozen ones as there are -/
theorem RA.rl {F U : Hp} : ∀ {ts : List T} {vs : List V} {ds : List D}, RA G F vs ds → ts.length = ds.length → RL G F U ts vs ds
  | [], _, _, .nil, _ => .nil
  | _ :: _, _, _, .cons h r, e => .cons (.fr h) (RA.rl r (Nat.succ.inj e))
  | [], _, _, .cons h r, e => nomatch e
  | _ :: _, _, _, .nil, e => nomatch e
def eArgN (n : Nat) (op : List D → Rs D) (a : Env → Ou (List D)) : Env → Ou D := fun Γ => (a Γ).bind fun x Γ1 => if x.length = n then (op x).ou Γ1 else .no
theorem EQ.ite {p : Prop} [Decidable p] {x : Ou α} (q : EQ G Θ B Ex F σ rel W (if p then x else .no)) : p ∧ EQ G Θ B Ex F σ rel W x := by
  by_cases e : p
  · rw [if_pos e] at q; exact ⟨e, q⟩
  · rw [if_neg e] at q; exact q.elim
theorem ef_cb {rc : List V → Hp → VK → Prop} {o : List D → Rs D} (ha : EfA G Θ E tr fs) (ho : OC G ts .fz rc o) : EfV G Θ E .fz (tCB rc tr) (eArgN ts.length o fs) := fun B F H σ Γ fps e Q q =>
  ha B F H σ Γ fps e _ (q.bind fun x Γ1 v F1 H1 fps1 fp1 e1 s1 r1 n1 m1 q => by
    obtain ⟨hl, q⟩ := EQ.ite q
    refine ho _ H1 H1 v x e1.reg (RA.rl (by rw [fz_OH e1.fr]; exact r1.1) hl.symm) Q (E σ) ?_
    exact pq_of (rel0 := fun O => rV G O .fz) e1 q fun a b U' H' g r => ⟨[], .fz r.fz, List.nodup_nil, fun _ z => absurd z List.not_mem_nil⟩)
theorem ef_cbn {rc : List V → Hp → VK → Prop} {o : List D → Rs D} (ha : EfA G Θ E tr fs) (ho : OCN G ts t rc o) : EfV G Θ E t (tCB rc tr) (eArgN ts.length o fs) := fun B F H σ Γ fps e Q q =>
  ha B F H σ Γ fps e _ (q.bind fun x Γ1 v F1 H1 fps1 fp1 e1 s1 r1 n1 m1 q => by
    obtain ⟨hl, q⟩ := EQ.ite q
    refine ho _ H1 H1 v x e1.reg (RA.rl (by rw [fz_OH e1.fr]; exact r1.1) hl.symm) Q (E σ) ?_
    exact pq_of (rel0 := fun O => rN G O t) e1 q fun a b U' H' g ⟨fp, h1, h2, h3⟩ => ⟨fp, h1, h2, h3⟩)
theorem asB_ou {x : D} {k : Bool → Env → Ou α} (q : EQ G Θ B Ex F σ rel W (((asB x).ou Γ).bind k)) : ∃ b, x = .bl b ∧ EQ G Θ B Ex F σ rel W (k b Γ) := by
  cases x <;> first | exact ⟨_, rfl, q⟩ | exact q.elim
theorem blE {v : V} {x : Bool} {fp : List Addr} (h : Own G F H .fz v (.bl x) fp) : v = .bl x := by
  have := h.fz_r.2
  cases this
  rfl
theorem ef_tst (h : EfV G Θ E .fz te f) : EfB G Θ E (tTest te) (eTst f) := fun B F H σ Γ fps e Q q =>
  h B F H σ Γ fps e _ (q.bind fun x Γ1 v F1 H1 fps1 fp1 e1 s1 r1 n1 m1 q => by
    cases x with
    | bl b => exact ⟨b, blE r1, q.fin e1 ⟨rfl, rfl⟩⟩
    | _ => exact q.elim)
theorem ef_tB (h : EfV G Θ E .fz te f) : EfB G Θ E (tB te) (eTst f) := fun B F H σ Γ fps e Q q =>
  h B F H σ Γ fps e _ (q.bind fun x Γ1 v F1 H1 fps1 fp1 e1 s1 r1 n1 m1 q => by
    cases x with
    | bl b => exact ⟨b, blE r1, q.fin e1 ⟨rfl, rfl⟩⟩
    | _ => exact q.elim)
theorem ef_and (h1 : EfB G Θ E tt b) (h2 : EfB G Θ E tu c) : EfB G Θ E (tAnd tt tu) (cAnd b c) := fun B F H σ Γ fps e Q q =>
  h1 B F H σ Γ fps e _ (q.bind fun x Γ1 v F1 H1 fps1 fp1 e1 s1 r1 n1 m1 q => by
    obtain ⟨rfl, rfl⟩ := r1
    cases v with
    | true => exact h2 B F1 H1 σ Γ1 fps1 e1 Q q
    | false => exact q.fin e1 ⟨rfl, rfl⟩)
theorem ef_or (h1 : EfB G Θ E tt b) (h2 : EfB G Θ E tu c) : EfB G Θ E (tOr tt tu) (cOr b c) := fun B F H σ Γ fps e Q q =>
  h1 B F H σ Γ fps e _ (q.bind fun x Γ1 v F1 H1 fps1 fp1 e1 s1 r1 n1 m1 q => by
    obtain ⟨rfl, rfl⟩ := r1
    cases v with
    | false => exact h2 B F1 H1 σ Γ1 fps1 e1 Q q
    | true => exact q.fin e1 ⟨rfl, rfl⟩)
theorem ef_not (h1 : EfB G Θ E tt b) : EfB G Θ E (tNot tt) (cNot b) := fun B F H σ Γ fps e Q q =>
  h1 B F H σ Γ fps e _ (q.bind fun x Γ1 v F1 H1 fps1 fp1 e1 s1 r1 n1 m1 q => by
    obtain ⟨rfl, rfl⟩ := r1
    exact q.fin e1 ⟨rfl, rfl⟩)
theorem ef_if (h : EfB G Θ E tt b) (h1 : EfV G Θ E t ta f) (h2 : EfV G Θ E t tb g) : EfV G Θ E t (tIf tt ta tb) (eIf b f g) := fun B F H σ Γ fps e Q q =>
  h B F H σ Γ fps e _ (q.bind fun x Γ1 v F1 H1 fps1 fp1 e1 s1 r1 n1 m1 q => by
    obtain ⟨rfl, rfl⟩ := r1
    cases v with
    | true => exact h1 B F1 H1 σ Γ1 fps1 e1 Q q
    | false => exact h2 B F1 H1 σ Γ1 fps1 e1 Q q)
theorem ef_andV (h1 : EfV G Θ E .fz ta f) (h2 : EfV G Θ E .fz tb g) : EfV G Θ E .fz (tAndV ta tb) (eAnd f g) := fun B F H σ Γ fps e Q q =>
  h1 B F H σ Γ fps e _ (q.bind fun x Γ1 v F1 H1 fps1 fp1 e1 s1 r1 n1 m1 q => by
    obtain ⟨k, rfl, q⟩ := asB_ou q
    refine ⟨k, blE r1, ?_⟩
    cases k with
    | true => exact h2 B F1 H1 σ Γ1 fps1 e1 Q q
    | false => exact q.fin e1 (.fz (.bl _)))
theorem ef_orV (h1 : EfV G Θ E .fz ta f) (h2 : EfV G Θ E .fz tb g) : EfV G Θ E .fz (tOrV ta tb) (eOr f g) := fun B F H σ Γ fps e Q q =>
  h1 B F H σ Γ fps e _ (q.bind fun x Γ1 v F1 H1 fps1 fp1 e1 s1 r1 n1 m1 q => by
    obtain ⟨k, rfl, q⟩ := asB_ou q
    refine ⟨k, blE r1, ?_⟩
    cases k with
    | false => exact h2 B F1 H1 σ Γ1 fps1 e1 Q q
    | true => exact q.fin e1 (.fz (.bl _)))
theorem ef_tup (ha : EfA G Θ E tr fs) : EfV G Θ E .fz (tTup tr) (eArg opTup fs) := fun B F H σ Γ fps e Q q =>
  ha B F H σ Γ fps e _ (q.bind fun x Γ1 v F1 H1 fps1 fp1 e1 s1 r1 n1 m1 q => by
    have q' : EQ G Θ B (E σ) F1 σ (eV G .fz) Q ((if x.length ≤ 1000000 then Rs.ok (.tup x) else .no).ou Γ1) := q
    by_cases hz : x.length ≤ 1000000
    · rw [if_pos hz] at q'
      refine ⟨big (by rw [r1.1.len]; exact hz), fun p hp => ?_⟩
      have hF : F1 p = none := e1.fr.free hp
      have gn : Gr F1 H1 (upd F1 p (.tup v)) (upd H1 p (.tup v)) := (Gr.refl e1.fr).new hp
      have e2 := e1.grow gn.f gn.h gn.s gn.n
      exact q' _ _ _ fps1 [] e2 gn.f (.fz (.tup (Or.inl (Or.inl upd_same)) (r1.1.mono gn.f))) (by simpa using e2.nd) (fun a z => absurd z List.not_mem_nil)
    · rw [if_neg hz] at q'; exact q'.elim)
theorem ef_lst (ha : EfA G Θ E tr fs) : EfV G Θ E (.lst .fz) (tLst tr) (eArg opLst fs) := fun B F H σ Γ fps e Q q =>
  ha B F H σ Γ fps e _ (q.bind fun x Γ1 v F1 H1 fps1 fp1 e1 s1 r1 n1 m1 q => by
    have q' : EQ G Θ B (E σ) F1 σ (eV G (.lst .fz)) Q ((if x.length ≤ 1000000 then Rs.ok (.lst x) else .no).ou Γ1) := q
    by_cases hz : x.length ≤ 1000000
    · rw [if_pos hz] at q'
      refine ⟨big (by rw [r1.1.len]; exact hz), fun p hp => ?_⟩
      have gn : Gr F1 H1 F1 (upd H1 p (.lst v)) := (Gr.refl e1.fr).newH hp
      have e2 := e1.grow gn.f gn.h gn.s gn.n
      refine q' _ _ _ fps1 [p] e2 gn.f (.lst upd_same (e1.reg.tn hp) (OwnA.of_r r1.1)) ?_ (fun a z => ?_)
      · refine List.nodup_cons.mpr ⟨fun z => ?_, e2.nd⟩
        obtain ⟨o, ho⟩ := e1.at z
        rw [hp] at ho
        cases ho
      · cases List.mem_singleton.mp z
        exact ⟨e1.fr.free hp, Or.inr (e1.there p hp)⟩
    · rw [if_neg hz] at q'; exact q'.elim)
/-- what was made is frozen -/
theorem Own.freeze {F2 : Hp} {v : V} {d : D} {fp : List Addr} (h : Own G F H t v d fp) (s : Same F F2) (k : ∀ a ∈ fp, ∀ o, H a = some o → F2 a = some o) : R G F2 v d := RT.r s (h.rt k)
theorem ef_frz (h : EfV G Θ E t te f) : EfV G Θ E .fz te f := fun B F H σ Γ fps e Q q => h B F H σ Γ fps e Q (by
  revert q
  cases f Γ with
  | ok d Γ1 =>
    intro q v F1 H1 fps1 fp e1 s1 ow n1 m1
    have hH : ∀ a ∈ fp, ∃ o, H1 a = some o := ow.at
    have g2 : Same F1 (uni F1 H1 fp) := uni_le
    have e2 : EnvR G Θ B (uni F1 H1 fp) H1 σ Γ1 fps1 := by
      refine ⟨e1.ls, e1.lf, e1.lt, fun i m o fp h1 h2 h3 => (e1.slot i m o fp h1 h2 h3).mono g2 fun _ _ _ z => z, e1.nd, fun a ha => ?_, e1.mine, e1.pin, uni_h e1.fr, e1.f0.trans g2, e1.keep, e1.there, fun a o z => ?_, e1.w, e1.wm, e1.tg, e1.po⟩
      · cases z : uni F1 H1 fp a with
        | none => rfl
        | some o =>
          rcases uni_in z with y | y
          · rw [e1.out a ha] at y; cases y
          · exact absurd rfl ((List.nodup_append.mp n1).2.2 a y a ha)
      · rcases uni_in z with y | y
        · exact e1.new a o y
        · rcases (m1 a y).2 with x | x
          · exact Or.inr (Or.inr x)
          · exact Or.inr (Or.inl x)
    exact q v _ H1 fps1 [] e2 (s1.trans g2) (.fz (ow.freeze g2 fun a ha o ho => uni_fp ha (m1 a ha).1 ho)) (by simpa using e1.nd) (fun a z => absurd z List.not_mem_nil)
  | ex c fs Γ1 => exact fun q => q
  | no => exact fun q => q)
end
end Y

namespace Y
open PySem PySem.Spec PyProof.Rows L2 Z

/-! ## frames -/
section
variable {G : KC} {Θ : List Md} {B : Bs} {F H F' H' : Hp} {σ σ' : L2.St} {Γ Γ' : Env} {fps fps' : List (List Addr)}
def Bs.re (B : Bs) (F H : Hp) (fps : List (List Addr)) : Bs := ⟨H, F, fps.flatten, B.pins, B.W⟩
/-- the state as a new base -/
theorem EnvR.base (e : EnvR G Θ B F H σ Γ fps) : EnvR G Θ (B.re F H fps) F H σ Γ fps where
  ls := e.ls
  lf := e.lf
  lt := e.lt
  slot := e.slot
  nd := e.nd
  out := e.out
  mine := fun a ha => Or.inl ha
  pin := e.pin
  fr := e.fr
  f0 := .refl _
  keep := fun _ _ h _ => h
  there := fun _ h => h
  new := fun _ _ h => Or.inl h
  w := e.ws
  wm := fun a ha => e.fw ha
  tg := e.tgH
  po := e.po
/-- .. and back -/
theorem EnvR.back (e : EnvR G Θ B F H σ Γ fps) (e2 : EnvR G Θ (B.re F H fps) F' H' σ' Γ' fps') : EnvR G Θ B F' H' σ' Γ' fps' where
  ls := e2.ls
  lf := e2.lf
  lt := e2.lt
  slot := e2.slot
  nd := e2.nd
  out := e2.out
  mine := fun a ha => (e2.mine a ha).elim (fun z => e.mine a z) fun z => Or.inr (e.there a z)
  pin := e2.pin
  fr := e2.fr
  f0 := e.f0.trans e2.f0
  keep := fun a o h n => e2.keep a o (e.keep a o h n) fun z => by
    rcases e.mine a z with y | y
    · exact n y
    · rw [y] at h; cases h
  there := fun a h => e.there a (e2.there a h)
  new := fun a o h => by
    rcases e2.new a o h with z | z | z
    · exact e.new a o z
    · exact Or.inr (Or.inl (e.there a z))
    · exact (e.mine a z).elim (fun y => Or.inr (Or.inr y)) fun y => Or.inr (Or.inl y)
  w := e.w
  wm := e.wm
  tg := e.tg
  po := e.po

/-! ## slots are set -/
theorem flat_set : ∀ {fps : List (List Addr)} {i : Nat} {old fp : List Addr}, fps[i]? = some old → ∀ a, a ∈ (fps.set i fp).flatten ↔ a ∈ fp ∨ ∃ (j : Nat) (q : List Addr), j ≠ i ∧ fps[j]? = some q ∧ a ∈ q := by
  intro fps i old fp h a
  rw [List.mem_flatten]
  constructor
  · rintro ⟨l, hl, ha⟩
    obtain ⟨j, hj, e⟩ := List.getElem_of_mem hl
    have hj' : j < fps.length := by rw [List.length_set] at hj; exact hj
    by_cases z : j = i
    · subst z
      rw [List.getElem_set_self] at e
      rw [← e] at ha
      exact Or.inl ha
    · rw [List.getElem_set_ne (Ne.symm z)] at e
      exact Or.inr ⟨j, l, z, by rw [List.getElem?_eq_getElem hj', e], ha⟩
  · rintro (ha | ⟨j, q, hj, hq, ha⟩)
    · have hl : i < fps.length := (List.getElem?_eq_some_iff.mp h).1
      exact ⟨fp, List.mem_of_getElem? (List.getElem?_set_self hl), ha⟩
    · exact ⟨q, List.mem_of_getElem? (by rw [List.getElem?_set_ne (Ne.symm hj)]; exact hq), ha⟩
theorem flat_old {i j : Nat} {a : Addr} {p q : List Addr} (n : fps.flatten.Nodup) (hi : fps[i]? = some p) (hj : fps[j]? = some q) (h : i ≠ j) (ha : a ∈ p) : a ∉ q := by
  induction fps generalizing i j with
  | nil => simp at hi
  | cons l ls ih =>
    rw [List.flatten_cons, List.nodup_append] at n
    cases i with
    | zero =>
      cases j with
      | zero => exact absurd rfl h
      | succ j =>
        simp at hi hj
        subst hi
        exact fun z => n.2.2 a ha a (List.mem_flatten.mpr ⟨q, List.mem_of_getElem? hj, z⟩) rfl
    | succ i =>
      cases j with
      | zero =>
        simp at hi hj
        subst hj
        exact fun z => n.2.2 a z a (List.mem_flatten.mpr ⟨p, List.mem_of_getElem? hi, ha⟩) rfl
      | succ j =>
        simp at hi hj
        exact ih n.2.1 hi hj (by omega)
theorem nodup_set : ∀ {fps : List (List Addr)} {i : Nat} {old fp : List Addr}, fps[i]? = some old → fps.flatten.Nodup → fp.Nodup → (∀ a ∈ fp, ∀ (j : Nat) (q : List Addr), j ≠ i → fps[j]? = some q → a ∉ q) → (fps.set i fp).flatten.Nodup
  | [], i, old, fp, h, n, m, k => by simp at h
  | l :: ls, 0, old, fp, h, n, m, k => by
    rw [List.flatten_cons, List.nodup_append] at n
    rw [List.set_cons_zero, List.flatten_cons, List.nodup_append]
    refine ⟨m, n.2.1, fun a ha b hb z => ?_⟩
    subst z
    obtain ⟨q, hq, hb⟩ := List.mem_flatten.mp hb
    obtain ⟨j, hj, e⟩ := List.getElem_of_mem hq
    exact k a ha (j + 1) q (by omega) (by simp [List.getElem?_eq_getElem hj, e]) hb
  | l :: ls, i + 1, old, fp, h, n, m, k => by
    rw [List.flatten_cons, List.nodup_append] at n
    rw [List.set_cons_succ, List.flatten_cons, List.nodup_append]
    have h' : ls[i]? = some old := by simpa using h
    refine ⟨n.1, nodup_set h' n.2.1 m (fun a ha j q hj hq => k a ha (j + 1) q (by omega) (by simpa using hq)), fun a ha b hb z => ?_⟩
    subst z
    rcases (flat_set h' a).mp hb with hb | ⟨j, q, hj, hq, hb⟩
    · exact k a hb 0 l (by omega) rfl ha
    · exact n.2.2 a ha a (List.mem_flatten.mpr ⟨q, List.mem_of_getElem? hq, hb⟩) rfl
/-- slot i is told anew; the heap may change at what it owned -/
theorem EnvR.put {i : Nat} {m : Md} {v : Option V} {o : Option D} {fp old : List Addr} (e : EnvR G Θ B F H σ Γ fps) (hm : Θ[i]? = some m) (ho : fps[i]? = some old) (hσ : ∀ j, j ≠ i → σ'[j]? = σ[j]?) (hl : σ'.length = σ.length)
    (hs : SlotR G B.W F H' m σ'[i]? o fp) (n : fp.Nodup) (dj : ∀ a ∈ fp, ∀ (j : Nat) (q : List Addr), j ≠ i → fps[j]? = some q → a ∉ q) (hF : ∀ a ∈ fp, F a = none) (hM : ∀ a ∈ fp, a ∈ B.M ∨ B.H0 a = none)
    (hp : ∀ q ∈ B.pins, q.1 = i → σ'[i]? = some (some q.2)) (hk : ∀ a u, H a = some u → a ∉ old → H' a = some u) (ht : ∀ a, H' a = none → H a = none) : EnvR G Θ B F H' σ' (Γ.set i o) (fps.set i fp) where
  ls := by rw [hl, List.length_set]; exact e.ls
  lf := by rw [List.length_set, List.length_set]; exact e.lf
  lt := by rw [List.length_set]; exact e.lt
  slot := fun j m' o' fp' h1 h2 h3 => by
    have hi : i < Γ.length := by rw [← e.lt]; exact (List.getElem?_eq_some_iff.mp hm).1
    by_cases z : i = j
    · subst z
      rw [List.getElem?_set_self hi] at h2
      rw [List.getElem?_set_self (by rw [e.lf]; exact hi)] at h3
      cases h2
      cases h3
      rw [hm] at h1
      cases h1
      exact hs
    · rw [List.getElem?_set_ne z] at h2 h3
      rw [hσ j (Ne.symm z)]
      exact (e.slot j m' o' fp' h1 h2 h3).mono (.refl _) fun a ha u hu => hk a u hu (flat_old e.nd h3 ho (Ne.symm z) ha)
  nd := nodup_set ho e.nd n dj
  out := fun a ha => ((flat_set ho a).mp ha).elim (hF a) fun ⟨j, q, _, hq, hb⟩ => e.out a (flat_mem hq hb)
  mine := fun a ha => ((flat_set ho a).mp ha).elim (hM a) fun ⟨j, q, _, hq, hb⟩ => e.mine a (flat_mem hq hb)
  pin := fun q hq => by
    by_cases z : q.1 = i
    · rw [z]; exact hp q hq z
    · rw [hσ q.1 z]; exact e.pin q hq
  fr := fun a u h => hk a u (e.fr a u h) fun z => by
    have := e.out a (flat_mem ho z)
    rw [h] at this; cases this
  f0 := e.f0
  keep := fun a u h nm => hk a u (e.keep a u h nm) fun z => by
    rcases e.mine a (flat_mem ho z) with y | y
    · exact nm y
    · rw [y] at h; cases h
  there := fun a h => e.there a (ht a h)
  new := e.new
  w := e.w
  wm := e.wm
  tg := e.tg
  po := e.po
/-- a slot that is not pinned -/
def free (pn : List Nat) (i : Nat) : Prop := i ∉ pn
theorem EnvR.setV {i : Nat} {m : Md} {v : V} {d : D} {fp : List Addr} {pn : List Nat} (e : EnvR G Θ B F H σ Γ fps) (hpn : ∀ q ∈ B.pins, q.1 ∈ pn) (hi : i ∉ pn) (hm : Θ[i]? = some m)
    (hs : SlotR G B.W F H m (some (some v)) (some d) fp) (n : (fp ++ fps.flatten).Nodup) (k : ∀ a ∈ fp, F a = none ∧ (a ∈ B.M ∨ B.H0 a = none)) : EnvR G Θ B F H (σ.set i (some v)) (Γ.set i (some d)) (fps.set i fp) := by
  obtain ⟨o, old, h1, h2⟩ := e.fpAt hm
  have hl : i < σ.length := by rw [e.ls]; exact (List.getElem?_eq_some_iff.mp h1).1
  have nn := List.nodup_append.mp n
  refine e.put (old := old) (v := some v) hm h2 (fun j hj => List.getElem?_set_ne (Ne.symm hj)) List.length_set (by rw [List.getElem?_set_self hl]; exact hs) nn.1 (fun a ha j q hj hq z => nn.2.2 a ha a (flat_mem hq z) rfl) (fun a ha => (k a ha).1) (fun a ha => (k a ha).2) (fun q hq z => absurd (hpn q hq) (by rw [z]; exact hi)) (fun _ _ h _ => h) (fun _ h => h)
/-- a slot is emptied; what it owned is let go -/
theorem EnvR.drop {i : Nat} {m : Md} {pn : List Nat} (e : EnvR G Θ B F H σ Γ fps) (hm : Θ[i]? = some m) : EnvR G Θ B F H σ (Γ.set i none) (fps.set i []) := by
  obtain ⟨o, old, h1, h2⟩ := e.fpAt hm
  exact e.put (old := old) (v := none) hm h2 (fun j hj => rfl) rfl (by cases m <;> rfl) List.nodup_nil (fun a ha => absurd ha List.not_mem_nil) (fun a ha => absurd ha List.not_mem_nil) (fun a ha => absurd ha List.not_mem_nil) (fun q hq z => by rw [← z]; exact e.pin q hq) (fun _ _ h _ => h) (fun _ h => h)
/-- what slot i owns is taken out of it -/
theorem EnvR.take {i : Nat} {t : T} {d : D} (e : EnvR G Θ B F H σ Γ fps) (hm : Θ[i]? = some (.own t)) (hd : Γ[i]? = some (some d)) :
    ∃ v fp, σ[i]? = some (some v) ∧ Own G F H t v d fp ∧ EnvR G Θ B F H σ (Γ.set i none) (fps.set i []) ∧ (fp ++ (fps.set i []).flatten).Nodup ∧ ∀ a ∈ fp, F a = none ∧ (a ∈ B.M ∨ B.H0 a = none) := by
  obtain ⟨o, fp, h1, h2⟩ := e.fpAt hm
  obtain ⟨v, h3, ow⟩ := e.slot i _ _ fp hm hd h2
  have hn : fp.Nodup := by
    have : ∀ (l : List (List Addr)) (i : Nat), l.flatten.Nodup → l[i]? = some fp → fp.Nodup := by
      intro l
      induction l with
      | nil => intro i _ h; simp at h
      | cons a l ih =>
        intro i n h
        rw [List.flatten_cons, List.nodup_append] at n
        cases i with
        | zero => simp at h; subst h; exact n.1
        | succ i => exact ih i n.2.1 (by simpa using h)
    exact this _ i e.nd h2
  have e2 := e.drop (pn := []) hm
  refine ⟨v, fp, h3, ow, e2, List.nodup_append.mpr ⟨hn, e2.nd, fun a ha b hb z => ?_⟩, fun a ha => ⟨e.out a (flat_mem h2 ha), e.mine a (flat_mem h2 ha)⟩⟩
  subst z
  rcases (flat_set h2 a).mp hb with z | ⟨j, q, hj, hq, z⟩
  · exact absurd z List.not_mem_nil
  · exact flat_old e.nd h2 hq (Ne.symm hj) ha z
end

/-! ## statements -/
inductive So where
  | nx (Γ : Env) | rt (d : D) (Γ : Env) | bk (Γ : Env) | ct (Γ : Env) | ex (c : Nat) (fs : List (Str × D)) (Γ : Env) | no
/-- what is wanted behind a statement; rt: the kind of what is returned -/
def SQ (G : KC) (Θ : List Md) (B : Bs) (E : EK) (F : Hp) (t : T) (Dn : Ends) : So → Prop
  | .nx Γ => ∀ F' H' σ' fps, EnvR G Θ B F' H' σ' Γ fps → Same F F' → Dn.nx σ' H'
  | .bk Γ => ∀ F' H' σ' fps, EnvR G Θ B F' H' σ' Γ fps → Same F F' → Dn.bk σ' H'
  | .ct Γ => ∀ F' H' σ' fps, EnvR G Θ B F' H' σ' Γ fps → Same F F' → Dn.ct σ' H'
  | .rt d Γ => ∀ v F' H' σ' fps fp, EnvR G Θ B F' H' σ' Γ fps → Same F F' → Own G F' H' t v d fp → (fp ++ fps.flatten).Nodup → (∀ a ∈ fp, F' a = none ∧ (a ∈ B.M ∨ B.H0 a = none)) → Dn.rt v H'
  | .ex c fs Γ => ∀ dd F' H' σ' fps, EnvR G Θ B F' H' σ' Γ fps → Same F F' → XR G F' H' dd fs → E σ' (.ref (G.cl c)) dd H'
  | .no => False
def Es (G : KC) (Θ : List Md) (E : EK) (pn : List Nat) (t : T) (ts : TS) (f : Env → So) : Prop :=
  ∀ (B : Bs) (F H : Hp) (σ : L2.St) (Γ : Env) (fps : List (List Addr)) (Dn : Ends), (∀ q ∈ B.pins, q.1 ∈ pn) → EnvR G Θ B F H σ Γ fps → SQ G Θ B E F t Dn (f Γ) → ts Dn σ H
def Ou.so {α : Type} (x : Ou α) (k : α → Env → So) : So := match x with
  | .ok a Γ => k a Γ
  | .ex c fs Γ => .ex c fs Γ
  | .no => .no
@[simp] theorem Ou.so_ok {α : Type} (a : α) (Γ : Env) (k : α → Env → So) : (Ou.ok a Γ).so k = k a Γ := rfl
@[simp] theorem Ou.so_ex {α : Type} (c : Nat) (fs : List (Str × D)) (Γ : Env) (k : α → Env → So) : (Ou.ex c fs Γ).so k = .ex c fs Γ := rfl
@[simp] theorem Ou.so_no {α : Type} (k : α → Env → So) : (Ou.no : Ou α).so k = .no := rfl
def So.seq (x : So) (k : Env → So) : So := match x with
  | .nx Γ => k Γ
  | .rt d Γ => .rt d Γ
  | .bk Γ => .bk Γ
  | .ct Γ => .ct Γ
  | .ex c fs Γ => .ex c fs Γ
  | .no => .no
@[simp] theorem So.seq_nx (Γ : Env) (k : Env → So) : (So.nx Γ).seq k = k Γ := rfl
@[simp] theorem So.seq_rt (d : D) (Γ : Env) (k : Env → So) : (So.rt d Γ).seq k = .rt d Γ := rfl
@[simp] theorem So.seq_bk (Γ : Env) (k : Env → So) : (So.bk Γ).seq k = .bk Γ := rfl
@[simp] theorem So.seq_ct (Γ : Env) (k : Env → So) : (So.ct Γ).seq k = .ct Γ := rfl
@[simp] theorem So.seq_ex (c : Nat) (fs : List (Str × D)) (Γ : Env) (k : Env → So) : (So.ex c fs Γ).seq k = .ex c fs Γ := rfl
@[simp] theorem So.seq_no (k : Env → So) : (So.no).seq k = .no := rfl
def sSeq (a b : Env → So) : Env → So := fun Γ => (a Γ).seq b
def sNext : Env → So := fun Γ => .nx Γ
def sBrk : Env → So := fun Γ => .bk Γ
def sCont : Env → So := fun Γ => .ct Γ
def sNever : Env → So := fun _ => .no
def sRet (f : Env → Ou D) : Env → So := fun Γ => (f Γ).so fun d Γ1 => .rt d Γ1
def sRetN : Env → So := fun Γ => .rt .non Γ
def sDrop (f : Env → Ou D) : Env → So := fun Γ => (f Γ).so fun _ Γ1 => .nx Γ1
def sIf (c : Env → Ou Bool) (a b : Env → So) : Env → So := fun Γ => (c Γ).so fun k Γ1 => if k = true then a Γ1 else b Γ1
def sAsg (i : Nat) (f : Env → Ou D) : Env → So := fun Γ => (f Γ).so fun d Γ1 => .nx (Γ1.set i (some d))
def sAsgG (g : GF) (f : Env → Ou D) : Env → So := fun Γ => (f Γ).so fun d Γ1 => match g d Γ1 with
  | some Γ2 => .nx Γ2
  | none => .no
section
variable {G : KC} {Θ : List Md} {B : Bs} {F F0 H F' H' : Hp} {σ σ' : L2.St} {Γ Γ' : Env} {fps fps' : List (List Addr)} {E : EK} {pn : List Nat} {t t1 rt : T} {ts ta tb : TS} {te : TE} {tt : TT} {f g : Env → So} {e : Env → Ou D} {c : Env → Ou Bool} {Dn : Ends}
theorem SQ.grow {z : So} (s : Same F F') (q : SQ G Θ B E F t Dn z) : SQ G Θ B E F' t Dn z := by
  cases z with
  | nx Γ => exact fun F2 H2 σ2 fps e s2 => q F2 H2 σ2 fps e (s.trans s2)
  | bk Γ => exact fun F2 H2 σ2 fps e s2 => q F2 H2 σ2 fps e (s.trans s2)
  | ct Γ => exact fun F2 H2 σ2 fps e s2 => q F2 H2 σ2 fps e (s.trans s2)
  | rt d Γ => exact fun v F2 H2 σ2 fps fp e s2 => q v F2 H2 σ2 fps fp e (s.trans s2)
  | ex c fs Γ => exact fun dd F2 H2 σ2 fps e s2 => q dd F2 H2 σ2 fps e (s.trans s2)
  | no => exact q
/-- an expression within a statement -/
theorem SQ.exp {α β : Type} {rel : RelE β α} {x : Ou α} {k : α → Env → So} {W : β → Hp → Prop} (q : SQ G Θ B E F t Dn (x.so k))
    (h : ∀ a Γ1 b F1 H1 fps1 fp, EnvR G Θ B F1 H1 σ Γ1 fps1 → Same F F1 → rel.r F1 H1 b a fp → (fp ++ fps1.flatten).Nodup → (∀ a ∈ fp, F1 a = none ∧ (a ∈ B.M ∨ B.H0 a = none)) → SQ G Θ B E F1 t Dn (k a Γ1) → W b H1) : EQ G Θ B (E σ) F σ rel W x := by
  cases x with
  | ok a Γ1 => exact fun b F1 H1 fps1 fp e s r n m => h a Γ1 b F1 H1 fps1 fp e s r n m (SQ.grow s q)
  | ex c fs Γ1 => exact fun dd F1 H1 fps1 e s r => q dd F1 H1 σ fps1 e s r
  | no => exact q
theorem es_next : Es G Θ E pn t tNext sNext := fun B F H σ Γ fps Dn hp e q => q F H σ fps e (.refl _)
theorem es_brk : Es G Θ E pn t tBreak sBrk := fun B F H σ Γ fps Dn hp e q => q F H σ fps e (.refl _)
theorem es_cont : Es G Θ E pn t tCont sCont := fun B F H σ Γ fps Dn hp e q => q F H σ fps e (.refl _)
theorem es_never : Es G Θ E pn t tNever sNever := fun B F H σ Γ fps Dn hp e q => q
theorem SQ.seq {x : So} {k : Env → So} {W : L2.St → Hp → Prop} (q : SQ G Θ B E F t Dn (x.seq k)) (h : ∀ Γ1 F1 H1 σ1 fps1, EnvR G Θ B F1 H1 σ1 Γ1 fps1 → Same F F1 → SQ G Θ B E F1 t Dn (k Γ1) → W σ1 H1) : SQ G Θ B E F t { Dn with nx := W } x := by
  cases x with
  | nx Γ => exact fun F2 H2 σ2 fps e s2 => h Γ F2 H2 σ2 fps e s2 (SQ.grow s2 q)
  | bk Γ => exact q
  | ct Γ => exact q
  | rt d Γ => exact q
  | ex c fs Γ => exact q
  | no => exact q
theorem es_seq (ha : Es G Θ E pn t ta f) (hb : Es G Θ E pn t tb g) : Es G Θ E pn t (tSeq ta tb) (sSeq f g) := fun B F H σ Γ fps Dn hp e q =>
  ha B F H σ Γ fps _ hp e (q.seq fun Γ1 F1 H1 σ1 fps1 e1 s1 q => hb B F1 H1 σ1 Γ1 fps1 Dn hp e1 q)
theorem es_ret (h : EfV G Θ E t te e) : Es G Θ E pn t (tRet te) (sRet e) := fun B F H σ Γ fps Dn hp en q =>
  h B F H σ Γ fps en _ (q.exp fun d Γ1 v F1 H1 fps1 fp e1 s1 r n m q => q v F1 H1 σ fps1 fp e1 (.refl _) r n m)
theorem es_retN (hn : ∀ {F H : Hp}, Own G F H t .non .non []) : Es G Θ E pn t tRetN sRetN := fun B F H σ Γ fps Dn hp e q =>
  q .non F H σ fps [] e (.refl _) hn (by simpa using e.nd) (fun a z => absurd z List.not_mem_nil)
theorem es_drop (h : EfV G Θ E t1 te e) : Es G Θ E pn t (tDrop te) (sDrop e) := fun B F H σ Γ fps Dn hp en q =>
  h B F H σ Γ fps en _ (q.exp fun d Γ1 v F1 H1 fps1 fp e1 s1 r n m q => q F1 H1 σ fps1 e1 (.refl _))
theorem es_if (h : EfB G Θ E tt c) (ha : Es G Θ E pn t ta f) (hb : Es G Θ E pn t tb g) : Es G Θ E pn t (tIfS tt ta tb) (sIf c f g) := fun B F H σ Γ fps Dn hp en q =>
  h B F H σ Γ fps en _ (q.exp fun k Γ1 b F1 H1 fps1 fp e1 s1 r n m q => by
    obtain ⟨rfl, rfl⟩ := r
    cases b with
    | true => exact ha B F1 H1 σ Γ1 fps1 Dn hp e1 q
    | false => exact hb B F1 H1 σ Γ1 fps1 Dn hp e1 q)
/-- x = e, x a frozen thing -/
theorem es_asg {i : Nat} (hi : i ∉ pn) (hm : Θ[i]? = some (.bor t1)) (h : EfV G Θ E .fz te e) : Es G Θ E pn t (tAsg te (gName i)) (sAsg i e) := fun B F H σ Γ fps Dn hp en q =>
  h B F H σ Γ fps en _ (q.exp fun d Γ1 v F1 H1 fps1 fp e1 s1 r n m q =>
    q F1 H1 _ _ (e1.setV (fp := []) hp hi hm ⟨rfl, v, rfl, .fr (Own.fz_r r).2⟩ (by simpa using e1.nd) (fun a z => absurd z List.not_mem_nil)) (.refl _))
/-- x = e, x owns it -/
theorem es_asgO {i : Nat} (hi : i ∉ pn) (hm : Θ[i]? = some (.own t1)) (h : EfV G Θ E t1 te e) : Es G Θ E pn t (tAsg te (gName i)) (sAsg i e) := fun B F H σ Γ fps Dn hp en q =>
  h B F H σ Γ fps en _ (q.exp fun d Γ1 v F1 H1 fps1 fp e1 s1 r n m q =>
    q F1 H1 _ _ (e1.setV hp hi hm ⟨v, rfl, r⟩ n m) (.refl _))
/-- a slot's own thing as a value: the slot is empty then -/
def eTake (i : Nat) : Env → Ou D := fun Γ => match Γ[i]? with
  | some (some d) => .ok d (Γ.set i none)
  | _ => .no
theorem ef_take {i : Nat} {t : T} (hm : Θ[i]? = some (.own t)) : EfV G Θ E t (tVar i) (eTake i) := fun B F H σ Γ fps e Q q => by
  unfold eTake at q
  split at q
  · rename_i d hd
    obtain ⟨v, fp, h1, h2, h3, h4, h5⟩ := e.take hm hd
    exact ⟨v, h1, q v F H _ fp h3 (.refl _) h2 h4 h5⟩
  · exact q.elim
end

/-! ## targets -/
def Et (G : KC) (Θ : List Md) (pn : List Nat) (g : TG) (gf : GF) : Prop := ∀ (B : Bs) (F H : Hp) (σ : L2.St) (Γ : Env) (fps : List (List Addr)) (v : V) (d : D), (∀ q ∈ B.pins, q.1 ∈ pn) → EnvR G Θ B F H σ Γ fps → R G F v d →
  ∀ QQ : L2.St → Hp → Prop, (∃ Γ', gf d Γ = some Γ' ∧ ∀ σ' fps', EnvR G Θ B F H σ' Γ' fps' → QQ σ' H) → g v σ H QQ
def Ets (G : KC) (Θ : List Md) (pn : List Nat) (g : TGs) (gf : List D → Env → Option Env) : Prop := ∀ (B : Bs) (F H : Hp) (σ : L2.St) (Γ : Env) (fps : List (List Addr)) (vs : List V) (ds : List D), (∀ q ∈ B.pins, q.1 ∈ pn) → EnvR G Θ B F H σ Γ fps → RA G F vs ds →
  ∀ QQ : L2.St → Hp → Prop, (∃ Γ', gf ds Γ = some Γ' ∧ ∀ σ' fps', EnvR G Θ B F H σ' Γ' fps' → QQ σ' H) → g vs σ H QQ
section
variable {G : KC} {Θ : List Md} {B : Bs} {F F0 H F' H' : Hp} {σ σ' : L2.St} {Γ Γ' : Env} {fps fps' : List (List Addr)} {E : EK} {pn : List Nat} {t t1 rt : T} {ts ta tb : TS} {te : TE} {tt : TT} {f : Env → So} {e : Env → Ou D} {c : Env → Ou Bool} {Dn : Ends} {g : TG} {gs : TGs} {gf : GF} {gfs : List D → Env → Option Env} {wi : TI}
theorem et_name {i : Nat} (hi : i ∉ pn) (hm : Θ[i]? = some (.bor t)) : Et G Θ pn (gName i) (tgN i) := fun B F H σ Γ fps v d hp e r QQ ⟨Γ', z, k⟩ => by
  cases z
  exact k _ _ (e.setV (fp := []) hp hi hm ⟨rfl, v, rfl, .fr r⟩ (by simpa using e.nd) (fun a z => absurd z List.not_mem_nil))
theorem ets_nil : Ets G Θ pn gNil tgNil := fun B F H σ Γ fps vs ds hp e r QQ ⟨Γ', z, k⟩ => by
  cases r with
  | nil => cases z; exact ⟨rfl, k σ fps e⟩
  | cons _ _ => cases z
theorem ets_cons (h : Et G Θ pn g gf) (h2 : Ets G Θ pn gs gfs) : Ets G Θ pn (gCons g gs) (tgCons gf gfs) := fun B F H σ Γ fps vs ds hp e r QQ ⟨Γ', z, k⟩ => by
  cases r with
  | nil => cases z
  | @cons v vs d ds r1 r2 =>
    have z' : (gf d Γ).bind (fun Γ1 => gfs ds Γ1) = some Γ' := z
    cases y : gf d Γ with
    | none => rw [y] at z'; cases z'
    | some Γ1 =>
      rw [y] at z'
      exact ⟨_, _, rfl, h B F H σ Γ fps _ _ hp e r1 _ ⟨Γ1, y, fun σ1 fps1 e1 => h2 B F H σ1 Γ1 fps1 _ _ hp e1 r2 QQ ⟨Γ', z', k⟩⟩⟩
theorem et_tup {n : Nat} (hn : tgLen n gfs) (h : Ets G Θ pn gs gfs) : Et G Θ pn (gTup G.K n gs) (tgT gfs) := fun B F H σ Γ fps v d hp e r QQ ⟨Γ', z, k⟩ => by
  cases d with
  | tup ds =>
    obtain ⟨b, us, rfl, h1, r1⟩ := R_tup r rfl
    exact ⟨b, us, rfl, same_t e.fr h1, by rw [r1.len]; exact hn ds Γ Γ' z, h B F H σ Γ fps us ds hp e r1 QQ ⟨Γ', z, k⟩⟩
  | _ => cases z
theorem es_asgG (hg : Et G Θ pn g gf) (h : EfV G Θ E .fz te e) : Es G Θ E pn t (tAsg te g) (sAsgG gf e) := fun B F H σ Γ fps Dn hp en q =>
  h B F H σ Γ fps en _ (q.exp fun d Γ1 v F1 H1 fps1 fp e1 s1 r n m q => by
    cases z : gf d Γ1 with
    | none => simp only [z] at q; exact q.elim
    | some Γ2 =>
      simp only [z] at q
      exact hg B F1 H1 σ Γ1 fps1 v d hp e1 (Own.fz_r r).2 _ ⟨Γ2, z, fun σ2 fps2 e2 => q F1 H1 σ2 fps2 e2 (.refl _)⟩)

/-! ## for, while -/
/-- what does not change: frozen, or borrowed -/
def mkE : List Md → Env → Env
  | .own _ :: Θ, _ :: Γ => none :: mkE Θ Γ
  | _ :: Θ, o :: Γ => o :: mkE Θ Γ
  | _, _ => []
theorem mkE_len : ∀ {Θ : List Md} {Γ : Env}, Θ.length = Γ.length → (mkE Θ Γ).length = Γ.length
  | [], [], _ => rfl
  | [], _ :: _, h => nomatch h
  | _ :: _, [], h => nomatch h
  | m :: Θ, o :: Γ, h => by
    have := mkE_len (Nat.succ.inj h : Θ.length = Γ.length)
    cases m <;> simp [mkE, this]
theorem mkE_get : ∀ {Θ : List Md} {Γ : Env} {i : Nat} {m : Md} {d : D}, Θ[i]? = some m → (mkE Θ Γ)[i]? = some (some d) → Γ[i]? = some (some d) ∧ ∀ t, m ≠ .own t
  | [], _, i, m, d, h, _ => by simp at h
  | m' :: Θ, [], i, m, d, h, e => by cases m' <;> simp [mkE] at e
  | m' :: Θ, o :: Γ, 0, m, d, h, e => by
    simp at h
    subst h
    cases m' with
    | own t => simp [mkE] at e
    | scr => simp [mkE] at e; exact ⟨by simp [e], fun t z => by cases z⟩
    | bor t => simp [mkE] at e; exact ⟨by simp [e], fun t z => by cases z⟩
  | m' :: Θ, o :: Γ, i + 1, m, d, h, e => by
    simp at h
    have e' : (mkE Θ Γ)[i]? = some (some d) := by cases m' <;> simpa [mkE] using e
    obtain ⟨h1, h2⟩ := mkE_get h e'
    exact ⟨by simpa using h1, h2⟩
def uniW (F W : Hp) : Hp := fun a => match F a with
  | some o => some o
  | none => W a
def OW (F W : Hp) : Addr → Prop := fun a => F a = none ∧ ∃ o, W a = some o
theorem uniW_l {F W : Hp} : Same F (uniW F W) := fun a o h => by unfold uniW; rw [h]
theorem uniW_r {F W H : Hp} (s : Same F H) (s2 : Same W H) : Same W (uniW F W) := fun a o h => by
  unfold uniW
  cases e : F a with
  | none => exact h
  | some u =>
    have a1 := s a u e
    rw [s2 a o h] at a1
    exact a1.symm ▸ rfl
theorem uniW_s {F W H : Hp} (s : Same F H) (s2 : Same W H) : Same (uniW F W) H := fun a o h => by
  unfold uniW at h
  cases e : F a with
  | none => rw [e] at h; exact s2 a o h
  | some u => rw [e] at h; cases h; exact s a _ e
theorem fz_OW {F W : Hp} : Fz (OW F W) (uniW F W) = F := by
  funext a
  unfold Fz uniW
  split
  · rename_i h; exact h.1.symm
  · rename_i h
    cases e : F a with
    | some o => rfl
    | none =>
      cases e2 : W a with
      | none => rfl
      | some u => exact absurd ⟨e, u, e2⟩ h
theorem EnvR.atW (e : EnvR G Θ B F H σ Γ fps) : At G Θ (OW F B.W) (uniW F B.W) H σ (mkE Θ Γ) where
  g := ⟨uniW_s e.fr e.ws, fun a h => by obtain ⟨_, o, h⟩ := h; exact ⟨o, e.ws a o h⟩, e.tgH⟩
  len := by rw [mkE_len e.lt]; exact e.ls
  sl := fun i m d h1 h2 => by
    obtain ⟨h3, h4⟩ := mkE_get h1 h2
    obtain ⟨o, fp, h5, h6⟩ := e.fpAt h1
    have s := e.slot i m _ fp h1 h3 h6
    rw [fz_OW]
    cases m with
    | scr => obtain ⟨_, a, ns, b, c, d⟩ := s; exact ⟨_, b, a, ns, rfl, c, d⟩
    | bor t => obtain ⟨_, u, b, c⟩ := s; exact ⟨u, b, c.mono (.refl _) (uniW_r e.fr e.ws)⟩
    | own t => exact absurd rfl (h4 t)
theorem EnvR.pureW {U' : Hp} (e : EnvR G Θ B F H σ Γ fps) (g : Gr (uniW F B.W) H U' H') : EnvR G Θ B (Fz (OW F B.W) U') H' σ Γ fps ∧ Same F (Fz (OW F B.W) U') := by
  have f : Same F (Fz (OW F B.W) U') := fun a o h => fz_of (fun z => by rw [z.1] at h; cases h) (g.f _ _ (uniW_l _ _ h))
  refine ⟨e.grow f g.h (fz_le.trans g.s) fun a o h => ?_, f⟩
  obtain ⟨h1, h2⟩ := fz_in h
  rcases g.n a o h2 with z | z
  · unfold uniW at z
    cases y : F a with
    | some u => rw [y] at z; cases z; exact Or.inl rfl
    | none => rw [y] at z; exact absurd ⟨y, o, z⟩ h1
  · exact Or.inr z
def forL (g : GF) (b : Env → So) : List D → Env → So
  | [], Γ => .nx Γ
  | d :: ds, Γ => match g d Γ with
    | none => .no
    | some Γ1 => match b Γ1 with
      | .nx Γ2 => forL g b ds Γ2
      | .ct Γ2 => forL g b ds Γ2
      | .bk Γ2 => .nx Γ2
      | .rt d Γ2 => .rt d Γ2
      | .ex c fs Γ2 => .ex c fs Γ2
      | .no => .no
/-- while: at most n turns -/
def whL (c : Env → Ou Bool) (b : Env → So) : Nat → Env → So
  | 0, _ => .no
  | n + 1, Γ => (c Γ).so fun k Γ1 => if k = true then (match b Γ1 with
      | .nx Γ2 => whL c b n Γ2
      | .ct Γ2 => whL c b n Γ2
      | .bk Γ2 => .nx Γ2
      | .rt d Γ2 => .rt d Γ2
      | .ex c fs Γ2 => .ex c fs Γ2
      | .no => .no) else .nx Γ1
def sWhile (n : Nat) (c : Env → Ou Bool) (b : Env → So) : Env → So := whL c b n
theorem es_while {n : Nat} (hc : EfB G Θ E tt c) (hb : Es G Θ E pn t ta f) : Es G Θ E pn t (tWhile tt ta) (sWhile n c f) := fun B F H σ Γ fps Dn hp e q => by
  refine ⟨fun m σ' H' => ∃ Γ2 F2 fps2, EnvR G Θ B F2 H' σ' Γ2 fps2 ∧ Same F F2 ∧ SQ G Θ B E F2 t Dn (whL c f m Γ2), ⟨n, Γ, F, fps, e, .refl _, q⟩, ?_⟩
  rintro m σ' H' ⟨Γ2, F2, fps2, e2, s2, q2⟩
  cases m with
  | zero => exact q2.elim
  | succ m =>
    refine hc B F2 H' σ' Γ2 fps2 e2 _ (q2.exp fun k Γ3 b F3 H3 fps3 fp3 e3 s3 r n3 m3 q3 => ?_)
    obtain ⟨rfl, rfl⟩ := r
    cases b with
    | false => exact q3 F3 H3 σ' fps3 e3 (.refl _)
    | true =>
      refine ⟨fun σ'' H'' => ∃ m', m' < m + 1 ∧ ∃ Γ2 F2 fps2, EnvR G Θ B F2 H'' σ'' Γ2 fps2 ∧ Same F F2 ∧ SQ G Θ B E F2 t Dn (whL c f m' Γ2), fun σ'' H'' z => z, ?_⟩
      refine hb B F3 H3 σ' Γ3 fps3 _ hp e3 ?_
      have q4 : SQ G Θ B E F3 t Dn (match f Γ3 with
      | .nx Γ2 => whL c f m Γ2
      | .ct Γ2 => whL c f m Γ2
      | .bk Γ2 => .nx Γ2
      | .rt d Γ2 => .rt d Γ2
      | .ex c fs Γ2 => .ex c fs Γ2
      | .no => .no) := q3
      have s23 := s2.trans s3
      cases hf : f Γ3 with
      | nx Γ5 => rw [hf] at q4; exact fun F5 H5 σ5 fps5 e5 s5 => ⟨m, Nat.lt_succ_self _, Γ5, F5, fps5, e5, s23.trans s5, SQ.grow s5 q4⟩
      | ct Γ5 => rw [hf] at q4; exact fun F5 H5 σ5 fps5 e5 s5 => ⟨m, Nat.lt_succ_self _, Γ5, F5, fps5, e5, s23.trans s5, SQ.grow s5 q4⟩
      | bk Γ5 => rw [hf] at q4; exact q4
      | rt d Γ5 => rw [hf] at q4; exact q4
      | ex c fs Γ5 => rw [hf] at q4; exact q4
      | no => rw [hf] at q4; exact q4
end
end Y

namespace Y
open PySem PySem.Spec PyProof.Rows L2 Z

/-! ## promises of defs -/
inductive ArgsR (G : KC) (W F H : Hp) : List Md → List V → List D → List (List Addr) → Prop
  | nil : ArgsR G W F H [] [] [] []
  | cons {m : Md} {ms : List Md} {v : V} {vs : List V} {d : D} {ds : List D} {fp : List Addr} {fps : List (List Addr)} : SlotR G W F H m (some (some v)) (some d) fp → ArgsR G W F H ms vs ds fps → ArgsR G W F H (m :: ms) (v :: vs) (d :: ds) (fp :: fps)
/-- what the own parameters are behind -/
inductive OutsR (G : KC) (F H : Hp) : List Md → List V → Env → List (List Addr) → Prop
  | nil : OutsR G F H [] [] [] []
  | own {t : T} {ms : List Md} {v : V} {vs : List V} {d : D} {Γ : Env} {fp : List Addr} {fps : List (List Addr)} : Own G F H t v d fp → OutsR G F H ms vs Γ fps → OutsR G F H (.own t :: ms) (v :: vs) (some d :: Γ) (fp :: fps)
  | bor {t : T} {ms : List Md} {v : V} {vs : List V} {Γ : Env} {fps : List (List Addr)} : OutsR G F H ms vs Γ fps → OutsR G F H (.bor t :: ms) (v :: vs) (none :: Γ) ([] :: fps)
  | scr {ms : List Md} {v : V} {vs : List V} {Γ : Env} {fps : List (List Addr)} : OutsR G F H ms vs Γ fps → OutsR G F H (.scr :: ms) (v :: vs) (none :: Γ) ([] :: fps)
/-- a call's doing: M what it may change -/
structure Post (F H F' H' : Hp) (M : List Addr) : Prop where
  f : Same F F'
  s : Same F' H'
  n : ∀ a o, F' a = some o → F a = some o ∨ H a = none ∨ a ∈ M
  k : ∀ a o, H a = some o → a ∉ M → H' a = some o
  t : ∀ a, H' a = none → H a = none
def FQ (G : KC) (ms : List Md) (rt : T) (E : XK) (F H : Hp) (vs : List V) (M : List Addr) (Q : VK) : Ou D → Prop
  | .ok r Γ => ∀ v F' H' fpr fps, Post F H F' H' M → Own G F' H' rt v r fpr → OutsR G F' H' ms vs Γ fps → (fpr ++ fps.flatten).Nodup → (∀ a ∈ fpr ++ fps.flatten, F' a = none ∧ (a ∈ M ∨ H a = none)) → Q v H'
  | .ex c fs Γ => ∀ dd F' H' fps, Post F H F' H' M → XR G F' H' dd fs → OutsR G F' H' ms vs Γ fps → fps.flatten.Nodup → (∀ a ∈ fps.flatten, F' a = none ∧ (a ∈ M ∨ H a = none)) → E (.ref (G.cl c)) dd H'
  | .no => False
def spF (G : KC) (ms : List Md) (rt : T) (f : List D → Ou D) : Sp := fun vs H Q E => ∃ F W ds fps, ArgsR G W F H ms vs ds fps ∧ fps.flatten.Nodup ∧ (∀ a ∈ fps.flatten, F a = none ∧ W a = none) ∧ Same F H ∧ Same W H ∧
  (∀ a n, G.tg a = some n → ∃ u, H a = some u) ∧ FQ G ms rt E F H vs fps.flatten Q (f ds)
def keepE : List Md → Env → Env
  | .own _ :: ms, o :: Γ => o :: keepE ms Γ
  | _ :: ms, _ :: Γ => none :: keepE ms Γ
  | _, _ => []
def fullE : List Md → Env → Bool
  | .own _ :: ms, some _ :: Γ => fullE ms Γ
  | .own _ :: _, _ => false
  | _ :: ms, _ :: Γ => fullE ms Γ
  | _, _ => true
/-- the def's answer by its body's -/
def fnO (ms : List Md) (x : So) : Ou D := match x with
  | .rt d Γ => if fullE ms Γ = true then .ok d (keepE ms Γ) else .no
  | .nx Γ => if fullE ms Γ = true then .ok .non (keepE ms Γ) else .no
  | .ex c fs Γ => if fullE ms Γ = true then .ex c fs (keepE ms Γ) else .no
  | _ => .no
def envE (n : Nat) (ds : List D) : Env := ds.map some ++ List.replicate (n - ds.length) none
def Ou.rs {α : Type} (x : Ou α) : Rs α := match x with
  | .ok a _ => .ok a
  | .ex c fs _ => .ex c fs
  | .no => .no
@[simp] theorem Ou.rs_ok {α : Type} (a : α) (Γ : Env) : (Ou.ok a Γ).rs = .ok a := rfl
@[simp] theorem Ou.rs_ex {α : Type} (c : Nat) (fs : List (Str × D)) (Γ : Env) : (Ou.ex c fs Γ : Ou α).rs = .ex c fs := rfl
@[simp] theorem Ou.rs_no {α : Type} : (Ou.no : Ou α).rs = .no := rfl
/-- arguments of a call that changes nothing -/
inductive RLm (G : KC) (F U : Hp) : List Md → List V → List D → Prop
  | nil : RLm G F U [] [] []
  | cons {m : Md} {ms : List Md} {v : V} {vs : List V} {d : D} {ds : List D} : RM G F U m v d → RLm G F U ms vs ds → RLm G F U (m :: ms) (v :: vs) (d :: ds)
def rAm (G : KC) (O : Addr → Prop) (ms : List Md) : Rel (List V) (List D) := ⟨fun _ U _ v d => RLm G (Fz O U) U ms v d, fun _ h => h⟩
abbrev EvM (G : KC) (Θ : List Md) (E : EK) (ms : List Md) (te : TA) (f : Env → Rs (List D)) : Prop := Ev G Θ E (rAm G · ms) te f
/-- no own ones among them -/
def noOwn : List Md → Bool
  | [] => true
  | .own _ :: _ => false
  | _ :: ms => noOwn ms
section
variable {G : KC} {Θ : List Md} {E : EK} {te ta : TE} {tr : TA} {t rt : T} {ms : List Md} {pf : Env → Rs D} {pfs : Env → Rs (List D)} {O : Addr → Prop} {U H F W F' H' : Hp} {vs dvs : List V} {ds dds : List D} {fps : List (List Addr)} {sf : List D → Ou D} {v : V} {d : D} {m : Md} {i : Nat}
theorem RM.mono' {F F' U U' : Hp} (e : Same F F') (g : Same U U') : ∀ {ms : List Md} {vs : List V} {ds : List D}, RLm G F U ms vs ds → RLm G F' U' ms vs ds
  | _, _, _, .nil => .nil
  | _, _, _, .cons h r => .cons (h.mono e g) (RM.mono' e g r)
theorem em_nil : EvM G Θ E [] tNil pNil := fun O U H σ Γ a Q q => q.fin a.g.s .nil
theorem em_cons (ha : EvV G Θ E t ta pf) (hr : EvM G Θ E ms tr pfs) : EvM G Θ E (.bor t :: ms) (tCons ta tr) (pCons pf pfs) := fun O U H σ Γ a Q q =>
  ha O U H σ Γ a _ (q.bind fun x v U1 H1 g1 r1 q => hr O U1 H1 σ Γ (a.grow g1) _ (q.bind fun y w U2 H2 g2 r2 q => q.fin ((a.grow g1).grow g2).g.s (.cons (RT.mono (fz_mono g2.f) g2.f r1) r2)))
theorem em_scr (hm : Θ[i]? = some .scr) (hr : EvM G Θ E ms tr pfs) : EvM G Θ E (.scr :: ms) (tCons (tVar i) tr) (pCons (pVar i) pfs) := fun O U H σ Γ a Q q => by
  have q' : PQ G O (E σ) U H (rAm G O (.scr :: ms)) Q ((pVar i Γ).bind fun x => (pfs Γ).bind fun xs => .ok (x :: xs)) := q
  obtain ⟨d, hd, q2⟩ := pVar_some (P := fun z => PQ G O (E σ) U H (rAm G O (.scr :: ms)) Q (z.bind fun x => (pfs Γ).bind fun xs => .ok (x :: xs))) q' (fun z => z)
  obtain ⟨v, e, r⟩ := a.sl i _ d hm hd
  rw [Rs.bind_ok] at q2
  exact ⟨v, e, hr O U H σ Γ a _ (q2.bind fun y w U2 H2 g2 r2 q => q.fin (a.grow g2).g.s (.cons (r.mono (fz_mono g2.f) g2.f) r2))⟩
theorem RLm.args (hn : noOwn ms = true) (h : RLm G F U ms vs ds) : ArgsR G U F H ms vs ds (ms.map fun _ => []) := by
  induction h with
  | nil => exact .nil
  | @cons m ms v vs d ds h r ih =>
    cases m with
    | scr =>
      obtain ⟨a, ns, h1, h2, h3⟩ := h
      exact .cons ⟨rfl, a, ns, by rw [h1], h2, h3⟩ (ih hn)
    | bor t => exact .cons ⟨rfl, v, rfl, h⟩ (ih hn)
    | own t => cases hn
theorem flat_nil : ∀ (ms : List Md), (ms.map fun _ => ([] : List Addr)).flatten = []
  | [] => rfl
  | _ :: ms => flat_nil ms
/-- an outcome without a state -/
theorem FQ.pure (hn : noOwn ms = true) {E : XK} {Q : VK} (rg : Reg G O U H) (q : PQ G O E U H (rN G O rt) Q (sf ds).rs) : FQ G ms rt E (Fz O U) H vs [] Q (sf ds) := by
  cases z : sf ds with
  | no => rw [z] at q; exact q.elim
  | ok r Γ =>
    rw [z] at q
    intro v F' H' fpr fps p ow outs nd k
    have key : ∀ a ∈ fpr, H a = none ∧ F' a = none := fun a ha => by
      obtain ⟨h1, h2⟩ := k a (List.mem_append_left _ ha)
      exact ⟨h2.elim (fun z => absurd z List.not_mem_nil) id, h1⟩
    have hh : Same H H' := fun a o h => p.k a o h List.not_mem_nil
    have sU : Same U (uniW U F') := uniW_l
    have fF : Same F' (Fz O (uniW U F')) := fun a o h => by
      rcases p.n a o h with z | z | z
      · refine fz_of (fz_in z).1 ?_
        have := p.f a o z
        rw [h] at this
        cases this
        exact uniW_l a o (fz_in z).2
      · refine fz_of (rg.no z) ?_
        unfold uniW
        rw [rg.s.free z]
        exact h
      · exact absurd z List.not_mem_nil
    refine q v (uniW U F') H' ⟨sU, hh, ?_, fun a o h => ?_⟩ ⟨fpr, ow.mono fF fun _ _ _ z => z, (List.nodup_append.mp nd).1, fun a ha => ⟨(key a ha).1, ?_⟩⟩
    · intro a o h
      unfold uniW at h
      cases y : U a with
      | some u => rw [y] at h; cases h; exact hh a _ (rg.s a _ y)
      | none => rw [y] at h; exact p.s a o h
    · unfold uniW at h
      cases y : U a with
      | some u => rw [y] at h; cases h; exact Or.inl rfl
      | none =>
        rw [y] at h
        rcases p.n a o h with z | z | z
        · rw [(fz_in z).2] at y; cases y
        · exact Or.inr z
        · exact absurd z List.not_mem_nil
    · unfold uniW
      rw [rg.s.free (key a ha).1]
      exact (key a ha).2
  | ex c fs Γ =>
    rw [z] at q
    intro dd F' H' fps p xr outs nd k
    have hh : Same H H' := fun a o h => p.k a o h List.not_mem_nil
    have fF : Same F' (Fz O (uniW U F')) := fun a o h => by
      rcases p.n a o h with z | z | z
      · refine fz_of (fz_in z).1 ?_
        have := p.f a o z
        rw [h] at this
        cases this
        exact uniW_l a o (fz_in z).2
      · refine fz_of (rg.no z) ?_
        unfold uniW
        rw [rg.s.free z]
        exact h
      · exact absurd z List.not_mem_nil
    obtain ⟨d, vs, h1, h2, h3⟩ := xr
    refine q dd (uniW U F') H' ⟨uniW_l, hh, ?_, fun a o h => ?_⟩ ⟨d, vs, h1, h2, h3.mono fF⟩
    · intro a o h
      unfold uniW at h
      cases y : U a with
      | some u => rw [y] at h; cases h; exact hh a _ (rg.s a _ y)
      | none => rw [y] at h; exact p.s a o h
    · unfold uniW at h
      cases y : U a with
      | some u => rw [y] at h; cases h; exact Or.inl rfl
      | none =>
        rw [y] at h
        rcases p.n a o h with z | z | z
        · rw [(fz_in z).2] at y; cases y
        · exact Or.inr z
        · exact absurd z List.not_mem_nil
theorem RLm.append {F U : Hp} {ms ns : List Md} {vs ws : List V} {ds es : List D} (h : RLm G F U ms vs ds) (g : RLm G F U ns ws es) : RLm G F U (ms ++ ns) (vs ++ ws) (ds ++ es) := by
  induction h with
  | nil => exact g
  | cons h r ih => exact .cons h ih
/-- defaults -/
structure DvR (G : KC) (dms : List Md) (dvs : List V) (dds : List D) : Prop where
  r : ∀ F U, RLm G F U dms dvs dds
theorem dv_nil : DvR G [] [] [] := ⟨fun _ _ => .nil⟩
theorem dv_int {i : Int} {dms : List Md} {dvs : List V} {dds : List D} (h : DvR G dms dvs dds) : DvR G (.bor .fz :: dms) (.int i :: dvs) (.int i :: dds) := ⟨fun F U => .cons (.fr (.int i)) (h.r F U)⟩
theorem call_pure (hn : noOwn ms = true) {E : XK} {Q : VK} (rg : Reg G O U H) (r : RLm G (Fz O U) U ms vs ds) (q : PQ G O E U H (rN G O rt) Q (sf ds).rs) : spF G ms rt sf vs H Q E :=
  ⟨Fz O U, U, ds, _, r.args hn, by rw [flat_nil]; exact List.nodup_nil, by rw [flat_nil]; exact fun a z => absurd z List.not_mem_nil, fz_le.trans rg.s, rg.s, rg.t, by rw [flat_nil]; exact FQ.pure hn rg q⟩
def pCall (dds : List D) (sf : List D → Ou D) (fs : Env → Rs (List D)) : Env → Rs D := fun Γ => (fs Γ).bind fun ds => (sf (ds ++ dds)).rs
/-- f(..), a def that changes nothing; the answer is new, or frozen -/
theorem en_cl {dms : List Md} (ha : EvM G Θ E ms tr pfs) (hd : DvR G dms dvs dds) (hn : noOwn (ms ++ dms) = true) : EvN G Θ E rt (tCl (spF G (ms ++ dms) rt sf) dvs E tr) (pCall dds sf pfs) := fun O U H σ Γ a Q q =>
  ha O U H σ Γ a _ (q.bind fun ds vs U1 H1 g1 r1 q => call_pure hn (a.grow g1).g (r1.append (hd.r _ _)) q)
theorem rsN {O : Addr → Prop} {U H : Hp} {E : XK} {Q : VK} {z : Rs D} (q : PQ G O E U H (rV G O .fz) Q z) : PQ G O E U H (rN G O .fz) Q z := by
  cases z with
  | ok d => exact fun v U' H' g ⟨fp, ow, _, _⟩ => q v U' H' g (.fr ow.fz_r.2)
  | ex c fs => exact q
  | no => exact q
/-- o.m(..) -/
def clsIs (c : Nat) (m : Str) : D → Rs Unit
  | .obj k fs => if k = c ∧ fs.lookup m = none then .ok () else .no
  | _ => .no
def pMeth (c : Nat) (m : Str) (sf : List D → Ou D) (fo : Env → Rs D) (fs : Env → Rs (List D)) : Env → Rs D := fun Γ => (fo Γ).bind fun x => (clsIs c m x).bind fun _ => (fs Γ).bind fun ds => (sf (x :: ds)).rs
theorem RS.lookup {F : Hp} {m : Str} : ∀ {vs : List (Str × V)} {ds : List (Str × D)}, RS G F vs ds → (ds.lookup m = none → vs.lookup m = none) ∧ ∀ d, ds.lookup m = some d → ∃ v, vs.lookup m = some v ∧ R G F v d
  | _, _, .nil => ⟨fun _ => rfl, fun d h => by cases h⟩
  | _, _, .cons (k := k) (vs := vs) (ds := ds) h r => by
    obtain ⟨h1, h2⟩ := RS.lookup (m := m) r
    by_cases e : m = k
    · subst e
      refine ⟨fun z => ?_, fun d z => ?_⟩
      · simp [List.lookup] at z
      · simp only [List.lookup, beq_self_eq_true, Option.some.injEq] at z
        subst z
        exact ⟨_, by simp [List.lookup], h⟩
    · have e' : (m == k) = false := by simpa using e
      simp only [List.lookup, e']
      exact ⟨h1, h2⟩
theorem clsIs_ok {β δ : Type} {O : Addr → Prop} {Ex : XK} {U H : Hp} {rel : Rel δ β} {Q : δ → Hp → Prop} {x : D} {c : Nat} {mn : Str} {k : Unit → Rs β} (q : PQ G O Ex U H rel Q ((clsIs c mn x).bind k)) : ∃ fs, x = .obj c fs ∧ fs.lookup mn = none ∧ PQ G O Ex U H rel Q (k ()) := by
  cases x with
  | obj k' fs =>
    by_cases e : k' = c ∧ fs.lookup mn = none
    · obtain ⟨rfl, e2⟩ := e
      refine ⟨fs, rfl, e2, ?_⟩
      have : clsIs k' mn (.obj k' fs) = .ok () := by unfold clsIs; dsimp only; rw [if_pos ⟨rfl, e2⟩]
      rw [this] at q
      exact q
    · have : clsIs c mn (.obj k' fs) = .no := by unfold clsIs; dsimp only; rw [if_neg e]
      rw [this] at q
      exact q.elim
  | _ => exact q.elim
theorem obj_of {F U : Hp} {t : T} {v : V} {c : Nat} {fs : List (Str × D)} (s : Same F U) (h : RT G F U t v (.obj c fs)) : ∃ a dx vs, v = .ref a ∧ U a = some (.ins (G.cl c) dx vs) ∧ RS G U vs fs := by
  have r := h.r s
  cases r with
  | obj h z r => exact ⟨_, _, _, rfl, h, r⟩
theorem en_mt {c : Nat} {mn : Str} {to : TE} {fo : Env → Rs D} (ho : EvV G Θ E t to fo) (ha : EvM G Θ E ms tr pfs) (hn : noOwn ms = true) : EvN G Θ E rt (tMt (G.cl c) mn (spF G (.bor t :: ms) rt sf) [] E to tr) (pMeth c mn sf fo pfs) := fun O U H σ Γ a Q q =>
  ho O U H σ Γ a _ (q.bind fun x v U1 H1 g1 r1 q => by
    obtain ⟨fs, rfl, hl, q⟩ := clsIs_ok q
    obtain ⟨b, dx, vs, rfl, hb, rs⟩ := obj_of fz_le r1
    refine ⟨b, dx, vs, rfl, (a.grow g1).g.s _ _ hb, (RS.lookup rs).1 hl, ?_⟩
    exact ha O U1 H1 σ Γ (a.grow g1) _ (q.bind fun ds vs U2 H2 g2 r2 q => call_pure (ms := .bor t :: ms) hn ((a.grow g1).grow g2).g (.cons (RT.mono (fz_mono g2.f) g2.f r1) (by rw [List.append_nil]; exact r2)) q))
end
/-! ## a def's body -/
section
variable {G : KC} {t rt : T} {ms : List Md} {F W H F' H' : Hp} {N : List Str} {vs : List V} {ds : List D} {fps : List (List Addr)} {sf : List D → Ou D} {ts : TS} {b : Env → So} {Q : VK} {E : XK}
theorem start_get {N : List Str} {vs : List V} {i : Nat} {v : V} (h : vs[i]? = some v) : (start N vs)[i]? = some (some v) := by
  have hl : i < vs.length := (List.getElem?_eq_some_iff.mp h).1
  unfold L2.start
  rw [List.getElem?_append_left (by rw [List.length_map]; exact hl), List.getElem?_map, h]
  rfl
theorem start_len {N : List Str} {vs : List V} (h : vs.length ≤ N.length) : (start N vs).length = N.length := by
  unfold L2.start
  rw [List.length_append, List.length_map, List.length_replicate]
  omega
theorem ArgsR.len (h : ArgsR G W F H ms vs ds fps) : vs.length = ms.length ∧ ds.length = ms.length ∧ fps.length = ms.length := by
  induction h with
  | nil => exact ⟨rfl, rfl, rfl⟩
  | cons _ _ ih => exact ⟨congrArg Nat.succ ih.1, congrArg Nat.succ ih.2.1, congrArg Nat.succ ih.2.2⟩
theorem ArgsR.get (h : ArgsR G W F H ms vs ds fps) : ∀ {i : Nat} {m : Md}, ms[i]? = some m → ∃ v d fp, vs[i]? = some v ∧ ds[i]? = some d ∧ fps[i]? = some fp ∧ SlotR G W F H m (some (some v)) (some d) fp := by
  induction h with
  | nil => intro i m h; simp at h
  | cons h r ih =>
    intro i m' hm
    cases i with
    | zero => simp at hm; subst hm; exact ⟨_, _, _, rfl, rfl, rfl, h⟩
    | succ i => simp at hm; simpa using ih hm
theorem ArgsR.at (h : ArgsR G W F H ms vs ds fps) : ∀ a ∈ fps.flatten, ∃ o, H a = some o := by
  induction h with
  | nil => intro a z; simp at z
  | @cons m ms v vs d ds fp fps h r ih =>
    intro a z
    rw [List.flatten_cons] at z
    rcases List.mem_append.mp z with z | z
    · cases m with
      | scr => rw [h.1] at z; exact absurd z List.not_mem_nil
      | bor t => rw [h.1] at z; exact absurd z List.not_mem_nil
      | own t => obtain ⟨u, _, ow⟩ := h; exact ow.at a z
    · exact ih a z
/-- the own parameters stay where they are -/
def pinsOf (ms : List Md) (vs : List V) : List (Nat × V) := (ms.zip vs).zipIdx.filterMap fun p => match p.1.1 with
  | .own _ => some (p.2, p.1.2)
  | _ => none
def pnOf (ms : List Md) : List Nat := ms.zipIdx.filterMap fun p => match p.1 with
  | .own _ => some p.2
  | _ => none
theorem pins_mem {q : Nat × V} : q ∈ pinsOf ms vs ↔ ∃ t, ms[q.1]? = some (.own t) ∧ vs[q.1]? = some q.2 := by
  unfold pinsOf
  rw [List.mem_filterMap]
  constructor
  · rintro ⟨⟨⟨m, v⟩, i⟩, hm, e⟩
    have hz := List.mem_zipIdx_iff_getElem?.mp hm
    have hz' := List.getElem?_zip_eq_some.mp hz
    cases m with
    | own t => cases e; exact ⟨t, hz'.1, hz'.2⟩
    | scr => cases e
    | bor t => cases e
  · rintro ⟨t, h1, h2⟩
    exact ⟨((.own t, q.2), q.1), List.mem_zipIdx_iff_getElem?.mpr (List.getElem?_zip_eq_some.mpr ⟨h1, h2⟩), rfl⟩
theorem pn_mem {i : Nat} : i ∈ pnOf ms ↔ ∃ t, ms[i]? = some (.own t) := by
  unfold pnOf
  rw [List.mem_filterMap]
  constructor
  · rintro ⟨⟨m, j⟩, hm, e⟩
    have hz := List.mem_zipIdx_iff_getElem?.mp hm
    cases m with
    | own t => cases e; exact ⟨t, hz⟩
    | scr => cases e
    | bor t => cases e
  · rintro ⟨t, h1⟩
    exact ⟨(.own t, i), List.mem_zipIdx_iff_getElem?.mpr h1, rfl⟩
theorem flat_app_nil (l : List (List Addr)) (n : Nat) : (l ++ List.replicate n []).flatten = l.flatten := by
  rw [List.flatten_append]
  have : (List.replicate n ([] : List Addr)).flatten = [] := by
    induction n with
    | zero => rfl
    | succ n ih => rw [List.replicate_succ, List.flatten_cons, ih]; rfl
  rw [this, List.append_nil]
/-- the state at the entry -/
theorem env_start {Θ : List Md} (hΘ : Θ.take ms.length = ms) (hl : Θ.length = N.length) (ar : ArgsR G W F H ms vs ds fps) (n : fps.flatten.Nodup) (k : ∀ a ∈ fps.flatten, F a = none ∧ W a = none) (hF : Same F H) (hW : Same W H) (tg : ∀ a n, G.tg a = some n → ∃ u, H a = some u) :
    EnvR G Θ ⟨H, F, fps.flatten, pinsOf ms vs, W⟩ F H (start N vs) (envE N.length ds) (fps ++ List.replicate (N.length - ms.length) []) := by
  obtain ⟨l1, l2, l3⟩ := ar.len
  have lm : ms.length ≤ N.length := by rw [← hl, ← hΘ, List.length_take]; omega
  have pre : ∀ {i : Nat} {m : Md}, i < ms.length → Θ[i]? = some m → ms[i]? = some m := fun {i m} hi h => by
    rw [← hΘ, List.getElem?_take]
    simp [hi, h]
  have lE : (envE N.length ds).length = N.length := by unfold envE; rw [List.length_append, List.length_map, List.length_replicate]; omega
  refine ⟨by rw [start_len (by omega), lE], by rw [List.length_append, List.length_replicate, lE]; omega, by rw [hl, lE], fun i m o fp h1 h2 h3 => ?_, by rw [flat_app_nil]; exact n, by rw [flat_app_nil]; exact fun a ha => (k a ha).1, by rw [flat_app_nil]; exact fun a ha => Or.inl ha, fun q hq => ?_, hF, .refl _, fun _ _ h _ => h, fun _ h => h, fun _ _ h => Or.inl h, hW, fun a ha => (k a ha).2, tg, fun q hq => ?_⟩
  · by_cases hi : i < ms.length
    · have hm := pre hi h1
      obtain ⟨v, d, fp', e1, e2, e3, s⟩ := ar.get hm
      unfold envE at h2
      rw [List.getElem?_append_left (by rw [List.length_map]; omega), List.getElem?_map, e2] at h2
      rw [List.getElem?_append_left (by omega), e3] at h3
      cases h2
      cases h3
      rw [start_get e1]
      exact s
    · unfold envE at h2
      rw [List.getElem?_append_right (by rw [List.length_map]; omega), List.getElem?_replicate] at h2
      rw [List.getElem?_append_right (by omega), List.getElem?_replicate] at h3
      split at h2
      · split at h3
        · cases h2; cases h3; cases m <;> rfl
        · cases h3
      · cases h2
  · obtain ⟨t, h1, h2⟩ := pins_mem.mp hq
    exact start_get h2
  · obtain ⟨t, h1, h2⟩ := pins_mem.mp hq
    refine ⟨t, ?_⟩
    rw [← hΘ, List.getElem?_take] at h1
    split at h1
    · exact h1
    · cases h1
theorem outs_of : ∀ {ms : List Md} {vs : List V} {Γ : Env} {fps : List (List Addr)} {σ : L2.St}, fullE ms Γ = true → ms.length ≤ Γ.length → fps.length = Γ.length → vs.length = ms.length →
    (∀ (i : Nat) (t : T) (v : V), ms[i]? = some (.own t) → vs[i]? = some v → σ[i]? = some (some v)) →
    (∀ (i : Nat) (m : Md) (o : Option D) (fp : List Addr), ms[i]? = some m → Γ[i]? = some o → fps[i]? = some fp → SlotR G W F H m σ[i]? o fp) → OutsR G F H ms vs (keepE ms Γ) (fps.take ms.length) ∧ ((fps.take ms.length).flatten.Nodup → True)
  | [], vs, Γ, fps, σ, _, _, _, hv, _, _ => by
    cases vs with
    | nil => exact ⟨by unfold keepE; rw [List.length_nil, List.take_zero]; exact .nil, fun _ => trivial⟩
    | cons _ _ => cases hv
  | m :: ms, [], _, _, _, _, _, _, hv, _, _ => nomatch hv
  | m :: ms, v :: vs, [], fps, σ, _, hl, _, _, _, _ => nomatch hl
  | m :: ms, v :: vs, o :: Γ, [], σ, _, _, hf, _, _, _ => nomatch hf
  | m :: ms, v :: vs, o :: Γ, fp :: fps, σ, hfull, hl, hf, hv, hσ, hs => by
    have ih := outs_of (ms := ms) (vs := vs) (Γ := Γ) (fps := fps) (σ := σ.tail) (by cases m <;> cases o <;> first | exact hfull | cases hfull) (Nat.le_of_succ_le_succ hl) (Nat.succ.inj hf) (Nat.succ.inj hv)
      (fun i t v h1 h2 => by rw [List.getElem?_tail]; exact hσ (i + 1) t v (by simpa using h1) (by simpa using h2)) (fun i m o fp h1 h2 h3 => by rw [List.getElem?_tail]; exact hs (i + 1) m o fp (by simpa using h1) (by simpa using h2) (by simpa using h3))
    have s0 := hs 0 m o fp rfl rfl rfl
    refine ⟨?_, fun _ => trivial⟩
    rw [List.length_cons, List.take_succ_cons]
    cases m with
    | own t =>
      cases o with
      | none => cases hfull
      | some d =>
        obtain ⟨u, e, ow⟩ := s0
        have e2 := hσ 0 t v rfl rfl
        rw [e2] at e
        cases e
        exact .own ow ih.1
    | bor t =>
      have z : fp = [] := by cases o with | none => exact s0 | some d => exact s0.1
      subst z
      exact .bor ih.1
    | scr =>
      have z : fp = [] := by cases o with | none => exact s0 | some d => exact s0.1
      subst z
      exact .scr ih.1
theorem take_sub {l : List (List Addr)} {n : Nat} {a : Addr} (h : a ∈ (l.take n).flatten) : a ∈ l.flatten := by
  obtain ⟨q, hq, ha⟩ := List.mem_flatten.mp h
  exact List.mem_flatten.mpr ⟨q, List.mem_of_mem_take hq, ha⟩
theorem take_nodup {l : List (List Addr)} {n : Nat} {fp : List Addr} (h : (fp ++ l.flatten).Nodup) : (fp ++ (l.take n).flatten).Nodup := by
  have e : l.flatten = (l.take n).flatten ++ (l.drop n).flatten := by rw [← List.flatten_append, List.take_append_drop]
  rw [e, ← List.append_assoc] at h
  exact (List.nodup_append.mp h).1
/-- from a def's promise to its body -/
theorem fin_F {Θ : List Md} (h : spF G ms rt sf vs H Q E) (hΘ : Θ.take ms.length = ms) (hl : Θ.length = N.length) (hsf : ∀ ds, ds.length = ms.length → sf ds = fnO ms (b (envE N.length ds))) (hno : ∀ {F H : Hp}, Own G F H rt .non .non []) {pn : List Nat} (hpn : pnOf ms = pn) (hb : Es G Θ (fun _ => E) pn rt ts b) :
    ts { nx := fun _ H' => Q .non H', rt := Q } (start N vs) H := by
  obtain ⟨F, W, ds, fps, ar, n, k, hF, hW, tg, q⟩ := h
  obtain ⟨l1, l2, l3⟩ := ar.len
  have lm : ms.length ≤ N.length := by rw [← hl, ← hΘ, List.length_take]; omega
  rw [hsf ds l2] at q
  have e0 := env_start hΘ hl ar n k hF hW tg
  have pre : ∀ {i : Nat} {m : Md}, ms[i]? = some m → Θ[i]? = some m := fun {i m} h => by
    rw [← hΘ, List.getElem?_take] at h
    split at h
    · exact h
    · cases h
  subst hpn
  refine hb _ F H _ _ _ _ (fun q hq => pn_mem.mpr (let ⟨t, h1, _⟩ := pins_mem.mp hq; ⟨t, h1⟩)) e0 ?_
  -- what stands at the end
  have post : ∀ {F' H' : Hp} {σ' : L2.St} {Γ' : Env} {fps' : List (List Addr)}, EnvR G Θ ⟨H, F, fps.flatten, pinsOf ms vs, W⟩ F' H' σ' Γ' fps' → Post F H F' H' fps.flatten := fun e => ⟨e.f0, e.fr, e.new, e.keep, e.there⟩
  have lΓ : ∀ {F' H' : Hp} {σ' : L2.St} {Γ' : Env} {fps' : List (List Addr)}, EnvR G Θ ⟨H, F, fps.flatten, pinsOf ms vs, W⟩ F' H' σ' Γ' fps' → ms.length ≤ Γ'.length := fun e => by rw [← e.lt, hl]; exact lm
  have outs : ∀ {F' H' : Hp} {σ' : L2.St} {Γ' : Env} {fps' : List (List Addr)}, EnvR G Θ ⟨H, F, fps.flatten, pinsOf ms vs, W⟩ F' H' σ' Γ' fps' → fullE ms Γ' = true → OutsR G F' H' ms vs (keepE ms Γ') (fps'.take ms.length) := fun {F' H' σ' Γ' fps'} e hf =>
    (outs_of (σ := σ') hf (lΓ e) e.lf l1 (fun i t v h1 h2 => e.pin (i, v) (pins_mem.mpr ⟨t, h1, h2⟩)) (fun i m o fp h1 h2 h3 => e.slot i m o fp (pre h1) h2 h3)).1
  have own' : ∀ {F' H' : Hp} {σ' : L2.St} {Γ' : Env} {fps' : List (List Addr)}, EnvR G Θ ⟨H, F, fps.flatten, pinsOf ms vs, W⟩ F' H' σ' Γ' fps' → ∀ a ∈ (fps'.take ms.length).flatten, F' a = none ∧ (a ∈ fps.flatten ∨ H a = none) := fun e a ha => ⟨e.out a (take_sub ha), e.mine a (take_sub ha)⟩
  generalize b (envE N.length ds) = z at q
  cases z with
  | nx Γ =>
    intro F' H' σ' fps' e s
    have q' : FQ G ms rt E F H vs fps.flatten Q (if fullE ms Γ = true then .ok .non (keepE ms Γ) else .no) := q
    by_cases hf : fullE ms Γ = true
    · rw [if_pos hf] at q'
      exact q' .non F' H' [] _ (post e) hno (outs e hf) (take_nodup (fp := []) (by simpa using e.nd)) (by simpa using own' e)
    · rw [if_neg hf] at q'; exact q'.elim
  | rt d Γ =>
    intro v F' H' σ' fps' fp e s ow nn kk
    have q' : FQ G ms rt E F H vs fps.flatten Q (if fullE ms Γ = true then .ok d (keepE ms Γ) else .no) := q
    by_cases hf : fullE ms Γ = true
    · rw [if_pos hf] at q'
      exact q' v F' H' fp _ (post e) ow (outs e hf) (take_nodup nn) fun a ha => (List.mem_append.mp ha).elim (kk a) (own' e a)
    · rw [if_neg hf] at q'; exact q'.elim
  | ex c fs Γ =>
    intro dd F' H' σ' fps' e s xr
    have q' : FQ G ms rt E F H vs fps.flatten Q (if fullE ms Γ = true then .ex c fs (keepE ms Γ) else .no) := q
    by_cases hf : fullE ms Γ = true
    · rw [if_pos hf] at q'
      exact q' dd F' H' _ (post e) xr (outs e hf) (by simpa using take_nodup (fp := []) (by simpa using e.nd)) (own' e)
    · rw [if_neg hf] at q'; exact q'.elim
  | bk Γ => exact q.elim
  | ct Γ => exact q.elim
  | no => exact q.elim
theorem len_F (h : spF G ms rt sf vs H Q E) : vs.length = ms.length := by
  obtain ⟨F, W, ds, fps, ar, _⟩ := h
  exact ar.len.1
end
end Y

namespace Y
open PySem PySem.Spec PyProof.Rows L2 Z

/-! ## calls that change a slot's own thing -/
inductive Ak where
  | fz | bor (i : Nat) | own (i : Nat)
inductive AkR (G : KC) (F : Hp) (σ : L2.St) : List Ak → List V → List D → Prop
  | nil : AkR G F σ [] [] []
  | fz {aks : List Ak} {v : V} {vs : List V} {d : D} {ds : List D} : R G F v d → AkR G F σ aks vs ds → AkR G F σ (.fz :: aks) (v :: vs) (d :: ds)
  | bor {i : Nat} {aks : List Ak} {v : V} {vs : List V} {ds : List D} : σ[i]? = some (some v) → AkR G F σ aks vs ds → AkR G F σ (.bor i :: aks) (v :: vs) (.non :: ds)
  | own {i : Nat} {aks : List Ak} {v : V} {vs : List V} {ds : List D} : σ[i]? = some (some v) → AkR G F σ aks vs ds → AkR G F σ (.own i :: aks) (v :: vs) (.non :: ds)
theorem AkR.mono {G : KC} {F F' : Hp} {σ : L2.St} (s : Same F F') : ∀ {aks : List Ak} {vs : List V} {ds : List D}, AkR G F σ aks vs ds → AkR G F' σ aks vs ds
  | _, _, _, .nil => .nil
  | _, _, _, .fz h r => .fz (h.mono s) (AkR.mono s r)
  | _, _, _, .bor h r => .bor h (AkR.mono s r)
  | _, _, _, .own h r => .own h (AkR.mono s r)
def eX (G : KC) (σ : L2.St) (aks : List Ak) : RelE (List V) (List D) := ⟨fun F _ vs ds fp => AkR G F σ aks vs ds ∧ fp = []⟩
def EfX (G : KC) (Θ : List Md) (E : EK) (aks : List Ak) (te : TA) (f : Env → Ou (List D)) : Prop :=
  ∀ (B : Bs) (F H : Hp) (σ : L2.St) (Γ : Env) (fps : List (List Addr)), EnvR G Θ B F H σ Γ fps → ∀ Q, EQ G Θ B (E σ) F σ (eX G σ aks) Q (f Γ) → te σ H Q
def xNil : Env → Ou (List D) := fun Γ => .ok [] Γ
def xSlot (i : Nat) (fs : Env → Ou (List D)) : Env → Ou (List D) := fun Γ => match Γ[i]? with
  | some (some _) => (fs Γ).bind fun ds Γ1 => .ok (.non :: ds) Γ1
  | _ => .no
/-- the arguments behind, all told -/
def fillA : List Ak → List D → Env → Option (List D)
  | [], [], _ => some []
  | .fz :: aks, d :: ds, Γ => (fillA aks ds Γ).map (d :: ·)
  | .bor i :: aks, _ :: ds, Γ => match Γ[i]? with
    | some (some d) => (fillA aks ds Γ).map (d :: ·)
    | _ => none
  | .own i :: aks, _ :: ds, Γ => match Γ[i]? with
    | some (some d) => (fillA aks ds Γ).map (d :: ·)
    | _ => none
  | _, _, _ => none
/-- the slots behind the call -/
def putA : List Ak → Env → Env → Env
  | .own i :: aks, o :: Γ', Γ => putA aks Γ' (Γ.set i o)
  | _ :: aks, _ :: Γ', Γ => putA aks Γ' Γ
  | _, _, Γ => Γ
def eCall (aks : List Ak) (dds : List D) (sf : List D → Ou D) (fs : Env → Ou (List D)) : Env → Ou D := fun Γ => (fs Γ).bind fun ds Γ1 => match fillA aks ds Γ1 with
  | none => .no
  | some es => match sf (es ++ dds) with
    | .ok r Γ' => .ok r (putA aks Γ' Γ1)
    | .ex c fs Γ' => .ex c fs (putA aks Γ' Γ1)
    | .no => .no
/-- the slots fit the parameters; k: the one that is changed, n: how often -/
inductive AkOk (Θ : List Md) (k : Nat) : Nat → List Ak → List Md → Prop
  | nil : AkOk Θ k 0 [] []
  | fz {n : Nat} {t : T} {aks : List Ak} {ms : List Md} : AkOk Θ k n aks ms → AkOk Θ k n (.fz :: aks) (.bor t :: ms)
  | bor {n i : Nat} {t : T} {aks : List Ak} {ms : List Md} : Θ[i]? = some (.bor t) → AkOk Θ k n aks ms → AkOk Θ k n (.bor i :: aks) (.bor t :: ms)
  | bow {n i : Nat} {t : T} {aks : List Ak} {ms : List Md} : Θ[i]? = some (.own t) → i ≠ k → AkOk Θ k n aks ms → AkOk Θ k n (.bor i :: aks) (.bor t :: ms)
  | scr {n i : Nat} {aks : List Ak} {ms : List Md} : Θ[i]? = some .scr → AkOk Θ k n aks ms → AkOk Θ k n (.bor i :: aks) (.scr :: ms)
  | own {t : T} {aks : List Ak} {ms : List Md} : Θ[k]? = some (.own t) → AkOk Θ k 0 aks ms → AkOk Θ k 1 (.own k :: aks) (.own t :: ms)
section
variable {G : KC} {Θ : List Md} {E : EK} {B : Bs} {F H F' H' W : Hp} {σ : L2.St} {Γ Γ' : Env} {fps fps' : List (List Addr)} {te ta : TE} {tr : TA} {t rt : T} {ms dms : List Md} {vs dvs : List V} {ds es dds : List D} {sf : List D → Ou D} {v : V} {d : D} {k n i : Nat} {aks : List Ak} {f : Env → Ou D} {fs : Env → Ou (List D)} {Q : VK}
theorem fx_nil : EfX G Θ E [] tNil xNil := fun B F H σ Γ fps e Q q => q.fin e ⟨.nil, rfl⟩
theorem fx_fz (ha : EfV G Θ E .fz ta f) (hr : EfX G Θ E aks tr fs) : EfX G Θ E (.fz :: aks) (tCons ta tr) (eCons f fs) := fun B F H σ Γ fps e Q q =>
  ha B F H σ Γ fps e _ (q.bind fun x Γ1 v F1 H1 fps1 fp1 e1 s1 r1 n1 m1 q => hr B F1 H1 σ Γ1 fps1 e1 _ (q.bind fun ys Γ2 ws F2 H2 fps2 fp2 e2 s2 r2 n2 m2 q =>
    q.fin e2 ⟨.fz ((Own.fz_r r1).2.mono s2) r2.1, rfl⟩))
theorem EnvR.val (e : EnvR G Θ B F H σ Γ fps) (hl : i < Θ.length) (h : Γ[i]? = some (some d)) : ∃ v, σ[i]? = some (some v) := by
  have hm : Θ[i]? = some Θ[i] := List.getElem?_eq_getElem hl
  obtain ⟨o, fp, h1, h2⟩ := e.fpAt hm
  have s := e.slot i _ _ fp hm h h2
  revert s
  generalize Θ[i] = m
  intro s
  cases m with
  | scr => obtain ⟨_, a, _, b, _⟩ := s; exact ⟨_, b⟩
  | bor t => obtain ⟨_, u, b, _⟩ := s; exact ⟨u, b⟩
  | own t => obtain ⟨u, b, _⟩ := s; exact ⟨u, b⟩
theorem fx_slot (hr : EfX G Θ E aks tr fs) {ak : Ak} (hl : i < Θ.length) (hk : ∀ {F : Hp} {σ : L2.St} {v : V} {vs : List V} {ds : List D}, σ[i]? = some (some v) → AkR G F σ aks vs ds → AkR G F σ (ak :: aks) (v :: vs) (.non :: ds)) : EfX G Θ E (ak :: aks) (tCons (tVar i) tr) (xSlot i fs) := fun B F H σ Γ fps e Q q => by
  unfold xSlot at q
  split at q
  · rename_i d hd
    obtain ⟨v, hv⟩ := e.val hl hd
    exact ⟨v, hv, hr B F H σ Γ fps e _ (q.bind fun ys Γ2 ws F2 H2 fps2 fp2 e2 s2 r2 n2 m2 q => q.fin e2 ⟨hk hv r2.1, rfl⟩)⟩
  · exact q.elim
theorem fx_bor (hl : i < Θ.length) (hr : EfX G Θ E aks tr fs) : EfX G Θ E (.bor i :: aks) (tCons (tVar i) tr) (xSlot i fs) := fx_slot hr hl fun h r => .bor h r
theorem fx_own (hl : i < Θ.length) (hr : EfX G Θ E aks tr fs) : EfX G Θ E (.own i :: aks) (tCons (tVar i) tr) (xSlot i fs) := fx_slot hr hl fun h r => .own h r
def offM (H : Hp) (M : List Addr) : Hp := fun a => if a ∈ M then none else H a
theorem offM_of {M : List Addr} {a : Addr} {o : HO} (h : a ∉ M) (e : H a = some o) : offM H M a = some o := by unfold offM; rw [if_neg h]; exact e
theorem offM_le {M : List Addr} : Same (offM H M) H := fun a o h => by
  unfold offM at h
  split at h
  · cases h
  · exact h
theorem map_some {α β : Type} {o : Option α} {f : α → β} {y : β} (h : o.map f = some y) : ∃ x, o = some x ∧ f x = y := Option.map_eq_some_iff.mp h
theorem EnvR.args (e : EnvR G Θ B F H σ Γ fps) {M : List Addr} (hM : ∀ fp, fps[k]? = some fp → fp = M) (hM2 : ∀ (j : Nat) (fp : List Addr), j ≠ k → fps[j]? = some fp → ∀ a ∈ fp, a ∉ M) (hB : ∀ a ∈ M, B.W a = none) (ok : AkOk Θ k n aks ms) (r : AkR G F σ aks vs ds) (fl : fillA aks ds Γ = some es) :
    ∃ fpsA, ArgsR G (offM H M) F H ms vs es fpsA ∧ (n = 0 → fpsA.flatten = []) ∧ (n = 1 → fpsA.flatten = M) := by
  induction ok generalizing vs ds es with
  | nil =>
    cases r
    cases fl
    exact ⟨[], .nil, fun _ => rfl, fun z => by cases z⟩
  | @fz n t aks ms ok ih =>
    cases r with
    | fz h r =>
      unfold fillA at fl
      obtain ⟨es', h1, rfl⟩ := map_some fl
      obtain ⟨fa, a1, a2, a3⟩ := ih r h1
      exact ⟨[] :: fa, .cons ⟨rfl, _, rfl, .fr h⟩ a1, a2, a3⟩
  | @bor n i t aks ms hm ok ih =>
    cases r with
    | bor h r =>
      unfold fillA at fl
      split at fl
      · rename_i d hd
        obtain ⟨es', h1, rfl⟩ := map_some fl
        obtain ⟨fa, a1, a2, a3⟩ := ih r h1
        obtain ⟨o, fp, h5, h6⟩ := e.fpAt hm
        obtain ⟨_, u, h7, h8⟩ := e.slot _ _ _ _ hm hd h6
        rw [h] at h7
        cases h7
        exact ⟨[] :: fa, .cons ⟨rfl, _, rfl, h8.mono (.refl _) fun a o z => offM_of (fun y => by rw [hB a y] at z; cases z) (e.ws a o z)⟩ a1, a2, a3⟩
      · cases fl
  | @bow n i t aks ms hm hk ok ih =>
    cases r with
    | bor h r =>
      unfold fillA at fl
      split at fl
      · rename_i d hd
        obtain ⟨es', h1, rfl⟩ := map_some fl
        obtain ⟨fa, a1, a2, a3⟩ := ih r h1
        obtain ⟨o, fp, h5, h6⟩ := e.fpAt hm
        obtain ⟨u, h7, h8⟩ := e.slot _ _ _ _ hm hd h6
        rw [h] at h7
        cases h7
        exact ⟨[] :: fa, .cons ⟨rfl, _, rfl, h8.rt fun a ha o z => offM_of (hM2 i fp hk h6 a ha) z⟩ a1, a2, a3⟩
      · cases fl
  | @scr n i aks ms hm ok ih =>
    cases r with
    | bor h r =>
      unfold fillA at fl
      split at fl
      · rename_i d hd
        obtain ⟨es', h1, rfl⟩ := map_some fl
        obtain ⟨fa, a1, a2, a3⟩ := ih r h1
        obtain ⟨o, fp, h5, h6⟩ := e.fpAt hm
        obtain ⟨_, a, ns, h7, h8, h9⟩ := e.slot _ _ _ _ hm hd h6
        rw [h] at h7
        cases h7
        exact ⟨[] :: fa, .cons ⟨rfl, a, ns, rfl, h8, h9⟩ a1, a2, a3⟩
      · cases fl
  | @own t aks ms hm ok ih =>
    cases r with
    | own h r =>
      unfold fillA at fl
      split at fl
      · rename_i d hd
        obtain ⟨es', h1, rfl⟩ := map_some fl
        obtain ⟨fa, a1, a2, a3⟩ := ih r h1
        obtain ⟨o, fp, h5, h6⟩ := e.fpAt hm
        obtain ⟨u, h7, h8⟩ := e.slot _ _ _ _ hm hd h6
        rw [h] at h7
        cases h7
        refine ⟨fp :: fa, .cons ⟨_, rfl, h8⟩ a1, fun z => (by cases z), fun _ => ?_⟩
        rw [List.flatten_cons, a2 rfl, List.append_nil]
        exact hM fp h6
      · cases fl
theorem outs_noOwn : ∀ {ms : List Md} {vs : List V} {Γ : Env} {fps : List (List Addr)}, noOwn ms = true → OutsR G F H ms vs Γ fps → fps.flatten = []
  | [], _, _, _, _, .nil => rfl
  | .bor _ :: ms, _, _, _, h, .bor r => by
    rw [List.flatten_cons, List.nil_append]
    exact outs_noOwn (ms := ms) h r
  | .scr :: ms, _, _, _, h, .scr r => by
    rw [List.flatten_cons, List.nil_append]
    exact outs_noOwn (ms := ms) h r
  | .own _ :: ms, _, _, _, h, _ => nomatch h
theorem outs_put {fa : List (List Addr)} (ok : AkOk Θ k n aks ms) (r : AkR G F σ aks vs ds) (hn : noOwn dms = true) (o : OutsR G F' H' (ms ++ dms) (vs ++ dvs) Γ' fa) : (n = 0 → (∀ Γ, putA aks Γ' Γ = Γ) ∧ fa.flatten = []) ∧
    (n = 1 → ∃ t d v, Θ[k]? = some (.own t) ∧ σ[k]? = some (some v) ∧ Own G F' H' t v d fa.flatten ∧ ∀ Γ, putA aks Γ' Γ = Γ.set k (some d)) := by
  induction ok generalizing vs ds Γ' fa with
  | nil =>
    cases r
    exact ⟨fun _ => ⟨fun Γ => by cases Γ' <;> rfl, outs_noOwn hn o⟩, fun z => by cases z⟩
  | @fz n t aks ms ok ih =>
    cases r with
    | fz h r =>
      cases o with
      | bor o =>
        obtain ⟨h1, h2⟩ := ih r o
        exact ⟨h1, h2⟩
  | @bor n i t aks ms hm ok ih =>
    cases r with
    | bor h r =>
      cases o with
      | bor o =>
        obtain ⟨h1, h2⟩ := ih r o
        exact ⟨h1, h2⟩
  | @bow n i t aks ms hm hk ok ih =>
    cases r with
    | bor h r =>
      cases o with
      | bor o =>
        obtain ⟨h1, h2⟩ := ih r o
        exact ⟨h1, h2⟩
  | @scr n i aks ms hm ok ih =>
    cases r with
    | bor h r =>
      cases o with
      | scr o =>
        obtain ⟨h1, h2⟩ := ih r o
        exact ⟨h1, h2⟩
  | @own t aks ms hm ok ih =>
    cases r with
    | own h r =>
      cases o with
      | @own _ _ _ _ d' Γ'' fp' fps'' ow o =>
        obtain ⟨h1, h2⟩ := ih r o
        refine ⟨fun z => (by cases z), fun _ => ⟨t, d', _, hm, h, ?_, fun Γ => ?_⟩⟩
        · rw [List.flatten_cons, (h1 rfl).2, List.append_nil]
          exact ow
        · show putA aks Γ'' (Γ.set k (some d')) = _
          rw [(h1 rfl).1]
/-- slot k is changed by a call -/
theorem EnvR.call {M fpn : List Addr} (e : EnvR G Θ B F H σ Γ fps) (hm : Θ[k]? = some (.own t)) (hM : fps[k]? = some M) (hv : σ[k]? = some (some v)) (p : Post F H F' H' M) (ow : Own G F' H' t v d fpn) (nd : fpn.Nodup) (kk : ∀ a ∈ fpn, F' a = none ∧ (a ∈ M ∨ H a = none)) : EnvR G Θ B F' H' σ (Γ.set k (some d)) (fps.set k fpn) := by
  have hk : k < Γ.length := by rw [← e.lt]; exact (List.getElem?_eq_some_iff.mp hm).1
  have nM : ∀ {j : Nat} {q : List Addr}, j ≠ k → fps[j]? = some q → ∀ a ∈ q, a ∉ M := fun hj hq a ha => flat_old e.nd hq hM hj ha
  have dj : ∀ a ∈ fpn, ∀ (j : Nat) (q : List Addr), j ≠ k → fps[j]? = some q → a ∉ q := fun a ha j q hj hq z => by
    rcases (kk a ha).2 with y | y
    · exact nM hj hq a z y
    · obtain ⟨u, hu⟩ := e.at (flat_mem hq z); rw [hu] at y; cases y
  refine ⟨by rw [List.length_set]; exact e.ls, by rw [List.length_set, List.length_set]; exact e.lf, by rw [List.length_set]; exact e.lt, fun j m' o' fp' h1 h2 h3 => ?_, nodup_set hM e.nd nd dj, fun a ha => ?_, fun a ha => ?_, e.pin, p.s, e.f0.trans p.f, fun a o h nm => p.k a o (e.keep a o h nm) fun z => ?_, fun a h => e.there a (p.t a h), fun a o h => ?_, e.w, e.wm, e.tg, e.po⟩
  · by_cases z : k = j
    · subst z
      rw [List.getElem?_set_self hk] at h2
      rw [List.getElem?_set_self (by rw [e.lf]; exact hk)] at h3
      cases h2
      cases h3
      rw [hm] at h1
      cases h1
      exact ⟨v, hv, ow⟩
    · rw [List.getElem?_set_ne z] at h2 h3
      exact (e.slot j m' o' fp' h1 h2 h3).mono p.f fun a ha u hu => p.k a u hu (nM (Ne.symm z) h3 a ha)
  · rcases (flat_set hM a).mp ha with ha | ⟨j, q, hj, hq, hb⟩
    · exact (kk a ha).1
    · cases y : F' a with
      | none => rfl
      | some o =>
        rcases p.n a o y with x | x | x
        · rw [e.out a (flat_mem hq hb)] at x; cases x
        · obtain ⟨u, hu⟩ := e.at (flat_mem hq hb); rw [hu] at x; cases x
        · exact absurd x (nM hj hq a hb)
  · rcases (flat_set hM a).mp ha with ha | ⟨j, q, hj, hq, hb⟩
    · exact (kk a ha).2.elim (fun y => e.mine a (flat_mem hM y)) fun y => Or.inr (e.there a y)
    · exact e.mine a (flat_mem hq hb)
  · rcases e.mine a (flat_mem hM z) with y | y
    · exact nm y
    · rw [y] at h; cases h
  · rcases p.n a o h with x | x | x
    · exact e.new a o x
    · exact Or.inr (Or.inl (e.there a x))
    · exact (e.mine a (flat_mem hM x)).elim (fun y => Or.inr (Or.inr y)) fun y => Or.inr (Or.inl y)
theorem EnvR.post0 (e : EnvR G Θ B F H σ Γ fps) (p : Post F H F' H' []) : EnvR G Θ B F' H' σ Γ fps := e.grow p.f (fun a o h => p.k a o h List.not_mem_nil) p.s fun a o h => by
  rcases p.n a o h with x | x | x
  · exact Or.inl x
  · exact Or.inr x
  · exact absurd x List.not_mem_nil
theorem ArgsR.append {ms ns : List Md} {vs ws : List V} {ds es : List D} {fa fb : List (List Addr)} (h : ArgsR G W F H ms vs ds fa) (g : ArgsR G W F H ns ws es fb) : ArgsR G W F H (ms ++ ns) (vs ++ ws) (ds ++ es) (fa ++ fb) := by
  induction h with
  | nil => exact g
  | cons h _ ih => exact .cons h ih
/-- the heart of a call with effects -/
theorem call_eff {F0 : Hp} (e : EnvR G Θ B F H σ Γ fps) (ok : AkOk Θ k n aks ms) (hn1 : n ≤ 1) (hd : DvR G dms dvs dds) (hn : noOwn dms = true) (r : AkR G F σ aks vs ds) (fl : fillA aks ds Γ = some es)
    (q : EQ G Θ B (E σ) F σ (eV G rt) Q (match sf (es ++ dds) with | .ok r Γ' => .ok r (putA aks Γ' Γ) | .ex c fs Γ' => .ex c fs (putA aks Γ' Γ) | .no => .no)) : spF G (ms ++ dms) rt sf (vs ++ dvs) H Q (E σ) := by
  generalize hMM : ((fps[k]?).getD [] : List Addr) = M
  have hM : ∀ fp, fps[k]? = some fp → fp = M := fun fp h => by rw [← hMM, h]; rfl
  have hM' : ∀ a ∈ M, a ∈ fps.flatten := fun a ha => by
    cases z : fps[k]? with
    | none => rw [z] at hMM; subst hMM; exact absurd ha List.not_mem_nil
    | some fp => rw [← hM fp z] at ha; exact flat_mem z ha
  have hM2 : ∀ (j : Nat) (fp : List Addr), j ≠ k → fps[j]? = some fp → ∀ a ∈ fp, a ∉ M := fun j fp hj hf a ha => by
    cases z : fps[k]? with
    | none => rw [z] at hMM; subst hMM; exact List.not_mem_nil
    | some fq => rw [← hM fq z]; exact flat_old e.nd hf z hj ha
  obtain ⟨fa, a1, a2, a3⟩ := e.args hM hM2 (fun a ha => e.fw (hM' a ha)) ok r fl
  have db : ArgsR G (offM H M) F H dms dvs dds (dms.map fun _ => []) := (hd.r F (offM H M)).args hn
  have fe : (fa ++ dms.map fun _ => ([] : List Addr)).flatten = fa.flatten := by rw [List.flatten_append, flat_nil, List.append_nil]
  have cases01 : n = 0 ∨ n = 1 := by omega
  have nodM : n = 1 → M.Nodup ∧ fps[k]? = some M := fun h1 => by
    cases z : fps[k]? with
    | none =>
      exfalso
      have : ∀ {n : Nat} {aks : List Ak} {ms : List Md}, AkOk Θ k n aks ms → n = 1 → ∃ t, Θ[k]? = some (.own t) := by
        intro n aks ms ok
        induction ok with
        | nil => intro z; cases z
        | fz _ ih => exact ih
        | bor _ _ ih => exact ih
        | bow _ _ _ ih => exact ih
        | scr _ _ ih => exact ih
        | own h _ _ => intro _; exact ⟨_, h⟩
      obtain ⟨t, ht⟩ := this ok h1
      obtain ⟨_, fp, _, h6⟩ := e.fpAt ht
      rw [z] at h6; cases h6
    | some fq =>
      have := hM fq z
      subst this
      have key : ∀ (l : List (List Addr)) (i : Nat), l.flatten.Nodup → l[i]? = some fq → fq.Nodup := by
        intro l
        induction l with
        | nil => intro i _ h; simp at h
        | cons a l ih =>
          intro i n h
          rw [List.flatten_cons, List.nodup_append] at n
          cases i with
          | zero => simp at h; subst h; exact n.1
          | succ i => exact ih i n.2.1 (by simpa using h)
      exact ⟨key _ _ e.nd z, rfl⟩
  refine ⟨F, offM H M, es ++ dds, fa ++ dms.map fun _ => [], a1.append db, ?_, ?_, e.fr, offM_le, e.tgH, ?_⟩
  · rw [fe]
    rcases cases01 with h | h
    · rw [a2 h]; exact List.nodup_nil
    · rw [a3 h]; exact (nodM h).1
  · rw [fe]
    intro a ha
    rcases cases01 with h | h
    · rw [a2 h] at ha; exact absurd ha List.not_mem_nil
    · rw [a3 h] at ha
      exact ⟨e.out a (hM' a ha), by unfold offM; rw [if_pos ha]⟩
  · rw [fe]
    generalize sf (es ++ dds) = z at q
    cases z with
    | no => exact q
    | ok rr Γ' =>
      intro v F' H' fpr fps' p ow outs nd kk
      obtain ⟨o0, o1⟩ := outs_put ok r hn outs
      rcases cases01 with h | h
      · obtain ⟨p1, p2⟩ := o0 h
        rw [a2 h] at p kk
        rw [p2, List.append_nil] at nd kk
        have q' : EQ G Θ B (E σ) F σ (eV G rt) Q (.ok rr (putA aks Γ' Γ)) := q
        rw [p1] at q'
        have e2 := e.post0 p
        refine q' v F' H' fps fpr e2 p.f ow (List.nodup_append.mpr ⟨nd, e2.nd, fun a ha b hb y => ?_⟩) fun a ha => ?_
        · subst y
          rcases (kk a ha).2 with y | y
          · exact absurd y List.not_mem_nil
          · obtain ⟨u, hu⟩ := e.at hb; rw [hu] at y; cases y
        · rcases (kk a ha).2 with y | y
          · exact absurd y List.not_mem_nil
          · exact ⟨(kk a ha).1, Or.inr (e.there a y)⟩
      · obtain ⟨t, d, v2, h5, h6, h7, h8⟩ := o1 h
        obtain ⟨_, h9⟩ := nodM h
        rw [a3 h] at p kk
        have q' : EQ G Θ B (E σ) F σ (eV G rt) Q (.ok rr (putA aks Γ' Γ)) := q
        rw [h8] at q'
        have nn := List.nodup_append.mp nd
        have e2 := e.call h5 h9 h6 p h7 nn.2.1 fun a ha => kk a (List.mem_append_right _ ha)
        refine q' v F' H' _ fpr e2 p.f ow (List.nodup_append.mpr ⟨nn.1, e2.nd, fun a ha b hb y => ?_⟩) fun a ha => ?_
        · subst y
          rcases (flat_set h9 a).mp hb with hb | ⟨j, qq, hj, hq, hb⟩
          · exact nn.2.2 a ha a hb rfl
          · rcases (kk a (List.mem_append_left _ ha)).2 with y | y
            · exact hM2 j qq hj hq a hb y
            · obtain ⟨u, hu⟩ := e.at (flat_mem hq hb); rw [hu] at y; cases y
        · obtain ⟨k1, k2⟩ := kk a (List.mem_append_left _ ha)
          exact ⟨k1, k2.elim (fun y => e.mine a (hM' a y)) fun y => Or.inr (e.there a y)⟩
    | ex c fs Γ' =>
      intro dd F' H' fps' p xr outs nd kk
      obtain ⟨o0, o1⟩ := outs_put ok r hn outs
      rcases cases01 with h | h
      · obtain ⟨p1, p2⟩ := o0 h
        rw [a2 h] at p
        have q' : EQ G Θ B (E σ) F σ (eV G rt) Q (.ex c fs (putA aks Γ' Γ)) := q
        rw [p1] at q'
        exact q' dd F' H' fps (e.post0 p) p.f xr
      · obtain ⟨t, d, v2, h5, h6, h7, h8⟩ := o1 h
        obtain ⟨_, h9⟩ := nodM h
        rw [a3 h] at p kk
        have q' : EQ G Θ B (E σ) F σ (eV G rt) Q (.ex c fs (putA aks Γ' Γ)) := q
        rw [h8] at q'
        exact q' dd F' H' _ (e.call h5 h9 h6 p h7 nd kk) p.f xr
theorem ef_cl (ok : AkOk Θ k n aks ms) (hn1 : n ≤ 1) (hd : DvR G dms dvs dds) (hn : noOwn dms = true) (ha : EfX G Θ E aks tr fs) : EfV G Θ E rt (tCl (spF G (ms ++ dms) rt sf) dvs E tr) (eCall aks dds sf fs) := fun B F H σ Γ fps e Q q =>
  ha B F H σ Γ fps e _ (q.bind fun ds Γ1 vs F1 H1 fps1 fp1 e1 s1 r1 n1 m1 q => by
    cases hf : fillA aks ds Γ1 with
    | none => rw [hf] at q; exact q.elim
    | some es =>
      rw [hf] at q
      exact call_eff (F0 := F) e1 ok hn1 hd hn r1.1 hf q)
end
end Y

namespace Y
open PySem PySem.Spec PyProof.Rows L2 Z

/-! ## a slot's own list, dict: changed in place -/
section
variable {G : KC} {Θ : List Md} {E : EK} {B : Bs} {F H F' H' W : Hp} {σ : L2.St} {Γ Γ' : Env} {fps fps' : List (List Addr)} {te ta tb : TE} {tr : TA} {t t1 rt : T} {ds es : List D} {v : V} {d : D} {k n i : Nat} {f g : Env → Ou D} {fs : Env → Ou (List D)} {Q : VK} {pn : List Nat} {vs : List V} {fp fpx : List Addr}
theorem OwnA.snoc : ∀ {vs : List V} {ds : List D} {fp : List Addr}, OwnA G F H t vs ds fp → Own G F H t v d fpx → OwnA G F H t (vs ++ [v]) (ds ++ [d]) (fp ++ fpx)
  | _, _, _, .nil, h => by
    have := OwnA.cons h (OwnA.nil (G := G) (F := F) (H := H) (t := t))
    rw [List.append_nil] at this
    exact this
  | _, _, _, .cons (fp := fp) (fq := fq) a r, h => by
    rw [List.append_assoc]
    exact .cons a (OwnA.snoc r h)
theorem OwnA.append : ∀ {vs ws : List V} {ds es : List D} {fp fq : List Addr}, OwnA G F H t vs ds fp → OwnA G F H t ws es fq → OwnA G F H t (vs ++ ws) (ds ++ es) (fp ++ fq)
  | _, _, _, _, _, _, .nil, h => h
  | _, _, _, _, _, _, .cons (fp := fp) (fq := fq) a r, h => by
    rw [List.append_assoc]
    exact .cons a (OwnA.append r h)
theorem OwnA.len : ∀ {vs : List V} {ds : List D} {fp : List Addr}, OwnA G F H t vs ds fp → vs.length = ds.length
  | _, _, _, .nil => rfl
  | _, _, _, .cons _ r => congrArg Nat.succ (OwnA.len r)
/-- an item taken out -/
theorem OwnA.erase : ∀ {vs : List V} {ds : List D} {fp : List Addr} (j : Nat), OwnA G F H t vs ds fp → ds[j]? = some d → ∃ v fq fr, vs[j]? = some v ∧ Own G F H t v d fq ∧ OwnA G F H t (vs.eraseIdx j) (ds.eraseIdx j) fr ∧ List.Perm fp (fq ++ fr)
  | _, _, _, j, .nil, h => by simp at h
  | _, _, _, 0, .cons (fp := fp) (fq := fq) a r, h => by
    simp at h
    subst h
    exact ⟨_, fp, fq, rfl, a, r, .refl _⟩
  | _, _, _, j + 1, .cons (fp := fp) (fq := fq) a r, h => by
    simp at h
    obtain ⟨v, f1, f2, h1, h2, h3, h4⟩ := OwnA.erase j r h
    refine ⟨v, f1, fp ++ f2, by simpa using h1, h2, .cons a h3, ?_⟩
    exact ((List.Perm.append_left fp h4).trans (by rw [← List.append_assoc, ← List.append_assoc]; exact List.Perm.append_right _ List.perm_append_comm))
/-- an item changed -/
theorem OwnA.setF : ∀ {vs : List V} {ds : List D} {fp : List Addr} (j : Nat), OwnA G F H .fz vs ds fp → R G F v d → OwnA G F H .fz (vs.set j v) (ds.set j d) fp
  | _, _, _, j, .nil, h => by simp; exact .nil
  | _, _, _, 0, .cons (fp := fp) (fq := fq) a r, h => by
    have := a.fz_r.1
    subst this
    exact .cons (fp := []) (.fz h) r
  | _, _, _, j + 1, .cons (fp := fp) (fq := fq) a r, h => .cons a (OwnA.setF j r h)
theorem EnvR.root (e : EnvR G Θ B F H σ Γ fps) (hm : Θ[i]? = some (.own (.lst t))) (hd : Γ[i]? = some (some (.lst ds))) : ∃ p vs fp, σ[i]? = some (some (.ref p)) ∧ fps[i]? = some (p :: fp) ∧ H p = some (.lst vs) ∧ OwnA G F H t vs ds fp ∧ (p :: fp).Nodup ∧ F p = none ∧ G.tg p = none := by
  obtain ⟨o, fp, h1, h2⟩ := e.fpAt hm
  obtain ⟨v, h3, ow⟩ := e.slot i _ _ fp hm hd h2
  have hn : fp.Nodup := by
    have : ∀ (l : List (List Addr)) (i : Nat), l.flatten.Nodup → l[i]? = some fp → fp.Nodup := by
      intro l
      induction l with
      | nil => intro i _ h; simp at h
      | cons a l ih =>
        intro i n h
        rw [List.flatten_cons, List.nodup_append] at n
        cases i with
        | zero => simp at h; subst h; exact n.1
        | succ i => exact ih i n.2.1 (by simpa using h)
    exact this _ i e.nd h2
  cases ow with
  | nl r z => cases z
  | @lst _ p vs _ fq hh tg r => exact ⟨p, vs, fq, h3, h2, hh, r, hn, e.out p (flat_mem h2 List.mem_cons_self), tg⟩
theorem upd_keep {p a : Addr} {o u : HO} (h : H a = some u) (n : a ≠ p) : upd H p o a = some u := by rw [upd_ne n]; exact h
theorem EnvR.reroot {p : Addr} {fq : List Addr} {ws : List V} (e : EnvR G Θ B F H σ Γ fps) (hm : Θ[i]? = some (.own (.lst t))) (hv : σ[i]? = some (some (.ref p))) (hf : fps[i]? = some (p :: fp)) (hp : H p = some (.lst vs)) (tg : G.tg p = none) (r : OwnA G F H t ws es fq) (nd : (p :: fq).Nodup)
    (dj : ∀ a ∈ fq, a ∈ fp ∨ a ∉ fps.flatten) (k : ∀ a ∈ fq, F a = none ∧ (a ∈ B.M ∨ B.H0 a = none)) : EnvR G Θ B F (upd H p (.lst ws)) σ (Γ.set i (some (.lst es))) (fps.set i (p :: fq)) := by
  have hp0 := flat_mem hf (List.mem_cons_self (a := p) (l := fp))
  refine e.put (v := none) hm hf (fun _ _ => rfl) rfl ?_ nd (fun a ha j q hj hq z => ?_) (fun a ha => ?_) (fun a ha => ?_) (fun q hq z => by rw [← z]; exact e.pin q hq) (fun a u h n => ?_) fun a h => ?_
  · refine ⟨_, hv, .lst upd_same tg ?_⟩
    refine r.mono (.refl _) fun a ha o h => upd_keep h fun z => ?_
    subst z
    exact (List.nodup_cons.mp nd).1 ha
  · rcases List.mem_cons.mp ha with rfl | ha
    · exact flat_old e.nd hf hq (Ne.symm hj) List.mem_cons_self z
    · rcases dj a ha with y | y
      · exact flat_old e.nd hf hq (Ne.symm hj) (List.mem_cons_of_mem _ y) z
      · exact y (flat_mem hq z)
  · rcases List.mem_cons.mp ha with rfl | ha
    · exact e.out _ hp0
    · exact (k a ha).1
  · rcases List.mem_cons.mp ha with rfl | ha
    · exact e.mine _ hp0
    · exact (k a ha).2
  · exact upd_keep h fun z => n (by rw [z]; exact List.mem_cons_self)
  · by_cases z : a = p
    · subst z; rw [upd_same] at h; cases h
    · rw [upd_ne z] at h; exact h
/-- xs.append(e) -/
def sApp (i : Nat) (f : Env → Ou D) : Env → So := fun Γ => match Γ[i]? with
  | some (some (.lst _)) => (f Γ).so fun d Γ1 => match Γ1[i]? with
    | some (some (.lst ds)) => if Sz ds.length then .nx (Γ1.set i (some (.lst (ds ++ [d])))) else .no
    | _ => .no
  | _ => .no
theorem SQ.ite {Dn : Ends} {p : Prop} [Decidable p] {x : So} (q : SQ G Θ B E F t Dn (if p then x else .no)) : p ∧ SQ G Θ B E F t Dn x := by
  by_cases e : p
  · rw [if_pos e] at q; exact ⟨e, q⟩
  · rw [if_neg e] at q; exact q.elim
theorem es_app (hm : Θ[i]? = some (.own (.lst t1))) (h : EfV G Θ E t1 te f) : Es G Θ E pn rt (tDrop (tBM G.K "list" rAppend (tVar i) (tCons te tNil))) (sApp i f) := fun B F H σ Γ fps Dn hp en q => by
  unfold sApp at q
  split at q
  · rename_i ds0 hd0
    obtain ⟨p, vs, fp, hv, hf, hh, r, nd, hF, tg⟩ := en.root hm hd0
    refine ⟨_, hv, Or.inl ⟨rfl, vs, Or.inl (Or.inl hh)⟩, ?_⟩
    refine h B F H σ Γ fps en _ (q.exp fun d Γ1 v F1 H1 fps1 fp1 e1 s1 ow n1 m1 q => ?_)
    split at q
    · rename_i ds hd
      obtain ⟨hz, q⟩ := SQ.ite q
      obtain ⟨p1, vs1, fq, hv1, hf1, hh1, r1, nd1, hF1, tg1⟩ := e1.root hm hd
      rw [hv] at hv1
      cases hv1
      refine ⟨p, vs1, v, rfl, rfl, hh1, by rw [r1.len]; exact hz.lt, ?_⟩
      have nn := List.nodup_append.mp n1
      refine q F1 _ σ _ (e1.reroot hm hv hf1 hh1 tg1 (r1.snoc ow) ?_ (fun a ha => ?_) fun a ha => ?_) (.refl _)
      · have n2 := List.nodup_cons.mp nd1
        refine List.nodup_cons.mpr ⟨fun z => ?_, List.nodup_append.mpr ⟨n2.2, nn.1, fun a ha b hb z => ?_⟩⟩
        · rcases List.mem_append.mp z with z | z
          · exact n2.1 z
          · exact nn.2.2 p z p (flat_mem hf1 List.mem_cons_self) rfl
        · subst z
          exact nn.2.2 a hb a (flat_mem hf1 (List.mem_cons_of_mem _ ha)) rfl
      · exact (List.mem_append.mp ha).imp id fun z y => nn.2.2 a z a y rfl
      · rcases List.mem_append.mp ha with z | z
        · exact ⟨e1.out a (flat_mem hf1 (List.mem_cons_of_mem _ z)), e1.mine a (flat_mem hf1 (List.mem_cons_of_mem _ z))⟩
        · exact m1 a z
    · exact q.elim
  · exact q.elim
/-- xs.extend(e), e frozen -/
def sExt (i : Nat) (f : Env → Ou D) : Env → So := fun Γ => match Γ[i]? with
  | some (some (.lst _)) => (f Γ).so fun d Γ1 => match Γ1[i]? with
    | some (some (.lst ds)) => match d with
      | .lst es => if Sz (ds.length + es.length) then .nx (Γ1.set i (some (.lst (ds ++ es)))) else .no
      | _ => .no
    | _ => .no
  | _ => .no
theorem es_ext (hm : Θ[i]? = some (.own (.lst .fz))) (h : EfV G Θ E .fz te f) : Es G Θ E pn rt (tDrop (tBM G.K "list" rExtend (tVar i) (tCons te tNil))) (sExt i f) := fun B F H σ Γ fps Dn hp en q => by
  unfold sExt at q
  split at q
  · rename_i ds0 hd0
    obtain ⟨p, vs, fp, hv, hf, hh, r, nd, hF, tg⟩ := en.root hm hd0
    refine ⟨_, hv, Or.inl ⟨rfl, vs, Or.inl (Or.inl hh)⟩, ?_⟩
    refine h B F H σ Γ fps en _ (q.exp fun d Γ1 v F1 H1 fps1 fp1 e1 s1 ow n1 m1 q => ?_)
    split at q
    · rename_i ds hd
      cases d with
      | lst es =>
        obtain ⟨hz, q⟩ := SQ.ite q
        obtain ⟨p1, vs1, fq, hv1, hf1, hh1, r1, nd1, hF1, tg1⟩ := e1.root hm hd
        rw [hv] at hv1
        cases hv1
        obtain ⟨b, ws, rfl, hb, rb⟩ := R_lst ow.fz_r.2 rfl
        refine ⟨p, b, vs1, ws, rfl, rfl, hh1, e1.fr _ _ hb, by rw [r1.len, rb.len]; exact hz.ok, ?_⟩
        have ow2 : OwnA G F1 H1 .fz (vs1 ++ ws) (ds ++ es) fq := by
          have := r1.append (OwnA.of_r (H := H1) rb)
          rw [List.append_nil] at this
          exact this
        refine q F1 _ σ _ (e1.reroot hm hv hf1 hh1 tg1 ow2 nd1 (fun a ha => Or.inl ha) fun a ha => ?_) (.refl _)
        exact ⟨e1.out a (flat_mem hf1 (List.mem_cons_of_mem _ ha)), e1.mine a (flat_mem hf1 (List.mem_cons_of_mem _ ha))⟩
      | _ => exact q.elim
    · exact q.elim
  · exact q.elim
/-- xs[k] = e -/
def sSetI (i : Nat) (fk f : Env → Ou D) : Env → So := fun Γ => (f Γ).so fun d Γ1 => match Γ1[i]? with
  | some (some (.lst _)) => (fk Γ1).so fun k Γ2 => match Γ2[i]? with
    | some (some (.lst ds)) => match k with
      | .int j => match ixN ds.length j with
        | some m => .nx (Γ2.set i (some (.lst (ds.set m d))))
        | none => .no
      | _ => .no
    | _ => .no
  | _ => .no
theorem es_setI (hm : Θ[i]? = some (.own (.lst .fz))) (hk : EfV G Θ E .fz tb g) (h : EfV G Θ E .fz te f) : Es G Θ E pn rt (tAsg te (gSub (tVar i) tb rSetL)) (sSetI i g f) := fun B F H σ Γ fps Dn hp en q =>
  h B F H σ Γ fps en _ (q.exp fun d Γ1 v F1 H1 fps1 fp1 e1 s1 ow n1 m1 q => by
    split at q
    · rename_i ds0 hd0
      obtain ⟨p, vs, fp, hv, hf, hh, r, nd, hF, tg⟩ := e1.root hm hd0
      refine ⟨_, hv, ?_⟩
      refine hk B F1 H1 σ Γ1 fps1 e1 _ (q.exp fun kd Γ2 w F2 H2 fps2 fp2 e2 s2 ow2 n2 m2 q => ?_)
      split at q
      · rename_i ds hd
        cases kd with
        | int j =>
          cases hj : ixN ds.length j with
          | none => simp only [hj] at q; exact q.elim
          | some m =>
            simp only [hj] at q
            obtain ⟨p1, vs1, fq, hv1, hf1, hh1, r1, nd1, hF1, tg1⟩ := e2.root hm hd
            rw [hv] at hv1
            cases hv1
            have ew : w = .int j := by have := ow2.fz_r.2; cases this; rfl
            subst ew
            refine ⟨p, vs1, j, m, rfl, rfl, hh1, by rw [r1.len]; exact hj, ?_⟩
            refine q F2 _ σ _ (e2.reroot hm hv hf1 hh1 tg1 (r1.setF m (ow.fz_r.2.mono s2)) nd1 (fun a ha => Or.inl ha) fun a ha => ?_) (.refl _)
            exact ⟨e2.out a (flat_mem hf1 (List.mem_cons_of_mem _ ha)), e2.mine a (flat_mem hf1 (List.mem_cons_of_mem _ ha))⟩
        | _ => exact q.elim
      · exact q.elim
    · exact q.elim)
end
end Y

namespace Y
open PySem PySem.Spec PyProof.Rows L2 Z

/-! ## comprehensions with effects -/
section
variable {G : KC} {Θ : List Md} {E : EK} {B : Bs} {F F2 H H1 H2 F' H' W U1 : Hp} {σ σ2 : L2.St} {Γ Γ2 Γ' : Env} {fps fps2 fps' : List (List Addr)} {te ta tb : TE} {tt : TT} {tr : TA} {wi : TI} {t t1 rt : T} {ds es : List D} {v : V} {d : D} {k n i : Nat} {f fe : Env → Ou D} {fb : Env → Ou Bool} {fi : Env → Rs (List D)} {Q : VK} {pn vs : List Nat} {J : It} {g : TG} {gs : TGs} {gf : GF} {gfs : List D → Env → Option Env}
theorem EnvR.turn {Θ' : List Md} (e : EnvR G Θ B F H σ Γ fps) (g1 : Gr (uniW F B.W) H U1 H1) (it : ItD G (OW F B.W) U1 .fz J ds) (e2 : EnvR G Θ' B F2 H2 σ2 Γ2 fps2) (s2 : Same (Fz (OW F B.W) U1) F2) (k : Nat) :
    (k < ds.length → J.go k H2) ∧ (ds.length ≤ k → J.stop k H2) ∧ ∀ x H3 d, J.yld k H2 x H3 → ds[k]? = some d → ∃ F3, Same F2 F3 ∧ Same H2 H3 ∧ (∀ a o, F3 a = some o → F2 a = some o ∨ H2 a = none) ∧ EnvR G Θ' B F3 H3 σ2 Γ2 fps2 ∧ R G F3 x d := by
  have su : Same U1 (uniW F2 U1) := by
    intro a o h
    unfold uniW
    cases y : F2 a with
    | none => exact h
    | some u =>
      by_cases oa : OW F B.W a
      · obtain ⟨n, w, hw⟩ := oa
        have h5 := e2.ws a w hw
        have h6 := e2.fr a u y
        have h7 := g1.f a w (by unfold uniW; rw [n]; exact hw)
        rw [h] at h7
        cases h7
        rw [h5] at h6
        cases h6
        rfl
      · have := s2 a o (fz_of oa h)
        rw [y] at this
        exact this
  have sh : Same (uniW F2 U1) H2 := by
    intro a o h
    unfold uniW at h
    cases y : F2 a with
    | some u => rw [y] at h; cases h; exact e2.fr a _ y
    | none =>
      rw [y] at h
      replace h : U1 a = some o := h
      by_cases oa : OW F B.W a
      · obtain ⟨n, w, hw⟩ := oa
        have h7 := g1.f a w (by unfold uniW; rw [n]; exact hw)
        rw [h] at h7
        cases h7
        exact e2.ws a _ hw
      · have := s2 a o (fz_of oa h)
        rw [y] at this
        cases this
  have rg : Reg G (OW F B.W) (uniW F2 U1) H2 := ⟨sh, fun a h => by obtain ⟨_, o, h⟩ := h; exact ⟨o, e2.ws a o h⟩, e2.tgH⟩
  obtain ⟨i1, i2, i3⟩ := it _ H2 su rg k
  refine ⟨i1, i2, fun x H3 d hy hn => ?_⟩
  obtain ⟨U3, g3, rx⟩ := i3 x H3 d hy hn
  have s3 : Same F2 (Fz (fun a => F2 a = none ∧ ∃ o, uniW F2 U1 a = some o) U3) := fun a o h => fz_of (fun z => by rw [z.1] at h; cases h) (g3.f _ _ (uniW_l _ _ h))
  have n3 : ∀ a o, Fz (fun a => F2 a = none ∧ ∃ o, uniW F2 U1 a = some o) U3 a = some o → F2 a = some o ∨ H2 a = none := fun a o h => by
    obtain ⟨h1, h2⟩ := fz_in h
    rcases g3.n a o h2 with z | z
    · cases y : F2 a with
      | some u =>
        have : uniW F2 U1 a = some u := by unfold uniW; rw [y]
        rw [this] at z
        cases z
        exact Or.inl rfl
      | none => exact absurd ⟨y, o, z⟩ h1
    · exact Or.inr z
  refine ⟨_, s3, g3.h, n3, e2.grow s3 g3.h (fz_le.trans g3.s) n3, rx.fz.mono fun a o h => ?_⟩
  obtain ⟨h1, h2⟩ := fz_in h
  refine fz_of (fun ⟨y, u, z⟩ => ?_) h2
  unfold uniW at z
  rw [y] at z
  have := s2 a u (fz_of h1 z)
  rw [y] at this
  cases this
/-- the iterator gives these, as long as the activation lasts -/
def IterOk (G : KC) (B : Bs) (F : Hp) (J : It) (ds : List D) : Prop := ∀ (Θ : List Md) (F2 H2 : Hp) (σ2 : L2.St) (Γ2 : Env) (fps2 : List (List Addr)), EnvR G Θ B F2 H2 σ2 Γ2 fps2 → Same F F2 → ∀ k : Nat,
  (k < ds.length → J.go k H2) ∧ (ds.length ≤ k → J.stop k H2) ∧ ∀ x H3 d, J.yld k H2 x H3 → ds[k]? = some d → ∃ F3, Same F2 F3 ∧ Same H2 H3 ∧ (∀ a o, F3 a = some o → F2 a = some o ∨ H2 a = none) ∧ EnvR G Θ B F3 H3 σ2 Γ2 fps2 ∧ R G F3 x d
def eI (G : KC) (B : Bs) : RelE It (List D) := ⟨fun F _ J ds fp => IterOk G B F J ds ∧ fp = []⟩
def EfI (G : KC) (Θ : List Md) (E : EK) (te : TI) (f : Env → Ou (List D)) : Prop :=
  ∀ (B : Bs) (F H : Hp) (σ : L2.St) (Γ : Env) (fps : List (List Addr)), EnvR G Θ B F H σ Γ fps → ∀ Q, EQ G Θ B (E σ) F σ (eI G B) Q (f Γ) → te σ H Q
def pI (Θ : List Md) (fi : Env → Rs (List D)) : Env → Ou (List D) := fun Γ => (fi (mkE Θ Γ)).ou Γ
theorem fi_p (hi : EvI G Θ E .fz wi fi) : EfI G Θ E wi (pI Θ fi) := fun B F H σ Γ fps e Q q => by
  refine hi _ _ H σ _ e.atW _ ?_
  unfold pI at q
  cases hz : fi (mkE Θ Γ) with
  | no => rw [hz] at q; exact q.elim
  | ex c fs =>
    rw [hz] at q
    intro dd U' H' g r
    obtain ⟨e', s'⟩ := e.pureW g
    exact q dd _ H' fps e' s' r
  | ok ds =>
    rw [hz] at q
    intro J U1 H1 g1 it
    obtain ⟨e1, s1⟩ := e.pureW g1
    exact q J _ H1 fps [] e1 s1 ⟨fun Θ' F2 H2 σ2 Γ2 fps2 e2 s2 k => e.turn g1 it e2 s2 k, rfl⟩ (by simpa using e1.nd) (fun a z => absurd z List.not_mem_nil)
/-- from frozen things -/
theorem iter_fz {U : Hp} (it : ItD G (fun _ => False) F .fz J ds) : IterOk G B F J ds := fun Θ F2 H2 σ2 Γ2 fps2 e2 s2 k => by
  have z0 : ∀ U : Hp, Fz (fun _ => False) U = U := fun U => by funext a; unfold Fz; simp
  obtain ⟨i1, i2, i3⟩ := it F2 H2 s2 ⟨e2.fr, fun a h => h.elim, e2.tgH⟩ k
  refine ⟨i1, i2, fun x H3 d hy hn => ?_⟩
  obtain ⟨U3, g3, rx⟩ := i3 x H3 d hy hn
  rw [z0] at rx
  exact ⟨U3, g3.f, g3.h, g3.n, e2.grow g3.f g3.h g3.s g3.n, rx.fz⟩
def eIt (op : List D → Rs (List D)) (f : Env → Ou (List D)) : Env → Ou (List D) := fun Γ => (f Γ).bind fun ds Γ1 => (op ds).ou Γ1
theorem fi_r1 {f : Env → Ou (List D)} (h : EfA G Θ E tr f) : EfI G Θ E (iRng1 tr) (eIt (fun ds => if ds.length = 1 then itRange ds else .no) f) := fun B F H σ Γ fps e Q q =>
  h B F H σ Γ fps e _ (q.bind fun ds Γ1 vs F1 H1 fps1 fp1 e1 s1 r1 n1 m1 q => by
    match ds, q with
    | [x], q =>
      obtain ⟨v, rfl, rv⟩ := r1.1.one
      cases x with
      | int n =>
        have q' : EQ G Θ B (E σ) F1 σ (eI G B) Q ((if Lm n then Rs.ok (rngD 0 n.toNat) else .no).ou Γ1) := q
        by_cases hn : Lm n
        · rw [if_pos hn] at q'
          cases rv
          unfold Lm at hn
          exact ⟨n, rfl, by omega, by omega, q'.fin e1 ⟨iter_fz (U := F1) (it_rng 0 _), rfl⟩⟩
        · rw [if_neg hn] at q'; exact q'.elim
      | _ => exact q.elim
    | [], q => exact q.elim
    | _ :: _ :: _, q => exact q.elim)
def eSeq (f : Env → Ou D) : Env → Ou (List D) := fun Γ => (f Γ).bind fun d Γ1 => (seqD d).ou Γ1
theorem fi_seq {f : Env → Ou D} (h : EfV G Θ E .fz ta f) : EfI G Θ E (iSeq G.K ta) (eSeq f) := fun B F H σ Γ fps e Q q =>
  h B F H σ Γ fps e _ (q.bind fun d Γ1 v F1 H1 fps1 fp1 e1 s1 r1 n1 m1 q => by
    have r := r1.fz_r.2
    have z0 : Fz (fun _ => False) F1 = F1 := by funext a; unfold Fz; simp
    unfold seqD at q
    generalize hu : un d = d' at q
    cases d' with
    | lst ds =>
      obtain ⟨b, vs, rfl, hb, rr⟩ := R_lst r hu
      have q' : EQ G Θ B (E σ) F1 σ (eI G B) Q (.ok ds Γ1) := q
      exact Or.inl ⟨b, vs, rfl, Or.inl (Or.inl (e1.fr _ _ hb)), q'.fin e1 ⟨iter_fz (U := F1) (it_list hb (RTA.fr (by rw [z0]; exact rr))), rfl⟩⟩
    | tup ds =>
      obtain ⟨b, vs, rfl, hb, rr⟩ := R_tup r hu
      have q' : EQ G Θ B (E σ) F1 σ (eI G B) Q (.ok ds Γ1) := q
      exact Or.inr (Or.inl ⟨b, vs, rfl, same_t e1.fr hb, q'.fin e1 ⟨iter_fz (U := F1) (it_tup hb (RTA.fr (by rw [z0]; exact rr))), rfl⟩⟩)
    | str z =>
      have q' : EQ G Θ B (E σ) F1 σ (eI G B) Q (.ok (charsD z) Γ1) := q
      exact Or.inr (Or.inr ⟨z, R_str r hu, q'.fin e1 ⟨iter_fz (U := F1) (it_str z), rfl⟩⟩)
    | _ => exact q.elim)
theorem fi_enum {f : Env → Ou (List D)} (h : EfA G Θ E tr f) : EfI G Θ E (iEnum G.K tr) (eIt itEnum f) := fun B F H σ Γ fps e Q q =>
  h B F H σ Γ fps e _ (q.bind fun ds Γ1 vs F1 H1 fps1 fp1 e1 s1 r1 n1 m1 q => by
    have z0 : Fz (fun _ => False) F1 = F1 := by funext a; unfold Fz; simp
    match ds, q with
    | [x], q =>
      obtain ⟨v, rfl, rv⟩ := r1.1.one
      cases hx : lstD x with
      | none => simp only [itEnum, hx] at q; exact q.elim
      | some ds =>
        simp only [itEnum, hx] at q
        obtain ⟨b, vs, rfl, hb, rr⟩ := lstD_R rv hx
        have q' : EQ G Θ B (E σ) F1 σ (eI G B) Q (.ok (enD ds) Γ1) := q
        exact ⟨b, vs, rfl, Or.inl (Or.inl (e1.fr _ _ hb)), q'.fin e1 ⟨iter_fz (U := F1) (it_enum hb (by rw [z0]; exact rr)), rfl⟩⟩
    | [], q => exact q.elim
    | _ :: _ :: _, q => exact q.elim)
theorem fi_zip {f : Env → Ou (List D)} (h : EfA G Θ E tr f) : EfI G Θ E (iZip G.K tr) (eIt itZip f) := fun B F H σ Γ fps e Q q =>
  h B F H σ Γ fps e _ (q.bind fun ds Γ1 vs F1 H1 fps1 fp1 e1 s1 r1 n1 m1 q => by
    have z0 : Fz (fun _ => False) F1 = F1 := by funext a; unfold Fz; simp
    match ds, q with
    | [x, y], q =>
      obtain ⟨v, w, rfl, rv, rw_⟩ := r1.1.two
      cases hx : lstD x with
      | none => simp only [itZip, hx] at q; exact q.elim
      | some ds =>
        cases hy : lstD y with
        | none => simp only [itZip, hx, hy] at q; exact q.elim
        | some es =>
          simp only [itZip, hx, hy] at q
          obtain ⟨b, vs, rfl, hb, rr⟩ := lstD_R rv hx
          obtain ⟨b', ws, rfl, hb', rr'⟩ := lstD_R rw_ hy
          have q' : EQ G Θ B (E σ) F1 σ (eI G B) Q (.ok (zpD ds es) Γ1) := q
          exact ⟨b, b', vs, ws, rfl, Or.inl (Or.inl (e1.fr _ _ hb)), Or.inl (Or.inl (e1.fr _ _ hb')), q'.fin e1 ⟨iter_fz (U := F1) (it_zip hb hb' (by rw [z0]; exact rr) (by rw [z0]; exact rr')), rfl⟩⟩
    | [], q => exact q.elim
    | [_], q => exact q.elim
    | _ :: _ :: _ :: _, q => exact q.elim)
/-! for -/
def sFor (fi : Env → Ou (List D)) (g : GF) (b : Env → So) : Env → So := fun Γ => (fi Γ).so fun ds Γ1 => forL g b ds Γ1
theorem es_for {fi : Env → Ou (List D)} {f : Env → So} {ts : TS} (hi : EfI G Θ E wi fi) (hg : Et G Θ pn g gf) (hb : Es G Θ E pn t ts f) : Es G Θ E pn t (tFor wi g ts) (sFor fi gf f) := fun B F H σ Γ fps Dn hp e q =>
  hi B F H σ Γ fps e _ (q.exp fun ds Γ1 J F1 H1 fps1 fp1 e1 s1 r1 n1 m1 q1 => by
    obtain ⟨it, rfl⟩ := r1
    refine ⟨fun k m σ' H' => k + m = ds.length ∧ ∃ Γ2 F2 fps2, EnvR G Θ B F2 H' σ' Γ2 fps2 ∧ Same F1 F2 ∧ SQ G Θ B E F2 t Dn (forL gf f (ds.drop k) Γ2), ⟨ds.length, Nat.zero_add _, Γ1, F1, fps1, e1, .refl _, q1⟩, ?_⟩
    rintro k m σ' H' ⟨hk, Γ2, F2, fps2, e2, s2, q2⟩
    obtain ⟨i1, i2, i3⟩ := it Θ F2 H' σ' Γ2 fps2 e2 s2 k
    by_cases lt : k < ds.length
    · refine Or.inr ⟨i1 lt, fun σ'' H'' => ∃ Γ2 F2 fps2, EnvR G Θ B F2 H'' σ'' Γ2 fps2 ∧ Same F1 F2 ∧ SQ G Θ B E F2 t Dn (forL gf f (ds.drop (k + 1)) Γ2), fun σ'' H'' w => ⟨m - 1, by omega, by omega, w⟩, fun x H3 hy => ?_⟩
      have hn : ds[k]? = some ds[k] := List.getElem?_eq_getElem lt
      obtain ⟨F3, s3, h3, n3, e3, rx⟩ := i3 x H3 ds[k] hy hn
      rw [List.drop_eq_getElem_cons lt] at q2
      have body : gf ds[k] Γ2 ≠ none := fun z => by
        unfold forL at q2
        rw [z] at q2
        exact q2
      obtain ⟨Γ3, hΓ3⟩ := Option.ne_none_iff_exists'.mp body
      have q3 : SQ G Θ B E F2 t Dn (match f Γ3 with
        | .nx Γ2 => forL gf f (ds.drop (k + 1)) Γ2
        | .ct Γ2 => forL gf f (ds.drop (k + 1)) Γ2
        | .bk Γ2 => .nx Γ2
        | .rt d Γ2 => .rt d Γ2
        | .ex c fs Γ2 => .ex c fs Γ2
        | .no => .no) := by
        have h := q2
        unfold forL at h
        rw [hΓ3] at h
        exact h
      refine hg B _ H3 σ' Γ2 fps2 x ds[k] hp e3 rx _ ⟨Γ3, hΓ3, fun σ4 fps4 e4 => ?_⟩
      refine hb B _ H3 σ4 Γ3 fps4 _ hp e4 ?_
      have q4 := SQ.grow s3 q3
      have s24 := s2.trans s3
      cases hf : f Γ3 with
      | nx Γ5 => rw [hf] at q4; exact fun F5 H5 σ5 fps5 e5 s5 => ⟨Γ5, F5, fps5, e5, s24.trans s5, SQ.grow s5 q4⟩
      | ct Γ5 => rw [hf] at q4; exact fun F5 H5 σ5 fps5 e5 s5 => ⟨Γ5, F5, fps5, e5, s24.trans s5, SQ.grow s5 q4⟩
      | bk Γ5 => rw [hf] at q4; exact q4
      | rt d Γ5 => rw [hf] at q4; exact q4
      | ex c fs Γ5 => rw [hf] at q4; exact q4
      | no => rw [hf] at q4; exact q4
    · have ek : k = ds.length := by omega
      subst ek
      rw [List.drop_length] at q2
      exact Or.inl ⟨i2 (Nat.le_refl _), q2 F2 H' σ' fps2 e2 (.refl _)⟩)
/-- slots of a comprehension are emptied -/
theorem EnvR.wipe (e : EnvR G Θ B F H σ Γ fps) (hp : ∀ q ∈ B.pins, q.1 ∉ vs) (hΘ : ∀ i ∈ vs, ∃ t, Θ[i]? = some (.bor t)) : EnvR G Θ B F H (L2.wipe σ vs) (wipD Γ vs) fps := by
  have lw : (wipD Γ vs).length = Γ.length := wipD_len Γ vs
  have gw : ∀ (vs : List Nat) (i : Nat), i ∈ vs → i < Γ.length → (wipD Γ vs)[i]? = some none := by
    intro vs i
    induction vs with
    | nil => intro h; cases h
    | cons v vs ih =>
      intro h hl
      unfold wipD
      by_cases z : v = i
      · subst z; exact List.getElem?_set_self (by rw [wipD_len]; exact hl)
      · rw [List.getElem?_set_ne z]; exact ih ((List.mem_cons.mp h).resolve_left fun y => z y.symm) hl
  have gn : ∀ (vs : List Nat) (i : Nat), i ∉ vs → (wipD Γ vs)[i]? = Γ[i]? := by
    intro vs i
    induction vs with
    | nil => intro _; rfl
    | cons v vs ih =>
      intro h
      unfold wipD
      rw [List.getElem?_set_ne (fun (z : v = i) => h (by rw [z]; exact List.mem_cons_self)), ih fun z => h (List.mem_cons_of_mem _ z)]
  refine ⟨by rw [L2.wipe_length, lw]; exact e.ls, by rw [lw]; exact e.lf, by rw [lw]; exact e.lt, fun i m o fp h1 h2 h3 => ?_, e.nd, e.out, e.mine, fun q hq => by rw [wipe_get _ _ (hp q hq)]; exact e.pin q hq, e.fr, e.f0, e.keep, e.there, e.new, e.w, e.wm, e.tg, e.po⟩
  by_cases hi : i ∈ vs
  · have hl : i < Γ.length := by rw [← e.lt]; exact (List.getElem?_eq_some_iff.mp h1).1
    rw [gw vs i hi hl] at h2
    cases h2
    obtain ⟨t, ht⟩ := hΘ i hi
    rw [ht] at h1
    cases h1
    obtain ⟨o, fp', h4, h5⟩ := e.fpAt ht
    rw [h3] at h5
    cases h5
    have s := e.slot i _ o fp ht h4 h3
    cases o with
    | none => exact s
    | some d => exact s.1
  · rw [gn vs i hi] at h2
    rw [wipe_get _ _ hi]
    exact e.slot i m o fp h1 h2 h3
/-- .. and told again -/
def unwip (Γ0 Γ : Env) : List Nat → Env
  | [] => Γ
  | v :: vs => (unwip Γ0 Γ vs).set v ((Γ0[v]?).getD none)
theorem unwip_len (Γ0 Γ : Env) : ∀ vs : List Nat, (unwip Γ0 Γ vs).length = Γ.length
  | [] => rfl
  | v :: vs => by unfold unwip; rw [List.length_set, unwip_len Γ0 Γ vs]
theorem unwip_in {Γ0 Γ : Env} {i : Nat} (hl : i < Γ.length) (hl0 : i < Γ0.length) : ∀ vs : List Nat, i ∈ vs → (unwip Γ0 Γ vs)[i]? = Γ0[i]?
  | v :: vs, h => by
    unfold unwip
    by_cases z : v = i
    · subst z
      rw [List.getElem?_set_self (by rw [unwip_len]; exact hl), List.getElem?_eq_getElem hl0]
      rfl
    · rw [List.getElem?_set_ne z]
      exact unwip_in hl hl0 vs ((List.mem_cons.mp h).resolve_left fun y => z y.symm)
theorem unwip_no {Γ0 Γ : Env} {i : Nat} : ∀ vs : List Nat, i ∉ vs → (unwip Γ0 Γ vs)[i]? = Γ[i]?
  | [], _ => rfl
  | v :: vs, h => by
    unfold unwip
    rw [List.getElem?_set_ne (fun (z : v = i) => h (by rw [z]; exact List.mem_cons_self)), unwip_no vs fun z => h (List.mem_cons_of_mem _ z)]
theorem EnvR.unwip (e0 : EnvR G Θ B F H σ Γ fps) (hΘ : ∀ i ∈ vs, ∃ t, Θ[i]? = some (.bor t)) (e : EnvR G Θ B F2 H2 (L2.wipe σ vs) Γ2 fps2) (s : Same F F2) : EnvR G Θ B F2 H2 σ (Y.unwip Γ Γ2 vs) fps2 := by
  have l2 : Γ2.length = Γ.length := by rw [← e.lt, e0.lt]
  refine ⟨by rw [unwip_len, l2]; exact e0.ls, by rw [unwip_len]; exact e.lf, by rw [unwip_len]; exact e.lt, fun i m o fp h1 h2 h3 => ?_, e.nd, e.out, e.mine, e0.pin, e.fr, e.f0, e.keep, e.there, e.new, e.w, e.wm, e.tg, e.po⟩
  have hl : i < Γ.length := by rw [← e0.lt]; exact (List.getElem?_eq_some_iff.mp h1).1
  by_cases hi : i ∈ vs
  · rw [unwip_in (by rw [l2]; exact hl) hl vs hi] at h2
    obtain ⟨t, ht⟩ := hΘ i hi
    rw [ht] at h1
    cases h1
    obtain ⟨o', fp0, h4, h5⟩ := e0.fpAt ht
    rw [h2] at h4
    cases h4
    have s0 := e0.slot i _ o fp0 ht h2 h5
    obtain ⟨o2, fp2, h6, h7⟩ := e.fpAt ht
    rw [h3] at h7
    cases h7
    have s2 := e.slot i _ o2 fp ht h6 h3
    have z : fp = [] := by cases o2 with | none => exact s2 | some d => exact s2.1
    subst z
    cases o with
    | none => rfl
    | some d =>
      obtain ⟨_, u, a, b⟩ := s0
      exact ⟨rfl, u, a, b.mono s (.refl _)⟩
  · rw [unwip_no vs hi] at h2
    have := e.slot i m o fp h1 h2 h3
    rwa [wipe_get _ _ hi] at this
/-- a new object that is not the state's is changed -/
theorem EnvR.updNew {p : Addr} {o : HO} (e : EnvR G Θ B F H σ Γ fps) (h0 : B.H0 p = none) (hF : F p = none) (hf : p ∉ fps.flatten) : EnvR G Θ B F (upd H p o) σ Γ fps := by
  refine ⟨e.ls, e.lf, e.lt, fun i m o' fp h1 h2 h3 => (e.slot i m o' fp h1 h2 h3).mono (.refl _) fun a ha u hu => upd_keep hu fun z => hf (by rw [← z]; exact flat_mem h3 ha), e.nd, e.out, e.mine, e.pin, fun a u h => upd_keep (e.fr a u h) fun z => (by subst z; rw [hF] at h; cases h), e.f0, fun a u h n => upd_keep (e.keep a u h n) fun z => (by subst z; rw [h0] at h; cases h), fun a h => ?_, e.new, e.w, e.wm, e.tg, e.po⟩
  by_cases z : a = p
  · subst z; exact h0
  · rw [upd_ne z] at h; exact e.there a h
/-- a target within a comprehension -/
def EtA (G : KC) (Θ : List Md) (vs : List Nat) (g : TG) (gf : GF) : Prop := ∀ (B : Bs) (F H : Hp) (σ : L2.St) (Γ : Env) (fps : List (List Addr)) (v : V) (d : D), (∀ q ∈ B.pins, q.1 ∉ vs) → EnvR G Θ B F H σ Γ fps → R G F v d →
  ∀ QQ : L2.St → Hp → Prop, (∃ Γ', gf d Γ = some Γ' ∧ ∀ σ' fps', EnvR G Θ B F H σ' Γ' fps' → Agr vs σ σ' → fps'.flatten = fps.flatten → QQ σ' H) → g v σ H QQ
def EtsA (G : KC) (Θ : List Md) (vs : List Nat) (g : TGs) (gf : List D → Env → Option Env) : Prop := ∀ (B : Bs) (F H : Hp) (σ : L2.St) (Γ : Env) (fps : List (List Addr)) (us : List V) (ds : List D), (∀ q ∈ B.pins, q.1 ∉ vs) → EnvR G Θ B F H σ Γ fps → RA G F us ds →
  ∀ QQ : L2.St → Hp → Prop, (∃ Γ', gf ds Γ = some Γ' ∧ ∀ σ' fps', EnvR G Θ B F H σ' Γ' fps' → Agr vs σ σ' → fps'.flatten = fps.flatten → QQ σ' H) → g us σ H QQ
theorem flat_same {i : Nat} {l : List (List Addr)} (h : l[i]? = some []) : (l.set i []).flatten = l.flatten := by
  have : l.set i [] = l := by
    apply List.ext_getElem?
    intro j
    by_cases z : i = j
    · subst z
      rw [List.getElem?_set_self (List.getElem?_eq_some_iff.mp h).1, h]
    · rw [List.getElem?_set_ne z]
  rw [this]
theorem eta_name {i : Nat} (hi : i ∈ vs) (hm : Θ[i]? = some (.bor t)) : EtA G Θ vs (gName i) (tgN i) := fun B F H σ Γ fps v d hp e r QQ ⟨Γ', z, k⟩ => by
  cases z
  obtain ⟨o, fp, h1, h2⟩ := e.fpAt hm
  have s := e.slot i _ o fp hm h1 h2
  have z : fp = [] := by cases o with | none => exact s | some d => exact s.1
  subst z
  refine k _ (fps.set i []) ?_ ⟨List.length_set, fun j hj => List.getElem?_set_ne (fun (z : i = j) => hj (by rw [← z]; exact hi))⟩ (flat_same h2)
  have hl : i < σ.length := by rw [e.ls]; exact (List.getElem?_eq_some_iff.mp h1).1
  exact e.put (v := some v) hm h2 (fun j hj => List.getElem?_set_ne (Ne.symm hj)) List.length_set (by rw [List.getElem?_set_self hl]; exact ⟨rfl, v, rfl, .fr r⟩) List.nodup_nil (fun a ha => absurd ha List.not_mem_nil) (fun a ha => absurd ha List.not_mem_nil) (fun a ha => absurd ha List.not_mem_nil) (fun q hq z => absurd hi (by rw [← z]; exact hp q hq)) (fun _ _ h _ => h) (fun _ h => h)
theorem etsa_nil : EtsA G Θ vs gNil tgNil := fun B F H σ Γ fps us ds hp e r QQ ⟨Γ', z, k⟩ => by
  cases r with
  | nil => cases z; exact ⟨rfl, k σ fps e ⟨rfl, fun _ _ => rfl⟩ rfl⟩
  | cons _ _ => cases z
theorem etsa_cons (h : EtA G Θ vs g gf) (h2 : EtsA G Θ vs gs gfs) : EtsA G Θ vs (gCons g gs) (tgCons gf gfs) := fun B F H σ Γ fps us ds hp e r QQ ⟨Γ', z, k⟩ => by
  cases r with
  | nil => cases z
  | @cons v us d ds r1 r2 =>
    have z' : (gf d Γ).bind (fun Γ1 => gfs ds Γ1) = some Γ' := z
    cases y : gf d Γ with
    | none => rw [y] at z'; cases z'
    | some Γ1 =>
      rw [y] at z'
      exact ⟨_, _, rfl, h B F H σ Γ fps _ _ hp e r1 _ ⟨Γ1, y, fun σ1 fps1 e1 a1 f1 => h2 B F H σ1 Γ1 fps1 _ _ hp e1 r2 QQ ⟨Γ', z', fun σ2 fps2 e2 a2 f2 => k σ2 fps2 e2 ⟨a2.1.trans a1.1, fun i hi => (a2.2 i hi).trans (a1.2 i hi)⟩ (f2.trans f1)⟩⟩⟩
theorem eta_tup {n : Nat} (hn : tgLen n gfs) (h : EtsA G Θ vs gs gfs) : EtA G Θ vs (gTup G.K n gs) (tgT gfs) := fun B F H σ Γ fps v d hp e r QQ ⟨Γ', z, k⟩ => by
  cases d with
  | tup ds =>
    obtain ⟨b, us, rfl, h1, r1⟩ := R_tup r rfl
    exact ⟨b, us, rfl, same_t e.fr h1, by rw [r1.len]; exact hn ds Γ Γ' z, h B F H σ Γ fps us ds hp e r1 QQ ⟨Γ', z, k⟩⟩
  | _ => cases z
/-- no exception comes out -/
def nX {α : Type} : Ou α → Ou α
  | .ok a Γ => .ok a Γ
  | _ => .no
@[simp] theorem nX_ok {α : Type} (a : α) (Γ : Env) : nX (Ou.ok a Γ) = .ok a Γ := rfl
def mapE (g : GF) (tt : Env → Ou Bool) (fe : Env → Ou D) (vs : List Nat) : List D → Env → Ou (List D)
  | [], Γ => .ok [] Γ
  | d :: ds, Γ => match g d Γ with
    | none => .no
    | some Γ1 => (nX (tt Γ1)).bind fun b Γ2 => if b = true then (nX (fe Γ2)).bind fun y Γ3 => (mapE g tt fe vs ds (wipD Γ3 vs)).bind fun es Γ4 => .ok (y :: es) Γ4 else mapE g tt fe vs ds (wipD Γ2 vs)
def eLc (fi : Env → Ou (List D)) (g : GF) (tt : Env → Ou Bool) (fe : Env → Ou D) (vs : List Nat) : Env → Ou D := fun Γ => (fi Γ).bind fun ds Γ1 =>
  if ds.length ≤ 4000000 then (mapE g tt fe vs ds (wipD Γ1 vs)).bind fun es Γ2 => .ok (.lst es) (unwip Γ1 Γ2 vs) else .no
/-- the pins of a base keep off the comprehension's own slots -/
def Off (pn : List Nat) (vs : List Nat) : Prop := ∀ i ∈ vs, i ∉ pn
theorem EQ.grow {α β : Type} {Ex : XK} {rel : RelE β α} {Q : β → Hp → Prop} {z : Ou α} (s : Same F F') (q : EQ G Θ B Ex F σ rel Q z) : EQ G Θ B Ex F' σ rel Q z := by
  cases z with
  | ok a Γ => exact fun b F2 H2 fps2 fp2 e2 s2 => q b F2 H2 fps2 fp2 e2 (s.trans s2)
  | ex c fs Γ => exact fun dd F2 H2 fps2 e2 s2 => q dd F2 H2 fps2 e2 (s.trans s2)
  | no => exact q
theorem mkE_Θ : True := trivial
theorem ef_lc {fi : Env → Ou (List D)} (hΘ : ∀ i ∈ vs, ∃ t, Θ[i]? = some (.bor t)) (hi : EfI G Θ E wi fi) (hg : EtA G Θ vs g gf) (ht : EfB G Θ E0k tt fb) (he : EfV G Θ E0k .fz te fe) : EfV G Θ E (.lst .fz) (tLc wi g tt te vs) (eLc fi gf fb fe vs) := fun B F H σ Γ0 fps0 e0 Q q =>
  hi B F H σ Γ0 fps0 e0 _ (q.bind fun ds Γ J F1 H1 fps fp1 e1 s1 r1 n1 m1 q1 => by
    obtain ⟨it, rfl⟩ := r1
    have hB : ∀ q ∈ B.pins, q.1 ∉ vs := fun q hq z => by
      obtain ⟨t, h1⟩ := e1.po q hq
      obtain ⟨t', h2⟩ := hΘ q.1 z
      rw [h1] at h2
      cases h2
    obtain ⟨hl, q1⟩ := EQ.ite q1
    intro Dn hD
    have hD0 : B.H0 Dn = none := e1.there Dn hD
    have nf : Dn ∉ fps.flatten := fun z => by obtain ⟨o, ho⟩ := e1.at z; rw [hD] at ho; cases ho
    have e1w := (e1.wipe hB hΘ).updNew (o := .lst []) hD0 (e1.fr.free hD) nf
    refine ⟨fun k m H' => k + m = ds.length ∧ ∃ Γk Fk fpsk acc es, EnvR G Θ B Fk H' (wipe σ vs) Γk fpsk ∧ Same F1 Fk ∧ Fk Dn = none ∧ Dn ∉ fpsk.flatten ∧ H' Dn = some (.lst acc) ∧ RA G Fk acc es ∧ es.length ≤ k ∧
      EQ G Θ B (E σ) Fk σ (eV G (.lst .fz)) Q ((mapE gf fb fe vs (ds.drop k) Γk).bind fun es' Γ2 => .ok (.lst (es ++ es')) (unwip Γ Γ2 vs)),
      ⟨ds.length, Nat.zero_add _, wipD Γ vs, F1, fps, [], [], e1w, .refl _, e1.fr.free hD, nf, upd_same, .nil, Nat.le_refl _, by simpa using q1⟩, ?_⟩
    rintro k m H' ⟨hk, Γk, Fk, fpsk, acc, es, ek, sk, fD, nD, hd, ra, el, qk⟩
    obtain ⟨i1, i2, i3⟩ := it Θ Fk H' _ Γk fpsk ek sk k
    by_cases lt : k < ds.length
    · refine Or.inr ⟨i1 lt, fun H'' => ∃ Γk Fk fpsk acc es, EnvR G Θ B Fk H'' (wipe σ vs) Γk fpsk ∧ Same F1 Fk ∧ Fk Dn = none ∧ Dn ∉ fpsk.flatten ∧ H'' Dn = some (.lst acc) ∧ RA G Fk acc es ∧ es.length ≤ k + 1 ∧
        EQ G Θ B (E σ) Fk σ (eV G (.lst .fz)) Q ((mapE gf fb fe vs (ds.drop (k + 1)) Γk).bind fun es' Γ2 => .ok (.lst (es ++ es')) (unwip Γ Γ2 vs)), fun H'' w => ⟨m - 1, by omega, by omega, w⟩, fun x H3 hy => ?_⟩
      have hn : ds[k]? = some ds[k] := List.getElem?_eq_getElem lt
      obtain ⟨F3, s3, h3, n3, e3, rx⟩ := i3 x H3 ds[k] hy hn
      have f3 : F3 Dn = none := by
        cases z : F3 Dn with
        | none => rfl
        | some o =>
          rcases n3 Dn o z with y | y
          · rw [fD] at y; cases y
          · rw [hd] at y; cases y
      rw [List.drop_eq_getElem_cons lt] at qk
      unfold mapE at qk
      cases hgf : gf ds[k] Γk with
      | none => rw [hgf] at qk; exact qk.elim
      | some Γ1 =>
        rw [hgf] at qk
        dsimp only at qk
        refine hg B F3 H3 (wipe σ vs) Γk fpsk x ds[k] hB e3 rx _ ⟨Γ1, hgf, fun σ2 fps2 e2 g2 ff => ?_⟩
        refine ⟨wipe_eq (g2.1.trans (wipe_length σ vs)) g2.2, ?_⟩
        have wσ : wipe σ2 vs = wipe σ vs := wipe_eq (g2.1.trans (wipe_length σ vs)) g2.2
        -- the state as a base: the new list stays
        refine ht _ F3 H3 σ2 Γ1 fps2 e2.base _ ?_
        cases hb : fb Γ1 with
        | no => rw [hb] at qk; exact qk.elim
        | ex c fs Γ' => rw [hb] at qk; exact qk.elim
        | ok b Γ2 =>
          rw [hb, nX_ok, Ou.bind_ok] at qk
          intro b' F4 H4 fps4 fp4 e4 s4 r4 nn4 m4
          obtain ⟨rfl, rfl⟩ := r4
          have hd3 : H3 Dn = some (.lst acc) := h3 _ _ hd
          have nD2 : Dn ∉ fps2.flatten := by rw [ff]; exact nD
          have hd4 : H4 Dn = some (.lst acc) := e4.keep Dn _ hd3 nD2
          have nD4 : Dn ∉ fps4.flatten := fun z => (e4.mine Dn z).elim nD2 fun y => by
            have : H3 Dn = none := y
            rw [hd3] at this; cases this
          have f4 : F4 Dn = none := by
            cases z : F4 Dn with
            | none => rfl
            | some o =>
              rcases e4.new Dn o z with y | y | y
              · have : F3 Dn = some o := y
                rw [f3] at this; cases this
              · have : H3 Dn = none := y
                rw [hd3] at this; cases this
              · exact absurd y nD2
          have e4' := e2.back e4
          have s34 := s3.trans s4
          cases b' with
          | false =>
            rw [if_neg Bool.false_ne_true] at qk
            have ew := e4'.wipe hB hΘ
            rw [wσ] at ew
            show ∃ Γk Fk fpsk acc es, EnvR G Θ B Fk H4 (wipe σ vs) Γk fpsk ∧ _
            exact ⟨_, F4, fps4, acc, es, ew, sk.trans s34, f4, nD4, hd4, ra.mono s34, by omega, EQ.grow s34 qk⟩
          | true =>
            rw [if_pos rfl] at qk
            show te σ2 H4 _
            refine he _ F4 H4 σ2 Γ2 fps4 e4'.base _ ?_
            cases hy2 : fe Γ2 with
            | no => rw [hy2] at qk; exact qk.elim
            | ex c fs Γ' => rw [hy2] at qk; exact qk.elim
            | ok yd Γ3 =>
              rw [hy2, nX_ok, Ou.bind_ok] at qk
              intro y F5 H5 fps5 fp5 e5 s5 ry nn5 m5
              have hd5 : H5 Dn = some (.lst acc) := e5.keep Dn _ hd4 nD4
              have nD5 : Dn ∉ fps5.flatten := fun z => (e5.mine Dn z).elim nD4 fun y => by
                have : H4 Dn = none := y
                rw [hd4] at this; cases this
              have f5 : F5 Dn = none := by
                cases z : F5 Dn with
                | none => rfl
                | some o =>
                  rcases e5.new Dn o z with y | y | y
                  · have : F4 Dn = some o := y
                    rw [f4] at this; cases this
                  · have : H4 Dn = none := y
                    rw [hd4] at this; cases this
                  · exact absurd y nD4
              have e5' := e4'.back e5
              have ew := (e5'.wipe hB hΘ).updNew (o := .lst (acc ++ [y])) hD0 f5 nD5
              rw [wσ] at ew
              have s35 := s34.trans s5
              refine ⟨acc, hd5, ?_, _, F5, fps5, acc ++ [y], es ++ [yd], ew, sk.trans s35, f5, nD5, upd_same, (ra.mono s35).snoc ry.fz_r.2, by rw [List.length_append]; simp; omega, ?_⟩
              · rw [ra.len]
                exact Nat.lt_of_le_of_lt (Nat.le_trans el (by omega : k ≤ 4000000)) (by decide)
              · have qk' := EQ.grow s35 qk
                revert qk'
                cases mapE gf fb fe vs (List.drop (k + 1) ds) (wipD Γ3 vs) with
                | ok es' Γ4 => intro qk'; simpa using qk'
                | ex c fs Γ4 => exact fun z => z
                | no => exact fun z => z
    · have ek2 : k = ds.length := by omega
      subst ek2
      rw [List.drop_length] at qk
      refine Or.inl ⟨i2 (Nat.le_refl _), ?_⟩
      have qk' : EQ G Θ B (E σ) Fk σ (eV G (.lst .fz)) Q (.ok (.lst (es ++ [])) (unwip Γ Γk vs)) := qk
      rw [List.append_nil] at qk'
      have e9 := e1.unwip hΘ ek sk
      refine qk' (.ref Dn) Fk H' fpsk [Dn] e9 (.refl _) (.lst hd ?_ (OwnA.of_r ra)) (List.nodup_cons.mpr ⟨nD, ek.nd⟩) fun a ha => ?_
      · cases z : G.tg Dn with
        | none => rfl
        | some n => obtain ⟨u, hu⟩ := e1.tgH Dn n z; rw [hD] at hu; cases hu
      · cases List.mem_singleton.mp ha
        exact ⟨fD, Or.inr hD0⟩)
end
end Y

namespace Y
open PySem PySem.Spec PyProof.Rows L2 Z

/-! ## the law's own call -/
section
variable {P : Program} {w : World} {K : PySem.W.Frag} {mg mb : Str → Option Value} {CX : CXT} {k : Nat} {fa a : Addr} {fd : FuncData} {x : Str} {sp : Sp} {s₁ : Shared} {vs : List Value} {ns : List Int}
/-- what is tracked ahead of the law: nothing, or its script, locked -/
structure Ahead (P : Program) (w : World) (K : PySem.W.Frag) (h : Heap) (a : Addr) (ns : List Int) (H : Hp) : Prop where
  only : ∀ b u, H b = some u → b = a ∧ ∃ o, u = .frz o (.lst (ns.map V.int))
  sq : SqL K H a (ns.map V.int)
  ok : HOk P w H h
  no : H a ≠ none → K.lookup a = none
theorem ahead (KX : K.In s₁.heap) (ha : s₁.heap.get? a = some { cls := .type "list", data := .seq vs.toArray }) (hi : IntsAre vs ns) (hl : ns.length ≤ sizeLine) : ∃ H, Ahead P w K s₁.heap a ns H := by
  have rv : Vals (ns.map V.int) vs := vals_ints hi
  cases hk : K.lookup a with
  | some o =>
    have e := KX a o hk
    rw [ha] at e
    cases e
    have nn : ∀ (u : HO), (none : Option HO) ≠ some u := fun u z => by cases z
    refine ⟨fun _ => none, Ahead.mk (fun b u z => absurd z (nn u)) (Or.inr ⟨_, vs.toArray, _, hk, rfl, rfl, rfl, ?_, by simpa using rv⟩) (fun b u z => absurd z (nn u)) (fun z => absurd rfl z)⟩
    rw [List.size_toArray, hi.length]
    exact hl
  | none =>
    have val : ∀ (b : Addr) (u : HO), (if b = a then some (HO.frz { cls := .type "list", data := .seq vs.toArray } (.lst (ns.map V.int))) else none) = some u → b = a ∧ u = HO.frz { cls := .type "list", data := .seq vs.toArray } (.lst (ns.map V.int)) := by
      intro b u z
      split at z
      · rename_i e
        exact ⟨e, (Option.some.inj z).symm⟩
      · cases z
    refine ⟨fun b => if b = a then some (.frz { cls := .type "list", data := .seq vs.toArray } (.lst (ns.map V.int))) else none, Ahead.mk (fun b u z => ?_) (Or.inl (Or.inr ⟨_, if_pos rfl⟩)) (fun b u z => ?_) (fun _ => hk)⟩
    · obtain ⟨e1, e2⟩ := val b u z
      exact ⟨e1, _, e2⟩
    · obtain ⟨e1, e2⟩ := val b u z
      subst e1 e2
      exact ⟨ha, by rw [List.length_map]; exact hl, vs, _, rv, ha⟩
theorem law_cG (KX : K.In s₁.heap) (hns : s₁.heap.Ns mainGlobals mg) (hb : s₁.heap.Ns builtinsNs mb) (hbb : ∀ x : Str, x ≠ "__name__" → mb x = bootBuiltins x) (hlim : s₁.heap.NoLimit) (hg : s₁.gens = #[])
    (ha : s₁.heap.get? a = some { cls := .type "list", data := .seq vs.toArray }) (hi : IntsAre vs ns) (hl : ns.length ≤ sizeLine) (hr : Room k callerA)
    (F : ∀ base : Heap, K.In base → base.Ns mainGlobals mg → FnG P w K mg base CX k fa fd [x] sp) (hbind : ∀ (s : Shared) (u : Value), BindsTo s fd ⟨[u], []⟩ [(x, u)])
    (hsp : ∀ H : Hp, SqL K H a (ns.map V.int) → sp [.ref a] H (fun v _ => v = .bl true) fun _ _ _ => False) (hCX : ∀ H e s', CX [] H s₁ (fun _ _ _ => False) e s' → False) :
    codeAny (model P w) callerA (.call (.ref fa) ⟨[.ref a], []⟩) (fun r s' => r = .ok (.ret (.bool true)) ∧ OldK s₁.heap s'.heap ∧ s'.os = s₁.os ∧ AllBare s'.gens) s₁ := by
  obtain ⟨H, T⟩ := ahead (P := P) (w := w) KX ha hi hl
  have nodict : ∀ {b : Addr} {o : Obj} {es : Array DictEntry} {ep : Nat}, s₁.heap.get? b = some o → o.data = .dict es ep → H b = none := by
    intro b o es ep e d
    cases q : H b with
    | none => rfl
    | some u =>
      rw [(T.only b u q).1, ha] at e
      cases e
      cases d
  have nsB : ∀ {b : Addr} {m : Str → Option Value}, s₁.heap.Ns b m → (hidT s₁.heap H).Ns b m := by
    rintro b m ⟨o, es, ep, e, d, r⟩
    exact ⟨o, es, ep, hidT_get e (nodict e d), d, r⟩
  have kB : K.In (hidT s₁.heap H) := by
    intro b o e
    refine hidT_get (KX b o e) ?_
    cases q : H b with
    | none => rfl
    | some u =>
      have eb := (T.only b u q).1
      rw [eb] at e q
      rw [T.no (by rw [q]; simp)] at e
      cases e
  obtain ⟨mc, l1, l2⟩ := hlim
  have md : Mod K mg (hidT s₁.heap H) := ⟨kB, nsB hns, ⟨mb, nsB hb, hbb⟩, ⟨mc, nsB l1, l2⟩⟩
  have e0 : Env0 P w K mg (hidT s₁.heap H) callerA [] s₁ H := ⟨rfl, md, fun b o e => of_hidT e, Nat.le_of_eq (hidT_size _ _), trivial, fun b z => (List.not_mem_nil z).elim, T.ok, .of_eq hg⟩
  refine codeAny_mono ((F _ kB (nsB hns)).go callerA [] s₁ H ⟨[.ref a], []⟩ [.ref a] [.ref a] _ _ hr rfl e0 (hbind s₁ (.ref a)) (.cons rfl .nil) (hsp H T.sq)) ?_
  intro r s' h
  match r, h with
  | .error e, h => exact (hCX H e s' h).elim
  | .ok (.ret u), h =>
    obtain ⟨v, H', os, bare, un, hok', r', q⟩ := h
    have q' : v = .bl true := q
    subst q'
    cases r'
    refine ⟨rfl, OldK.of_keep fun b o e => ?_, os, bare⟩
    cases q : H b with
    | none => exact un.keep b o e q (fun z => List.not_mem_nil z) (fun z => List.not_mem_nil z)
    | some u =>
      obtain ⟨_, ob, rfl⟩ := T.only b u q
      have z1 := (T.ok b _ q).1
      have z2 := (hok' b _ (un.frzs b ob _ q)).1
      rw [e] at z1
      cases z1
      exact z2
/-- the law's promise: True at every script -/
def spLaw (K : PySem.W.Frag) : Sp := fun vs H Q _ => ∃ (a : Addr) (ns : List Int), vs = [.ref a] ∧ SqL K H a (ns.map V.int) ∧ ns.length ≤ 63 ∧ ∀ H', Q (.bl true) H'
theorem walk_G {l : PySem.W.OpenLaw} {k : Nat} {q : Program} {loose : List Str} {XP : (Str → Option Value) → Heap → Prop} {YP : World → Heap → Prop} {d : DefRec} {K : Params → PySem.W.Frag} {x : Str}
    (hn : l.most = some 63) (hdf : d.params.defaults = []) (hr : Room k callerA) (hY : ∀ (w : World) (h : Heap), YP w h → (K w.params).In h)
    (F : ∀ (w : World) (mg : Str → Option Value) (fa : Addr) (h : Heap), (K w.params).In h → h.Ns mainGlobals mg → mg d.name = some (.ref fa) →
      ∃ fd : FuncData, (∀ (s : Shared) (u : Value), BindsTo s fd ⟨[u], []⟩ [(x, u)]) ∧
        ∀ base : Heap, (K w.params).In base → base.Ns mainGlobals mg → FnG l.prog w (K w.params) mg base (L2.CX l.prog w) k fa fd [x] (spLaw (K w.params))) :
    PySem.W.WalkO q loose XP YP l.row.toRowW d [] (fun f vs => PySem.call f vs) := by
  apply Att.attach_call hn hdf
  intro w s₀ s₁ mg mb fa o pm cd doc a vs ns G Y ho hd hcd hmg hobj hints hlen hg
  have kx := hY w _ Y
  obtain ⟨fd, hb, hF⟩ := F w mg fa _ kx G.T.g hmg
  refine law_cG kx G.T.g G.T.b G.T.builtins G.T.nolimit hg hobj hints (Nat.le_trans hlen (by decide)) hr hF hb (fun H hS => ⟨a, ns, rfl, hS, hlen, fun _ => rfl⟩) ?_
  intro H e s' z
  obtain ⟨_, _, _, _, _, _, _, _, _, _, _, _, z⟩ := z
  exact z
end
section
variable {P : Program} {w : World} {K : PySem.W.Frag} {mg : Str → Option Value} {base : Heap} {CX : CXT} {G : KC}
theorem fnG_imp {k : Nat} {f : Addr} {fd : FuncData} {ps : List Str} {sp sp' : Sp} (F : FnG P w K mg base CX k f fd ps sp) (h : ∀ vs H Q E, sp' vs H Q E → sp vs H Q E) : FnG P w K mg base CX k f fd ps sp' :=
  ⟨fun vs H Q E q => F.len vs H Q E (h vs H Q E q), fun A outer s H args us vs Q E hr hG e0 hb rv q => F.go A outer s H args us vs Q E hr hG e0 hb rv (h vs H Q E q)⟩
theorem sp_law {sf : List D → Ou D} (htg : G.tg = fun _ => none) (h : ∀ ns : List Int, ns.length ≤ 63 → ∃ Γ, sf [.lst (ns.map D.int)] = .ok (.bl true) Γ) : ∀ vs H Q E, spLaw G.K vs H Q E → spF G [.scr] .fz sf vs H Q E := fun vs H Q E ⟨a, ns, e, hs, hl, q⟩ => by
  subst e
  obtain ⟨Γ, hr⟩ := h ns hl
  refine ⟨H, H, [.lst (ns.map D.int)], [[]], .cons ⟨rfl, a, ns, rfl, rfl, hs⟩ .nil, by simp, fun a z => (by simp at z), .refl _, .refl _, fun a n z => (by rw [htg] at z; cases z), ?_⟩
  rw [hr]
  intro v F' H' fpr fps p ow outs nd k
  have := ow.fz_r.2
  cases this
  exact q H'
end
/-! ## the rules, their part of the heap told -/
section
variable {X : Cx} {K : PySem.W.Frag}
theorem oK {op : Value → Value → Sem Value} (r : PySem.W.Frag → R2) (h : X.K = K) (o : OpR X op (r X.K)) : OpR X op (r K) := h ▸ o
theorem cK {f : Value} (r : PySem.W.Frag → List V → Hp → VK → Prop) (h : X.K = K) (o : CallR X f (r X.K)) : CallR X f (r K) := h ▸ o
theorem ckK {f : Value} {ks : List Str} (r : PySem.W.Frag → List V → List V → Hp → VK → Prop) (h : X.K = K) (o : CallRK X f ks (r X.K)) : CallRK X f ks (r K) := h ▸ o
theorem ixK (h : X.K = K) (hu : X.A.units + 1 < cLine) : IxR X (rIxU K) := h ▸ ix_u hu
theorem slK (h : X.K = K) : L2.SlR X (rSlU K) := h ▸ sl_u
theorem pi_seqK {tg l : Expr} {tl : TE} (h : X.K = K) (hl : PE X l tl) : PI X tg l (iSeq K tl) := h ▸ pi_seq hl
theorem pi_enumK {e : Expr} {ta : TA} {p pos tpos : Pos} {elts : List Expr} {kk : Nat} (h : X.K = K) (hg : Gl X "enumerate") (hm : X.mg "enumerate" = none) (ha : PA X [e] ta) (hs : starEach [e] X.env = [(false, eval e X.env)] := by rfl) :
    PI X (.Tuple elts kk tpos) (.Call (.Name "enumerate" p) [e] [] pos) (iEnum K ta) := h ▸ pi_enum hg hm ha hs
theorem pi_zipK {e e2 : Expr} {ta : TA} {p pos tpos : Pos} {elts : List Expr} {kk : Nat} (h : X.K = K) (hg : Gl X "zip") (hm : X.mg "zip" = none) (ha : PA X [e, e2] ta)
    (hs : starEach [e, e2] X.env = (false, eval e X.env) :: starEach [e2] X.env := by rfl) (hpl : (backTo pos (starEach [e2] X.env)).any (·.1) = false := by rfl) :
    PI X (.Tuple elts kk tpos) (.Call (.Name "zip" p) [e, e2] [] pos) (iZip K ta) := h ▸ pi_zip hg hm ha hs hpl
theorem pg_tupK {es : List Expr} {k : Nat} {t : TGs} {n : Nat} {pos : Pos} (h : X.K = K) (hc : X.calm = true) (hs : PGs X es t)
    (hn : (assignEach es X.env).length = n := by rfl) (hst : (assignEach es X.env).findIdx? (·.1) = none := by rfl) : PG X (.Tuple es k pos) (gTup K n t) := h ▸ pg_tup hc hs hn hst
theorem pe_bmK {a : String} {o e : Expr} {es : List Expr} {to : TE} {t : TA} {name : Str} {apos cpos : Pos} {T id : String} {r : V → List V → Hp → VK → Prop} (h : X.K = K) (pa : PlainAttrs T) (slot : Slot T name id) (hty : typeOf (.builtin id) = pure (.type "method_descriptor")) (hm : MtR X id r) (ho : PE X o to) (ha : PA X (e :: es) t)
    (hbase : attributeBase o name X.env (eval o X.env) = eval o X.env := by rfl)
    (hfew : ((backTo cpos (starEach (e :: es) X.env)).all (fun x => !x.1) && (backToKw cpos (keywordEach [] X.env)).all (fun x => x.1.isSome)
      && decide ((e :: es).length + ([] : List Keyword).length + (if ([] : List Keyword).isEmpty then 0 else 1) < 30)) = true := by rfl)
    (hline : (apos.endLine == cpos.line) = true := by rfl) (hs : starEach (e :: es) X.env = (false, eval e X.env) :: starEach es X.env := by rfl) (hplain : (backTo cpos (starEach es X.env)).any (·.1) = false := by rfl) :
    PE X (.Call (.Attribute o name apos) (e :: es) [] cpos) (tBM K T r to t) := h ▸ pe_bm pa slot hty hm ho ha hbase hfew hline hs hplain
theorem pe_gi {x : Str} {i : Int} {pos : Pos} (hg : Gl X x) (h : ∃ t, X.mg x = some (.int i t)) (hd : (x == ("__debug__" : Str)) = false := by decide) : PE X (.Name x pos) (tC (.int i)) := by
  obtain ⟨t, ht⟩ := h
  exact pe_glob hg ht ⟨t, rfl⟩ hd
theorem pe_gs {x : Str} {i : Str} {pos : Pos} (hg : Gl X x) (h : ∃ t, X.mg x = some (.str i t)) (hd : (x == ("__debug__" : Str)) = false := by decide) : PE X (.Name x pos) (tC (.str i)) := by
  obtain ⟨t, ht⟩ := h
  exact pe_glob hg ht ⟨t, rfl⟩ hd
theorem pz (σ : L2.St) : PassesAt (L2.CX X.prog X.w) X σ (E0k σ) := fun pins H s e s' I c => by
  obtain ⟨_, _, _, _, _, _, _, _, _, _, _, _, z⟩ := c
  exact z.elim
theorem hu70 {A : Around} {k : Nat} (h : Room k A) : A.units + 70 < cLine := by have := h.un; omega
theorem hu65 {A : Around} {k : Nat} (h : Room k A) : A.units + 65 < cLine := by have := h.un; omega
theorem hu64 {A : Around} {k : Nat} (h : Room k A) : A.units + 64 < cLine := by have := h.un; omega
theorem hu1 {A : Around} {k : Nat} (h : Room k A) : A.units + 1 < cLine := by have := h.un; omega
end
/-! ## the script's cell -/
section
variable {G : KC} {Θ : List Md} {E : EK} {te ta : TE} {t : T} {pf : Env → Rs D} {i : Nat}
/-- len(script) -/
theorem ev_lenS (hm : Θ[i]? = some .scr) : EvV G Θ E .fz (tCB (rLenU G.K) (tCons (tVar i) tNil)) (pArg opLen (pCons (pVar i) pNil)) := fun O U H σ Γ a Q q => by
  obtain ⟨d, hd, q2⟩ := pVar_some (P := fun z => PQ G O (E σ) U H (rV G O .fz) Q ((z.bind fun x => (pNil Γ).bind fun xs => .ok (x :: xs)).bind opLen)) q (fun z => z)
  obtain ⟨v, e, p, ns, rfl, rfl, hs⟩ := a.sl i _ d hm hd
  have q3 : PQ G O (E σ) U H (rV G O .fz) Q (.ok (.int ((ns.map D.int).length : Nat))) := q2
  refine ⟨_, e, Or.inl ⟨_, (ns.map V.int).length, rfl, Or.inl ⟨_, same_l (fz_le.trans a.g.s) hs, rfl⟩, ?_⟩⟩
  rw [List.length_map] at q3 ⊢
  exact q3.fin a.g.s (.fr (.int _))
/-- script[k] -/
theorem ev_ixS (hm : Θ[i]? = some .scr) (hk : EvV G Θ E t ta pf) : EvV G Θ E .fz (tOp (rIxU G.K) (tVar i) ta) (pOp opIx (pVar i) pf) := fun O U H σ Γ a Q q => by
  obtain ⟨d, hd, q2⟩ := pVar_some (P := fun z => PQ G O (E σ) U H (rV G O .fz) Q (z.bind fun x => (pf Γ).bind fun y => opIx x y)) q (fun z => z)
  obtain ⟨v, e, p, ns, rfl, rfl, hs⟩ := a.sl i _ d hm hd
  rw [Rs.bind_ok] at q2
  refine ⟨_, e, hk O U H σ Γ a _ (q2.bind fun y w U2 H2 g2 r2 q => ?_)⟩
  cases y with
  | int j =>
    obtain ⟨d, hd, q⟩ := PQ_ofO (show PQ G O (E σ) U2 H2 (rV G O .fz) Q (ofO (L2.atI (ns.map D.int) j)) from q)
    have ⟨z, hz, ez⟩ : ∃ z, L2.atI (ns.map V.int) j = some (.int z) ∧ d = .int z := by
      unfold L2.atI at hd ⊢
      rw [List.length_map] at hd ⊢
      cases y : ixN ns.length j with
      | none => rw [y] at hd; cases hd
      | some m =>
        rw [y] at hd
        have hd' : (ns.map D.int)[m]? = some d := hd
        show ∃ z, (ns.map V.int)[m]? = some (.int z) ∧ d = .int z
        rw [List.getElem?_map] at hd' ⊢
        cases x : ns[m]? with
        | none => rw [x] at hd'; cases hd'
        | some z => rw [x] at hd'; cases hd'; exact ⟨z, rfl, rfl⟩
    subst ez
    exact Or.inl (Or.inl ⟨p, _, j, .int z, rfl, int_of r2, same_l (fz_le.trans (a.g.s.trans g2.h)) hs, hz, q.fin (a.grow g2).g.s (.fr (.int _))⟩)
  | _ => exact q.elim
end
/-! ## several at once -/
/-- a, b = e1, e2 -/
def sPar (i j : Nat) (f g : Env → Ou D) : Env → So := fun Γ => (f Γ).so fun d Γ1 => (g Γ1).so fun d2 Γ2 => .nx ((Γ2.set i (some d)).set j (some d2))
def sPar3 (i j l : Nat) (f g h : Env → Ou D) : Env → So := fun Γ => (f Γ).so fun d Γ1 => (g Γ1).so fun d2 Γ2 => (h Γ2).so fun d3 Γ3 => .nx (((Γ3.set i (some d)).set j (some d2)).set l (some d3))
section
variable {G : KC} {Θ : List Md} {E : EK} {B : Bs} {F H : Hp} {σ : L2.St} {Γ : Env} {fps : List (List Addr)} {ta tb tc : TE} {t1 t2 t3 rt : T} {f g h : Env → Ou D} {i j l : Nat} {pn : List Nat} {v : V} {d : D} {fp : List Addr} {m m1 m2 m3 : Md}
/-- a slot's kind takes what was made -/
inductive Tk : Md → T → Prop
  | fz (t : T) : Tk (.bor t) .fz
  | own (t : T) : Tk (.own t) t
theorem Tk.slot (k : Tk m t1) (o : Own G F H t1 v d fp) : SlotR G B.W F H m (some (some v)) (some d) fp := by
  cases k with
  | fz t => obtain ⟨rfl, r⟩ := o.fz_r; exact ⟨rfl, v, rfl, .fr r⟩
  | own t => exact ⟨v, rfl, o⟩
theorem set_fl {fps : List (List Addr)} {i : Nat} {fp : List Addr} {a : Addr} (h : a ∈ (fps.set i fp).flatten) : a ∈ fp ∨ a ∈ fps.flatten := by
  obtain ⟨l, hl, ha⟩ := List.mem_flatten.mp h
  rcases List.mem_or_eq_of_mem_set hl with z | z
  · exact Or.inr (List.mem_flatten.mpr ⟨l, z, ha⟩)
  · subst z; exact Or.inl ha
theorem es_par (hi : i ∉ pn) (hj : j ∉ pn) (hm1 : Θ[i]? = some m1) (hm2 : Θ[j]? = some m2) (k1 : Tk m1 t1) (k2 : Tk m2 t2) (ha : EfV G Θ E t1 ta f) (hb : EfV G Θ E t2 tb g) : Es G Θ E pn rt (tPar i j (tCons ta (tCons tb tNil))) (sPar i j f g) := fun B F H σ Γ fps Dn hp en q =>
  ha B F H σ Γ fps en _ (q.exp fun d1 Γ1 v1 F1 H1 fps1 fp1 e1 s1 r1 n1 x1 q => by
    refine hb _ F1 H1 σ Γ1 fps1 e1.base _ ?_
    revert q
    cases g Γ1 with
    | no => exact fun q => q
    | ex c fs Γ2 => exact fun q dd F2 H2 fps2 e2 s2 xr => q dd F2 H2 σ fps2 (e1.back e2) s2 xr
    | ok d2 Γ2 =>
      intro q v2 F2 H2 fps2 fp2 e2 s2 r2 n2 x2
      have e2' := e1.back e2
      have nn1 := List.nodup_append.mp n1
      have nn2 := List.nodup_append.mp n2
      have keep1 : ∀ a ∈ fp1, ∀ o, H1 a = some o → H2 a = some o := fun a ha o ho => e2.keep a o ho fun z => nn1.2.2 a ha a z rfl
      have r1' := r1.mono s2 keep1
      have st1 : ∀ a ∈ fp1, ∃ o, H1 a = some o := r1.at
      have off1 : ∀ a ∈ fp1, a ∉ fps2.flatten ∧ a ∉ fp2 ∧ F2 a = none := fun a ha => by
        obtain ⟨o, ho⟩ := st1 a ha
        have na : a ∉ fps1.flatten := fun z => nn1.2.2 a ha a z rfl
        refine ⟨fun z => ?_, fun z => ?_, ?_⟩
        · rcases e2.mine a z with y | y
          · exact na y
          · have : H1 a = none := y
            rw [ho] at this; cases this
        · rcases (x2 a z).2 with y | y
          · exact na y
          · have : H1 a = none := y
            rw [ho] at this; cases this
        · cases z : F2 a with
          | none => rfl
          | some u =>
            rcases e2.new a u z with y | y | y
            · have : F1 a = some u := y
              rw [(x1 a ha).1] at this; cases this
            · have : H1 a = none := y
              rw [ho] at this; cases this
            · exact absurd y na
      have x2' : ∀ a ∈ fp2, F2 a = none ∧ (a ∈ B.M ∨ B.H0 a = none) := fun a ha => ⟨(x2 a ha).1, (x2 a ha).2.elim (fun z => e1.mine a z) fun z => Or.inr (e1.there a z)⟩
      have e3 := e2'.setV (v := v1) (d := d1) hp hi hm1 (k1.slot r1') (List.nodup_append.mpr ⟨nn1.1, e2'.nd, fun a ha b hb z => by subst z; exact (off1 a ha).1 hb⟩) (fun a ha => ⟨(off1 a ha).2.2, (x1 a ha).2⟩)
      have e4 := e3.setV (v := v2) (d := d2) hp hj hm2 (k2.slot r2) (List.nodup_append.mpr ⟨nn2.1, e3.nd, fun a ha b hb z => by
        subst z
        rcases set_fl hb with y | y
        · exact (off1 a y).2.1 ha
        · exact nn2.2.2 a ha a y rfl⟩) x2'
      exact ⟨v1, v2, rfl, q F2 H2 _ _ e4 s2⟩)
end
end Y

namespace Y
open PySem PySem.Spec PyProof.Rows L2 Z

section
variable {G : KC} {Θ : List Md} {E : EK} {tr : TA}
theorem eb_yes : EvB G Θ E tYes bYes := fun O U H σ Γ a Q q => q.fin a.g.s rfl
def itR (n : Nat) (ds : List D) : Rs (List D) := if ds.length = n then itRange ds else .no
theorem fi_r2 {f : Env → Ou (List D)} (h : EfA G Θ E tr f) : EfI G Θ E (iRng2 tr) (eIt (itR 2) f) := fun B F H σ Γ fps e Q q =>
  h B F H σ Γ fps e _ (q.bind fun ds Γ1 vs F1 H1 fps1 fp1 e1 s1 r1 n1 m1 q => by
    unfold itR at q
    by_cases hl : ds.length = 2
    · rw [if_pos hl] at q
      unfold itRange at q
      split at q
      · cases hl
      · obtain ⟨v, w, rfl, rv, rw_⟩ := r1.1.two
        rename_i i j
        by_cases hn : Lm i ∧ Lm j
        · rw [if_pos hn] at q
          cases rv
          cases rw_
          obtain ⟨h1, h2⟩ := hn
          unfold Lm at h1 h2
          exact ⟨i, j, rfl, ⟨by omega, by omega, by omega, by omega⟩, q.fin e1 ⟨iter_fz (U := F1) (it_rng i _), rfl⟩⟩
        · rw [if_neg hn] at q; exact q.elim
      · exact q.elim
    · rw [if_neg hl] at q; exact q.elim)
end
end Y

namespace Y
open PySem PySem.Spec PyProof.Rows L2 Z

/-! ## plain data of small numbers: == and repr -/
mutual
def gI : D → Prop
  | .non => True
  | .bl _ => True
  | .int i => i.natAbs < 10 ^ 70
  | .str x => PyData.strOk x = true
  | .lst xs => gIs xs
  | .tup xs => gIs xs
  | .dic _ => False
  | .obj _ _ => False
  | .cel _ _ => False
def gIs : List D → Prop
  | [] => True
  | x :: xs => gI x ∧ gIs xs
end
mutual
/-- a line for its shown form -/
def wI : D → Nat
  | .non => 5
  | .bl _ => 5
  | .int _ => 71
  | .str x => 10 * x.cps.size + 2
  | .lst xs => wIs xs + 3
  | .tup xs => wIs xs + 3
  | .dic _ => 0
  | .obj _ _ => 0
  | .cel _ _ => 0
def wIs : List D → Nat
  | [] => 0
  | x :: xs => wI x + 2 + wIs xs
end
mutual
def dI : D → Nat
  | .lst xs => dIs xs + 1
  | .tup xs => dIs xs + 1
  | _ => 0
def dIs : List D → Nat
  | [] => 0
  | x :: xs => max (dI x) (dIs xs)
end
mutual
theorem gI_pla : ∀ d : D, gI d → pla d = true
  | .non, _ => by simp [pla]
  | .bl _, _ => by simp [pla]
  | .int _, _ => by simp [pla]
  | .str _, _ => by simp [pla]
  | .lst xs, h => by simp only [pla]; exact gI_plas xs (by simpa only [gI] using h)
  | .tup xs, h => by simp only [pla]; exact gI_plas xs (by simpa only [gI] using h)
  | .dic _, h => by simp [gI] at h
  | .obj _ _, h => by simp [gI] at h
  | .cel _ _, h => by simp [gI] at h
theorem gI_plas : ∀ ds : List D, gIs ds → plas ds = true
  | [], _ => by simp [plas]
  | x :: xs, h => by
    simp only [gIs] at h
    simp only [plas, gI_pla x h.1, gI_plas xs h.2, Bool.and_self]
end
mutual
theorem gI_lay : ∀ d : D, gI d → (toP d).canLay0 = true
  | .non, _ => by simp [toP, PyData.canLay0]
  | .bl _, _ => by simp [toP, PyData.canLay0]
  | .int _, _ => by simp [toP, PyData.canLay0]
  | .str x, h => by simp only [toP, PyData.canLay0]; simpa only [gI] using h
  | .lst xs, h => by simp only [toP, PyData.canLay0]; exact gI_lays xs (by simpa only [gI] using h)
  | .tup xs, h => by simp only [toP, PyData.canLay0]; exact gI_lays xs (by simpa only [gI] using h)
  | .dic _, h => by simp [gI] at h
  | .obj _ _, h => by simp [gI] at h
  | .cel _ _, h => by simp [gI] at h
theorem gI_lays : ∀ ds : List D, gIs ds → PyData.canLayAll0 (toPs ds) = true
  | [], _ => by simp [toPs, PyData.canLayAll0]
  | x :: xs, h => by
    simp only [gIs] at h
    simp only [toPs, PyData.canLayAll0, gI_lay x h.1, gI_lays xs h.2, Bool.and_self]
end
mutual
theorem gI_dep : ∀ d : D, gI d → (toP d).depth = dI d
  | .non, _ => by simp [toP, PyData.depth, dI]
  | .bl _, _ => by simp [toP, PyData.depth, dI]
  | .int _, _ => by simp [toP, PyData.depth, dI]
  | .str x, h => by simp [toP, PyData.depth, dI]
  | .lst xs, h => by simp only [toP, PyData.depth, dI]; rw [gI_deps xs (by simpa only [gI] using h)]
  | .tup xs, h => by simp only [toP, PyData.depth, dI]; rw [gI_deps xs (by simpa only [gI] using h)]
  | .dic _, h => by simp [gI] at h
  | .obj _ _, h => by simp [gI] at h
  | .cel _ _, h => by simp [gI] at h
theorem gI_deps : ∀ ds : List D, gIs ds → PyData.depthAll (toPs ds) = dIs ds
  | [], _ => by simp [toPs, PyData.depthAll, dIs]
  | x :: xs, h => by
    simp only [gIs] at h
    simp only [toPs, PyData.depthAll, dIs, gI_dep x h.1, gI_deps xs h.2]
end
theorem log_70 {n : Nat} (h : n < 10 ^ 70) : n.log2 < 1920 := by
  by_cases z : n = 0
  · subst z; decide
  · have : n < 2 ^ 233 := Nat.lt_of_lt_of_le h (by decide)
    have := (Nat.log2_lt z).mpr this
    omega
mutual
theorem gI_sho : ∀ d : D, gI d → (toP d).showable = true
  | .non, _ => by simp [toP, PyData.showable]
  | .bl _, _ => by simp [toP, PyData.showable]
  | .int i, h => by
    simp only [toP, PyData.showable, decide_eq_true_eq]
    exact log_70 (by simpa only [gI] using h)
  | .str x, h => by simp [toP, PyData.showable]
  | .lst xs, h => by simp only [toP, PyData.showable]; exact gI_shos xs (by simpa only [gI] using h)
  | .tup xs, h => by simp only [toP, PyData.showable]; exact gI_shos xs (by simpa only [gI] using h)
  | .dic _, h => by simp [gI] at h
  | .obj _ _, h => by simp [gI] at h
  | .cel _ _, h => by simp [gI] at h
theorem gI_shos : ∀ ds : List D, gIs ds → PyData.showableAll (toPs ds) = true
  | [], _ => by simp [toPs, PyData.showableAll]
  | x :: xs, h => by
    simp only [gIs] at h
    simp only [toPs, PyData.showableAll, gI_sho x h.1, gI_shos xs h.2, Bool.and_self]
end
theorem toPs_len : ∀ ds : List D, (toPs ds).length = ds.length
  | [] => rfl
  | x :: xs => by simp only [toPs, List.length_cons, toPs_len xs]
mutual
theorem gI_shn : ∀ d : D, gI d → (toP d).shown.length ≤ wI d
  | .non, _ => by
    have e : (PyData.shown .none).length = 4 := rfl
    simp only [toP, wI]
    omega
  | .bl b, _ => by
    have e : (PyData.shown (.bool b)).length ≤ 5 := by cases b <;> decide
    simp only [toP, wI]
    omega
  | .int i, h => by
    have e := int_text_length_le10 (k := 70) (by decide) (show i.natAbs < 10 ^ 70 by simpa only [gI] using h)
    simp only [toP, wI]
    show (Str.ofString (toString i)).length ≤ 71
    rw [PySem.ofString_length]
    exact e
  | .str x, h => by
    have h' : PyData.strOk x = true := by simpa only [gI] using h
    have hx : ∀ c ∈ x.cps.toList, c < 16 ^ 8 := fun c hc => by
      unfold PyData.strOk at h'
      have := (Array.all_eq_true'.mp h') c (by simpa using hc)
      have : c < 0x110000 := by simpa using this
      omega
    have e := StrLaws.reprText_len x hx
    have e2 : x.length = x.cps.size := rfl
    simp only [toP, PyData.shown, wI]
    omega
  | .lst xs, h => by
    have h1 := gI_shns xs (by simpa only [gI] using h)
    have h2 := listText_len_le (PyData.shownAll (toPs xs))
    have h3 := PyData.shownAll_length (toPs xs)
    simp only [toP, PyData.shown, wI]
    omega
  | .tup xs, h => by
    have h1 := gI_shns xs (by simpa only [gI] using h)
    have h2 := tupleText_len_le (PyData.shownAll (toPs xs))
    have h3 := PyData.shownAll_length (toPs xs)
    simp only [toP, PyData.shown, wI]
    omega
  | .dic _, h => by simp [gI] at h
  | .obj _ _, h => by simp [gI] at h
  | .cel _ _, h => by simp [gI] at h
theorem gI_shns : ∀ ds : List D, gIs ds → ((PyData.shownAll (toPs ds)).map (·.length)).sum + 2 * (toPs ds).length ≤ wIs ds
  | [], _ => by simp [toPs, PyData.shownAll, wIs]
  | x :: xs, h => by
    simp only [gIs] at h
    have h1 := gI_shn x h.1
    have h2 := gI_shns xs h.2
    simp only [toPs, PyData.shownAll, wIs, List.map_cons, List.sum_cons, List.length_cons]
    omega
end
/-- good for _law_equal -/
def okE (d : D) : Prop := okD d = true ∧ okR d
theorem okE_of {d : D} (h : gI d) (hw : wI d ≤ 16777216) (hd : dI d ≤ 40) : okE d := by
  have hdp := gI_dep d h
  refine ⟨?_, gI_pla d h, gI_sho d h, Nat.le_trans (gI_shn d h) hw, by rw [hdp]; omega⟩
  have h1 := gI_pla d h
  have h2 := gI_lay d h
  simp only [okD, SeqAt.shaped, h1, h2, hdp, Bool.true_and, decide_eq_true_eq]
  omega
theorem okE_int {i : Int} (h : -(10 ^ 60) ≤ i ∧ i ≤ 10 ^ 60) : okE (.int i) := okE_of (by simp only [gI]; omega) (by simp only [wI]; omega) (by simp only [dI]; omega)
theorem okE_bl {b : Bool} : okE (.bl b) := okE_of (by simp only [gI]) (by simp only [wI]; omega) (by simp only [dI]; omega)
theorem okE_non : okE .non := okE_of (by simp only [gI]) (by simp only [wI]; omega) (by simp only [dI]; omega)
theorem gIs_ints : ∀ {ns : List Int}, (∀ n ∈ ns, -(10 ^ 60) ≤ n ∧ n ≤ 10 ^ 60) → gIs (ns.map D.int)
  | [], _ => by simp [gIs]
  | n :: ns, h => by
    have a := h n List.mem_cons_self
    have b := gIs_ints (ns := ns) fun m hm => h m (List.mem_cons_of_mem _ hm)
    simp only [List.map_cons, gIs, gI]
    exact ⟨by omega, b⟩
theorem wIs_ints : ∀ (ns : List Int), wIs (ns.map D.int) = 73 * ns.length
  | [] => rfl
  | n :: ns => by
    have b := wIs_ints ns
    simp only [List.map_cons, wIs, wI, List.length_cons]
    omega
theorem dIs_ints : ∀ (ns : List Int), dIs (ns.map D.int) = 0
  | [] => rfl
  | n :: ns => by
    have b := dIs_ints ns
    simp only [List.map_cons, dIs, dI]
    omega
theorem okE_ints {ns : List Int} (h : ∀ n ∈ ns, -(10 ^ 60) ≤ n ∧ n ≤ 10 ^ 60) (hl : ns.length ≤ 200000) : okE (.lst (ns.map D.int)) :=
  okE_of (by simp only [gI]; exact gIs_ints h) (by simp only [wI, wIs_ints]; omega) (by simp only [dI, dIs_ints]; omega)
end Y

namespace Y
open PySem PySem.Spec PyProof.Rows L2 Z

/-! ## what an outcome is -/
abbrev XR0 := Nat → List (Str × D) → Prop
abbrev XE0 := Nat → List (Str × D) → Env → Prop
def wR {α : Type} (P : α → Prop) (X : XR0) : Rs α → Prop
  | .ok a => P a
  | .ex c fs => X c fs
  | .no => False
def wO {α : Type} (P : α → Env → Prop) (X : XE0) : Ou α → Prop
  | .ok a Γ => P a Γ
  | .ex c fs Γ => X c fs Γ
  | .no => False
def wS (nx : Env → Prop) (rt : D → Env → Prop) (bk ct : Env → Prop) (X : XE0) : So → Prop
  | .nx Γ => nx Γ
  | .rt d Γ => rt d Γ
  | .bk Γ => bk Γ
  | .ct Γ => ct Γ
  | .ex c fs Γ => X c fs Γ
  | .no => False
def gE (P : D → Prop) (Γ : Env) (i : Nat) : Prop := match Γ[i]? with
  | some (some d) => P d
  | _ => False
def wF {α : Type} (P : α → Prop) : Option α → Prop
  | some a => P a
  | none => False
section
variable {α β : Type} {P : α → Prop} {X : XR0} {nx : Env → Prop} {rt : D → Env → Prop} {bk ct : Env → Prop} {XE : XE0} {Γ Γ' : Env} {Q : D → Prop} {QE : D → Env → Prop} {QB : Bool → Prop} {QBE : Bool → Env → Prop} {QL : List D → Prop} {QLE : List D → Env → Prop} {i j : Nat} {d : D}
theorem wR_ok {a : α} : wR P X (.ok a) ↔ P a := Iff.rfl
theorem wR_ex {c : Nat} {fs : List (Str × D)} : wR P X (.ex c fs) ↔ X c fs := Iff.rfl
theorem wR_no : wR P X .no ↔ False := Iff.rfl
theorem wO_ok {P : α → Env → Prop} {a : α} : wO P XE (.ok a Γ) ↔ P a Γ := Iff.rfl
theorem wO_ex {P : α → Env → Prop} {c : Nat} {fs : List (Str × D)} : wO P XE (.ex c fs Γ) ↔ XE c fs Γ := Iff.rfl
theorem wO_no {P : α → Env → Prop} : wO P XE .no ↔ False := Iff.rfl
theorem wS_nx : wS nx rt bk ct XE (.nx Γ) ↔ nx Γ := Iff.rfl
theorem wS_rt : wS nx rt bk ct XE (.rt d Γ) ↔ rt d Γ := Iff.rfl
theorem wS_bk : wS nx rt bk ct XE (.bk Γ) ↔ bk Γ := Iff.rfl
theorem wS_ct : wS nx rt bk ct XE (.ct Γ) ↔ ct Γ := Iff.rfl
theorem wS_ex {c : Nat} {fs : List (Str × D)} : wS nx rt bk ct XE (.ex c fs Γ) ↔ XE c fs Γ := Iff.rfl
theorem wS_no : wS nx rt bk ct XE .no ↔ False := Iff.rfl
theorem wF_some {a : α} : wF P (some a) ↔ P a := Iff.rfl
theorem wF_none : wF P none ↔ False := Iff.rfl
theorem wR_bind {x : Rs β} {k : β → Rs α} : wR P X (x.bind k) ↔ wR (fun b => wR P X (k b)) X x := by cases x <;> exact Iff.rfl
theorem wO_bind {P : α → Env → Prop} {x : Ou β} {k : β → Env → Ou α} : wO P XE (x.bind k) ↔ wO (fun b Γ => wO P XE (k b Γ)) XE x := by cases x <;> exact Iff.rfl
theorem wO_ou {P : α → Env → Prop} {x : Rs α} : wO P XE (x.ou Γ) ↔ wR (fun a => P a Γ) (fun c fs => XE c fs Γ) x := by cases x <;> exact Iff.rfl
theorem wR_rs {x : Ou α} : wR P X x.rs ↔ wO (fun a _ => P a) (fun c fs _ => X c fs) x := by cases x <;> exact Iff.rfl
theorem wS_so {x : Ou α} {k : α → Env → So} : wS nx rt bk ct XE (x.so k) ↔ wO (fun a Γ => wS nx rt bk ct XE (k a Γ)) XE x := by cases x <;> exact Iff.rfl
theorem wS_sq {x : So} {k : Env → So} : wS nx rt bk ct XE (x.seq k) ↔ wS (fun Γ => wS nx rt bk ct XE (k Γ)) rt bk ct XE x := by cases x <;> exact Iff.rfl
theorem gE_0 : gE Q (some d :: Γ) 0 ↔ Q d := Iff.rfl
theorem gE_s {o : Option D} : gE Q (o :: Γ) (i + 1) ↔ gE Q Γ i := Iff.rfl
theorem gE_n : gE Q (none :: Γ) 0 ↔ False := Iff.rfl
/-! readings -/
theorem w_pVar : wR Q X (pVar i Γ) ↔ gE Q Γ i := by
  unfold pVar gE
  cases Γ[i]? with
  | none => exact Iff.rfl
  | some o => cases o <;> exact Iff.rfl
theorem w_pC : wR Q X (pC d Γ) ↔ Q d := Iff.rfl
theorem w_pOp {op : D → D → Rs D} {a b : Env → Rs D} : wR Q X (pOp op a b Γ) ↔ wR (fun x => wR (fun y => wR Q X (op x y)) X (b Γ)) X (a Γ) := by unfold pOp; simp only [wR_bind]
theorem w_pUn {op : D → Rs D} {a : Env → Rs D} : wR Q X (pUn op a Γ) ↔ wR (fun x => wR Q X (op x)) X (a Γ) := wR_bind
theorem w_pNil : wR QL X (pNil Γ) ↔ QL [] := Iff.rfl
theorem w_pCons {a : Env → Rs D} {b : Env → Rs (List D)} : wR QL X (pCons a b Γ) ↔ wR (fun x => wR (fun xs => QL (x :: xs)) X (b Γ)) X (a Γ) := by unfold pCons; simp only [wR_bind, wR_ok]
theorem w_pArg {op : List D → Rs D} {a : Env → Rs (List D)} : wR Q X (pArg op a Γ) ↔ wR (fun x => wR Q X (op x)) X (a Γ) := wR_bind
theorem w_pTst {a : Env → Rs D} : wR QB X (pTst a Γ) ↔ wR (fun x => wR QB X (asB x)) X (a Γ) := wR_bind
theorem w_bAnd {a b : Env → Rs Bool} : wR QB X (bAnd a b Γ) ↔ wR (fun x => (x = true → wR QB X (b Γ)) ∧ (x = false → QB false)) X (a Γ) := by
  unfold bAnd; rw [wR_bind]
  cases a Γ with
  | ok x => cases x <;> simp [wR]
  | _ => exact Iff.rfl
theorem w_bOr {a b : Env → Rs Bool} : wR QB X (bOr a b Γ) ↔ wR (fun x => (x = true → QB true) ∧ (x = false → wR QB X (b Γ))) X (a Γ) := by
  unfold bOr; rw [wR_bind]
  cases a Γ with
  | ok x => cases x <;> simp [wR]
  | _ => exact Iff.rfl
theorem w_bNot {a : Env → Rs Bool} : wR QB X (bNot a Γ) ↔ wR (fun x => QB (!x)) X (a Γ) := by unfold bNot; simp only [wR_bind, wR_ok]
theorem w_bYes : wR QB X (bYes Γ) ↔ QB true := Iff.rfl
theorem w_pAnd {a b : Env → Rs D} : wR Q X (pAnd a b Γ) ↔ wR (fun x => wR (fun c => (c = true → wR Q X (b Γ)) ∧ (c = false → Q (.bl false))) X (asB x)) X (a Γ) := by
  unfold pAnd; simp only [wR_bind]
  cases a Γ with
  | ok x => cases x <;> try exact Iff.rfl
            rename_i b; cases b <;> simp [wR, asB]
  | _ => exact Iff.rfl
theorem w_pOr {a b : Env → Rs D} : wR Q X (pOr a b Γ) ↔ wR (fun x => wR (fun c => (c = true → Q (.bl true)) ∧ (c = false → wR Q X (b Γ))) X (asB x)) X (a Γ) := by
  unfold pOr; simp only [wR_bind]
  cases a Γ with
  | ok x => cases x <;> try exact Iff.rfl
            rename_i b; cases b <;> simp [wR, asB]
  | _ => exact Iff.rfl
theorem w_pNot {a : Env → Rs D} : wR Q X (pNot a Γ) ↔ wR (fun x => wR (fun c => Q (.bl (!c))) X (asB x)) X (a Γ) := by unfold pNot; simp only [wR_bind, wR_ok]
theorem w_pIf {c : Env → Rs Bool} {a b : Env → Rs D} : wR Q X (pIf c a b Γ) ↔ wR (fun x => (x = true → wR Q X (a Γ)) ∧ (x = false → wR Q X (b Γ))) X (c Γ) := by
  unfold pIf; rw [wR_bind]
  cases c Γ with
  | ok x => cases x <;> simp [wR]
  | _ => exact Iff.rfl
theorem w_pChain {o1 o2 : D → D → Rs D} {a b c : Env → Rs D} : wR Q X (pChain o1 o2 a b c Γ) ↔ wR (fun x => wR (fun y => wR (fun z => wR (fun k => (k = true → wR (fun w => wR Q X (o2 y w)) X (c Γ)) ∧ (k = false → Q (.bl false))) X (asB z)) X (o1 x y)) X (b Γ)) X (a Γ) := by
  unfold pChain; simp only [wR_bind]
  cases a Γ with
  | ok x =>
    cases b Γ with
    | ok y =>
      show wR _ X (o1 x y) ↔ wR _ X (o1 x y)
      cases o1 x y with
      | ok z => cases z <;> try exact Iff.rfl
                rename_i b
                cases b with
                | false => simp [wR, asB]
                | true =>
                  show wR Q X ((c Γ).bind _) ↔ ((true = true → wR _ X (c Γ)) ∧ _)
                  rw [wR_bind]; simp
      | _ => exact Iff.rfl
    | _ => exact Iff.rfl
  | _ => exact Iff.rfl
theorem w_pSca {f : Env → Rs D} : wR Q X (pSca f Γ) ↔ wR (fun d => sca d = true ∧ Q d) X (f Γ) := by
  unfold pSca; rw [wR_bind]
  cases f Γ with
  | ok x =>
    show wR Q X (if sca x = true then .ok x else .no) ↔ sca x = true ∧ Q x
    by_cases h : sca x = true <;> simp [h, wR]
  | _ => exact Iff.rfl
theorem w_pCall {dds : List D} {sf : List D → Ou D} {fs : Env → Rs (List D)} : wR Q X (pCall dds sf fs Γ) ↔ wR (fun ds => wO (fun r _ => Q r) (fun c f _ => X c f) (sf (ds ++ dds))) X (fs Γ) := by unfold pCall; simp only [wR_bind, wR_rs]
theorem w_asB {b : Bool} : wR QB X (asB (.bl b)) ↔ QB b := Iff.rfl
theorem w_pNone {QO : Option Int → Prop} : wR QO X (pNone Γ) ↔ QO none := Iff.rfl
theorem w_pSome {QO : Option Int → Prop} {f : Env → Rs D} : wR QO X (pSome f Γ) ↔ wR (fun d => wR (fun i => QO (some i)) X (asI d)) X (f Γ) := by unfold pSome; simp only [wR_bind, wR_ok]
theorem w_asI {QI : Int → Prop} {n : Int} : wR QI X (asI (.int n)) ↔ QI n := Iff.rfl
theorem w_pSl {f : Env → Rs D} {l h : Env → Rs (Option Int)} : wR Q X (pSl f l h Γ) ↔ wR (fun x => wR (fun lo => wR (fun hi => wR Q X (opSl x lo hi)) X (h Γ)) X (l Γ)) X (f Γ) := by unfold pSl; simp only [wR_bind]
theorem w_pLc {fi : Env → Rs (List D)} {g : GF} {tt : Env → Rs Bool} {fe : Env → Rs D} {vs : List Nat} : wR Q X (pLc fi g tt fe vs Γ) ↔ wR (fun ds => ds.length ≤ 4000000 ∧ wR (fun es => Q (.lst es)) X (mapO (pLc1 g tt fe (wipD Γ vs)) ds)) X (fi Γ) := by
  unfold pLc; rw [wR_bind]
  cases fi Γ with
  | ok ds =>
    show wR Q X (if ds.length ≤ 4000000 then _ else .no) ↔ ds.length ≤ 4000000 ∧ _
    by_cases h : ds.length ≤ 4000000
    · rw [if_pos h, wR_bind]; simp only [wR_ok, h, true_and]
    · rw [if_neg h]; simp [h, wR]
  | _ => exact Iff.rfl
theorem w_pIt {op : List D → Rs (List D)} {f : Env → Rs (List D)} : wR QL X (pIt op f Γ) ↔ wR (fun x => wR QL X (op x)) X (f Γ) := wR_bind
theorem w_pSeq {f : Env → Rs D} : wR QL X (pSeq f Γ) ↔ wR (fun x => wR QL X (seqD x)) X (f Γ) := wR_bind
/-! with effects -/
theorem w_pE {f : Env → Rs α} {P : α → Env → Prop} : wO P XE (pE f Γ) ↔ wR (fun a => P a Γ) (fun c fs => XE c fs Γ) (f Γ) := wO_ou
theorem w_eOp {op : D → D → Rs D} {a b : Env → Ou D} : wO QE XE (eOp op a b Γ) ↔ wO (fun x Γ1 => wO (fun y Γ2 => wR (fun z => QE z Γ2) (fun c fs => XE c fs Γ2) (op x y)) XE (b Γ1)) XE (a Γ) := by unfold eOp; simp only [wO_bind, wO_ou]
theorem w_eUn {op : D → Rs D} {a : Env → Ou D} : wO QE XE (eUn op a Γ) ↔ wO (fun x Γ1 => wR (fun z => QE z Γ1) (fun c fs => XE c fs Γ1) (op x)) XE (a Γ) := by unfold eUn; simp only [wO_bind, wO_ou]
theorem w_eCons {a : Env → Ou D} {b : Env → Ou (List D)} : wO QLE XE (eCons a b Γ) ↔ wO (fun x Γ1 => wO (fun xs Γ2 => QLE (x :: xs) Γ2) XE (b Γ1)) XE (a Γ) := by unfold eCons; simp only [wO_bind, wO_ok]
theorem w_eArg {op : List D → Rs D} {a : Env → Ou (List D)} : wO QE XE (eArg op a Γ) ↔ wO (fun x Γ1 => wR (fun z => QE z Γ1) (fun c fs => XE c fs Γ1) (op x)) XE (a Γ) := by unfold eArg; simp only [wO_bind, wO_ou]
theorem w_eArgN {n : Nat} {op : List D → Rs D} {a : Env → Ou (List D)} : wO QE XE (eArgN n op a Γ) ↔ wO (fun x Γ1 => x.length = n ∧ wR (fun z => QE z Γ1) (fun c fs => XE c fs Γ1) (op x)) XE (a Γ) := by
  unfold eArgN; rw [wO_bind]
  cases a Γ with
  | ok x Γ1 =>
    show wO QE XE (if x.length = n then _ else .no) ↔ x.length = n ∧ _
    by_cases h : x.length = n
    · rw [if_pos h, wO_ou]; simp only [h, true_and]
    · rw [if_neg h]; simp [h, wO]
  | _ => exact Iff.rfl
theorem w_eTst {a : Env → Ou D} : wO QBE XE (eTst a Γ) ↔ wO (fun x Γ1 => wR (fun b => QBE b Γ1) (fun c fs => XE c fs Γ1) (asB x)) XE (a Γ) := by unfold eTst; simp only [wO_bind, wO_ou]
theorem w_cAnd {a b : Env → Ou Bool} : wO QBE XE (cAnd a b Γ) ↔ wO (fun x Γ1 => (x = true → wO QBE XE (b Γ1)) ∧ (x = false → QBE false Γ1)) XE (a Γ) := by
  unfold cAnd; rw [wO_bind]
  cases a Γ with
  | ok x Γ1 => cases x <;> simp [wO]
  | _ => exact Iff.rfl
theorem w_cOr {a b : Env → Ou Bool} : wO QBE XE (cOr a b Γ) ↔ wO (fun x Γ1 => (x = true → QBE true Γ1) ∧ (x = false → wO QBE XE (b Γ1))) XE (a Γ) := by
  unfold cOr; rw [wO_bind]
  cases a Γ with
  | ok x Γ1 => cases x <;> simp [wO]
  | _ => exact Iff.rfl
theorem w_cNot {a : Env → Ou Bool} : wO QBE XE (cNot a Γ) ↔ wO (fun x Γ1 => QBE (!x) Γ1) XE (a Γ) := by unfold cNot; simp only [wO_bind, wO_ok]
theorem w_eIf {c : Env → Ou Bool} {a b : Env → Ou D} : wO QE XE (eIf c a b Γ) ↔ wO (fun x Γ1 => (x = true → wO QE XE (a Γ1)) ∧ (x = false → wO QE XE (b Γ1))) XE (c Γ) := by
  unfold eIf; rw [wO_bind]
  cases c Γ with
  | ok x Γ1 => cases x <;> simp [wO]
  | _ => exact Iff.rfl
theorem w_eAnd {a b : Env → Ou D} : wO QE XE (eAnd a b Γ) ↔ wO (fun x Γ1 => wR (fun c => (c = true → wO QE XE (b Γ1)) ∧ (c = false → QE (.bl false) Γ1)) (fun c fs => XE c fs Γ1) (asB x)) XE (a Γ) := by
  unfold eAnd; simp only [wO_bind, wO_ou]
  cases a Γ with
  | ok x Γ1 => cases x <;> try exact Iff.rfl
               rename_i b; cases b <;> simp [wO, wR, asB]
  | _ => exact Iff.rfl
theorem w_eOr {a b : Env → Ou D} : wO QE XE (eOr a b Γ) ↔ wO (fun x Γ1 => wR (fun c => (c = true → QE (.bl true) Γ1) ∧ (c = false → wO QE XE (b Γ1))) (fun c fs => XE c fs Γ1) (asB x)) XE (a Γ) := by
  unfold eOr; simp only [wO_bind, wO_ou]
  cases a Γ with
  | ok x Γ1 => cases x <;> try exact Iff.rfl
               rename_i b; cases b <;> simp [wO, wR, asB]
  | _ => exact Iff.rfl
theorem w_eTake : wO QE XE (eTake i Γ) ↔ gE (fun d => QE d (Γ.set i none)) Γ i := by
  unfold eTake gE
  cases Γ[i]? with
  | none => exact Iff.rfl
  | some o => cases o <;> exact Iff.rfl
theorem w_xNil : wO QLE XE (xNil Γ) ↔ QLE [] Γ := Iff.rfl
theorem w_xSlot {fs : Env → Ou (List D)} : wO QLE XE (xSlot i fs Γ) ↔ gE (fun _ => wO (fun ds Γ1 => QLE (.non :: ds) Γ1) XE (fs Γ)) Γ i := by
  unfold xSlot gE
  cases Γ[i]? with
  | none => exact Iff.rfl
  | some o =>
    cases o with
    | none => exact Iff.rfl
    | some d => simp only [wO_bind, wO_ok]
theorem w_eCall {aks : List Ak} {dds : List D} {sf : List D → Ou D} {fs : Env → Ou (List D)} : wO QE XE (eCall aks dds sf fs Γ) ↔
    wO (fun ds Γ1 => wF (fun es => wO (fun r Γ' => QE r (putA aks Γ' Γ1)) (fun c f Γ' => XE c f (putA aks Γ' Γ1)) (sf (es ++ dds))) (fillA aks ds Γ1)) XE (fs Γ) := by
  unfold eCall; rw [wO_bind]
  cases fs Γ with
  | ok ds Γ1 =>
    show wO QE XE (match fillA aks ds Γ1 with | none => _ | some es => _) ↔ wF _ (fillA aks ds Γ1)
    cases fillA aks ds Γ1 with
    | none => exact Iff.rfl
    | some es =>
      show wO QE XE (match sf (es ++ dds) with | .ok r Γ' => _ | .ex c fs Γ' => _ | .no => _) ↔ wO _ _ (sf (es ++ dds))
      cases sf (es ++ dds) <;> exact Iff.rfl
  | _ => exact Iff.rfl
theorem w_fnil : wF QL (fillA [] [] Γ) ↔ QL [] := Iff.rfl
theorem wF_map {f : β → α} {o : Option β} : wF P (o.map f) ↔ wF (fun b => P (f b)) o := by cases o <;> exact Iff.rfl
theorem w_ffz {aks : List Ak} {ds : List D} : wF QL (fillA (.fz :: aks) (d :: ds) Γ) ↔ wF (fun es => QL (d :: es)) (fillA aks ds Γ) := wF_map
theorem w_fbor {aks : List Ak} {ds : List D} : wF QL (fillA (.bor i :: aks) (d :: ds) Γ) ↔ gE (fun x => wF (fun es => QL (x :: es)) (fillA aks ds Γ)) Γ i := by
  unfold gE
  rw [fillA]
  cases Γ[i]? with
  | none => exact Iff.rfl
  | some o =>
    cases o with
    | none => exact Iff.rfl
    | some d => exact wF_map
theorem w_fown {aks : List Ak} {ds : List D} : wF QL (fillA (.own i :: aks) (d :: ds) Γ) ↔ gE (fun x => wF (fun es => QL (x :: es)) (fillA aks ds Γ)) Γ i := by
  unfold gE
  rw [fillA]
  cases Γ[i]? with
  | none => exact Iff.rfl
  | some o =>
    cases o with
    | none => exact Iff.rfl
    | some d => exact wF_map
theorem putA_own {aks : List Ak} {o : Option D} : putA (.own i :: aks) (o :: Γ') Γ = putA aks Γ' (Γ.set i o) := rfl
theorem putA_fz {aks : List Ak} {o : Option D} : putA (.fz :: aks) (o :: Γ') Γ = putA aks Γ' Γ := rfl
theorem putA_bor {aks : List Ak} {o : Option D} : putA (.bor i :: aks) (o :: Γ') Γ = putA aks Γ' Γ := rfl
theorem putA_nil : putA [] Γ' Γ = Γ := by cases Γ' <;> rfl
theorem w_pI {Θ : List Md} {fi : Env → Rs (List D)} : wO QLE XE (pI Θ fi Γ) ↔ wR (fun a => QLE a Γ) (fun c fs => XE c fs Γ) (fi (mkE Θ Γ)) := wO_ou
theorem w_eIt {op : List D → Rs (List D)} {f : Env → Ou (List D)} : wO QLE XE (eIt op f Γ) ↔ wO (fun x Γ1 => wR (fun z => QLE z Γ1) (fun c fs => XE c fs Γ1) (op x)) XE (f Γ) := by unfold eIt; simp only [wO_bind, wO_ou]
theorem w_eSeq {f : Env → Ou D} : wO QLE XE (eSeq f Γ) ↔ wO (fun x Γ1 => wR (fun z => QLE z Γ1) (fun c fs => XE c fs Γ1) (seqD x)) XE (f Γ) := by unfold eSeq; simp only [wO_bind, wO_ou]
theorem w_eLc {fi : Env → Ou (List D)} {g : GF} {tt : Env → Ou Bool} {fe : Env → Ou D} {vs : List Nat} : wO QE XE (eLc fi g tt fe vs Γ) ↔
    wO (fun ds Γ1 => ds.length ≤ 4000000 ∧ wO (fun es Γ2 => QE (.lst es) (unwip Γ1 Γ2 vs)) XE (mapE g tt fe vs ds (wipD Γ1 vs))) XE (fi Γ) := by
  unfold eLc; rw [wO_bind]
  cases fi Γ with
  | ok ds Γ1 =>
    show wO QE XE (if ds.length ≤ 4000000 then _ else .no) ↔ ds.length ≤ 4000000 ∧ _
    by_cases h : ds.length ≤ 4000000
    · rw [if_pos h, wO_bind]; simp only [wO_ok, h, true_and]
    · rw [if_neg h]; simp [h, wO]
  | _ => exact Iff.rfl
/-! statements -/
theorem w_sSeq {a b : Env → So} : wS nx rt bk ct XE (sSeq a b Γ) ↔ wS (fun Γ1 => wS nx rt bk ct XE (b Γ1)) rt bk ct XE (a Γ) := wS_sq
theorem w_sNext : wS nx rt bk ct XE (sNext Γ) ↔ nx Γ := Iff.rfl
theorem w_sBrk : wS nx rt bk ct XE (sBrk Γ) ↔ bk Γ := Iff.rfl
theorem w_sCont : wS nx rt bk ct XE (sCont Γ) ↔ ct Γ := Iff.rfl
theorem w_sNever : wS nx rt bk ct XE (sNever Γ) ↔ False := Iff.rfl
theorem w_sRet {f : Env → Ou D} : wS nx rt bk ct XE (sRet f Γ) ↔ wO rt XE (f Γ) := wS_so
theorem w_sRetN : wS nx rt bk ct XE (sRetN Γ) ↔ rt .non Γ := Iff.rfl
theorem w_sDrop {f : Env → Ou D} : wS nx rt bk ct XE (sDrop f Γ) ↔ wO (fun _ Γ1 => nx Γ1) XE (f Γ) := wS_so
theorem w_sIf {c : Env → Ou Bool} {a b : Env → So} : wS nx rt bk ct XE (sIf c a b Γ) ↔ wO (fun k Γ1 => (k = true → wS nx rt bk ct XE (a Γ1)) ∧ (k = false → wS nx rt bk ct XE (b Γ1))) XE (c Γ) := by
  unfold sIf; rw [wS_so]
  cases c Γ with
  | ok x Γ1 => cases x <;> simp [wO]
  | _ => exact Iff.rfl
theorem w_sAsg {f : Env → Ou D} : wS nx rt bk ct XE (sAsg i f Γ) ↔ wO (fun d Γ1 => nx (Γ1.set i (some d))) XE (f Γ) := wS_so
theorem w_sAsgG {g : GF} {f : Env → Ou D} : wS nx rt bk ct XE (sAsgG g f Γ) ↔ wO (fun d Γ1 => wF nx (g d Γ1)) XE (f Γ) := by
  unfold sAsgG; rw [wS_so]
  cases f Γ with
  | ok x Γ1 =>
    show wS nx rt bk ct XE (match g x Γ1 with | some Γ2 => _ | none => _) ↔ wF nx (g x Γ1)
    cases g x Γ1 <;> exact Iff.rfl
  | _ => exact Iff.rfl
theorem w_tgN : wF nx (tgN i d Γ) ↔ nx (Γ.set i (some d)) := Iff.rfl
theorem w_tgNil : wF nx (tgNil [] Γ) ↔ nx Γ := Iff.rfl
theorem w_tgCons {g : GF} {gs : List D → Env → Option Env} {ds : List D} : wF nx (tgCons g gs (d :: ds) Γ) ↔ wF (fun Γ1 => wF nx (gs ds Γ1)) (g d Γ) := by
  show wF nx ((g d Γ).bind _) ↔ _
  cases g d Γ <;> exact Iff.rfl
theorem w_tgT {gs : List D → Env → Option Env} {ds : List D} : wF nx (tgT gs (.tup ds) Γ) ↔ wF nx (gs ds Γ) := Iff.rfl
theorem w_sFor {fi : Env → Ou (List D)} {g : GF} {b : Env → So} : wS nx rt bk ct XE (sFor fi g b Γ) ↔ wO (fun ds Γ1 => wS nx rt bk ct XE (forL g b ds Γ1)) XE (fi Γ) := wS_so
theorem w_sWhile {n : Nat} {c : Env → Ou Bool} {b : Env → So} : wS nx rt bk ct XE (sWhile n c b Γ) ↔ wS nx rt bk ct XE (whL c b n Γ) := Iff.rfl
theorem w_sPar {f g : Env → Ou D} : wS nx rt bk ct XE (sPar i j f g Γ) ↔ wO (fun d Γ1 => wO (fun d2 Γ2 => nx ((Γ2.set i (some d)).set j (some d2))) XE (g Γ1)) XE (f Γ) := by unfold sPar; simp only [wS_so, wS_nx]
theorem w_sPar3 {l : Nat} {f g h : Env → Ou D} : wS nx rt bk ct XE (sPar3 i j l f g h Γ) ↔ wO (fun d Γ1 => wO (fun d2 Γ2 => wO (fun d3 Γ3 => nx (((Γ3.set i (some d)).set j (some d2)).set l (some d3))) XE (h Γ2)) XE (g Γ1)) XE (f Γ) := by unfold sPar3; simp only [wS_so, wS_nx]
/-- a slot's list -/
def gL (P : List D → Prop) (Γ : Env) (i : Nat) : Prop := gE (fun d => match d with | .lst ds => P ds | _ => False) Γ i
theorem gL_0 {ds : List D} : gL QL (some (.lst ds) :: Γ) 0 ↔ QL ds := Iff.rfl
theorem gL_s {o : Option D} : gL QL (o :: Γ) (i + 1) ↔ gL QL Γ i := Iff.rfl
theorem w_sApp {f : Env → Ou D} : wS nx rt bk ct XE (sApp i f Γ) ↔ gL (fun _ => wO (fun d Γ1 => gL (fun ds => Sz ds.length ∧ nx (Γ1.set i (some (.lst (ds ++ [d]))))) Γ1 i) XE (f Γ)) Γ i := by
  unfold sApp gL gE
  cases Γ[i]? with
  | none => exact Iff.rfl
  | some o =>
    cases o with
    | none => exact Iff.rfl
    | some d =>
      cases d <;> try exact Iff.rfl
      simp only [wS_so]
      cases f Γ with
      | ok d Γ1 =>
        simp only [wO_ok]
        cases Γ1[i]? with
        | none => exact Iff.rfl
        | some o =>
          cases o with
          | none => exact Iff.rfl
          | some x =>
            cases x <;> try exact Iff.rfl
            rename_i ds
            show wS nx rt bk ct XE (if Sz ds.length then _ else .no) ↔ Sz ds.length ∧ _
            by_cases h : Sz ds.length <;> simp [h, wS]
      | _ => exact Iff.rfl
theorem w_sSetI {fk f : Env → Ou D} : wS nx rt bk ct XE (sSetI i fk f Γ) ↔ wO (fun d Γ1 => gL (fun _ => wO (fun k Γ2 => gL (fun ds => wR (fun j => wF (fun m => nx (Γ2.set i (some (.lst (ds.set m d))))) (ixN ds.length j)) (fun _ _ => False) (asI k)) Γ2 i) XE (fk Γ1)) Γ1 i) XE (f Γ) := by
  unfold sSetI
  rw [wS_so]
  cases f Γ with
  | ok d Γ1 =>
    simp only [wO_ok]
    unfold gL gE
    cases Γ1[i]? with
    | none => exact Iff.rfl
    | some o =>
      cases o with
      | none => exact Iff.rfl
      | some x =>
        cases x <;> try exact Iff.rfl
        simp only [wS_so]
        cases fk Γ1 with
        | ok k Γ2 =>
          simp only [wO_ok]
          cases Γ2[i]? with
          | none => exact Iff.rfl
          | some o =>
            cases o with
            | none => exact Iff.rfl
            | some x =>
              cases x <;> try exact Iff.rfl
              cases k <;> try exact Iff.rfl
              rename_i ds j
              show wS nx rt bk ct XE (match ixN ds.length j with | some m => _ | none => _) ↔ wF _ (ixN ds.length j)
              cases ixN ds.length j <;> exact Iff.rfl
        | _ => exact Iff.rfl
  | _ => exact Iff.rfl
theorem w_fnO {ms : List Md} {x : So} : wO QE XE (fnO ms x) ↔ wS (fun Γ => fullE ms Γ = true ∧ QE .non (keepE ms Γ)) (fun d Γ => fullE ms Γ = true ∧ QE d (keepE ms Γ)) (fun _ => False) (fun _ => False) (fun c fs Γ => fullE ms Γ = true ∧ XE c fs (keepE ms Γ)) x := by
  cases x with
  | nx Γ =>
    show wO QE XE (if fullE ms Γ = true then _ else .no) ↔ fullE ms Γ = true ∧ _
    by_cases h : fullE ms Γ = true <;> simp [h, wO]
  | rt d Γ =>
    show wO QE XE (if fullE ms Γ = true then _ else .no) ↔ fullE ms Γ = true ∧ _
    by_cases h : fullE ms Γ = true <;> simp [h, wO]
  | ex c fs Γ =>
    show wO QE XE (if fullE ms Γ = true then _ else .no) ↔ fullE ms Γ = true ∧ _
    by_cases h : fullE ms Γ = true <;> simp [h, wO]
  | _ => exact Iff.rfl
/-! loops -/
theorem for_inv {g : GF} {b : Env → So} (I : List D → Env → Prop) {ds : List D} (h0 : I ds Γ) (hs : ∀ d ds Γ, I (d :: ds) Γ → wF (fun Γ1 => wS (I ds) rt nx (I ds) XE (b Γ1)) (g d Γ)) (he : ∀ Γ, I [] Γ → nx Γ) : wS nx rt bk ct XE (forL g b ds Γ) := by
  induction ds generalizing Γ with
  | nil => exact he Γ h0
  | cons d ds ih =>
    have h := hs d ds Γ h0
    unfold forL
    cases hg : g d Γ with
    | none => rw [hg] at h; exact h.elim
    | some Γ1 =>
      rw [hg] at h
      have h' : wS (I ds) rt nx (I ds) XE (b Γ1) := h
      show wS nx rt bk ct XE (match b Γ1 with | .nx Γ2 => _ | .ct Γ2 => _ | .bk Γ2 => _ | .rt d Γ2 => _ | .ex c fs Γ2 => _ | .no => _)
      cases hb : b Γ1 with
      | nx Γ2 => rw [hb] at h'; exact ih h'
      | ct Γ2 => rw [hb] at h'; exact ih h'
      | bk Γ2 => rw [hb] at h'; exact h'
      | rt d Γ2 => rw [hb] at h'; exact h'
      | ex c fs Γ2 => rw [hb] at h'; exact h'
      | no => rw [hb] at h'; exact h'.elim
theorem for_nil {g : GF} {b : Env → So} : wS nx rt bk ct XE (forL g b [] Γ) ↔ nx Γ := Iff.rfl
theorem for_cons {g : GF} {b : Env → So} {ds : List D} : wS nx rt bk ct XE (forL g b (d :: ds) Γ) ↔ wF (fun Γ1 => wS (fun Γ2 => wS nx rt bk ct XE (forL g b ds Γ2)) rt nx (fun Γ2 => wS nx rt bk ct XE (forL g b ds Γ2)) XE (b Γ1)) (g d Γ) := by
  rw [forL]
  cases g d Γ with
  | none => exact Iff.rfl
  | some Γ1 =>
    show wS nx rt bk ct XE (match b Γ1 with | .nx Γ2 => _ | .ct Γ2 => _ | .bk Γ2 => _ | .rt d Γ2 => _ | .ex c fs Γ2 => _ | .no => _) ↔ wS _ _ _ _ _ (b Γ1)
    cases b Γ1 <;> exact Iff.rfl
theorem wh_inv {c : Env → Ou Bool} {b : Env → So} (I : Nat → Env → Prop) {n m : Nat} (hm : m < n) (h0 : I m Γ)
    (hs : ∀ m Γ, I m Γ → wO (fun k Γ1 => (k = true → wS (fun Γ2 => ∃ m', m' < m ∧ I m' Γ2) rt nx (fun Γ2 => ∃ m', m' < m ∧ I m' Γ2) XE (b Γ1)) ∧ (k = false → nx Γ1)) XE (c Γ)) : wS nx rt bk ct XE (whL c b n Γ) := by
  induction n generalizing m Γ with
  | zero => omega
  | succ n ih =>
    have h := hs m Γ h0
    unfold whL
    rw [wS_so]
    cases hc : c Γ with
    | no => rw [hc] at h; exact h
    | ex c fs Γ1 => rw [hc] at h; exact h
    | ok k Γ1 =>
      rw [hc] at h
      simp only [wO_ok] at h ⊢
      cases k with
      | false => exact h.2 rfl
      | true =>
        have h' := h.1 rfl
        show wS nx rt bk ct XE (match b Γ1 with | .nx Γ2 => _ | .ct Γ2 => _ | .bk Γ2 => _ | .rt d Γ2 => _ | .ex c fs Γ2 => _ | .no => _)
        cases hb : b Γ1 with
        | nx Γ2 => rw [hb] at h'; obtain ⟨m', h1, h2⟩ := h'; exact ih (by omega) h2
        | ct Γ2 => rw [hb] at h'; obtain ⟨m', h1, h2⟩ := h'; exact ih (by omega) h2
        | bk Γ2 => rw [hb] at h'; exact h'
        | rt d Γ2 => rw [hb] at h'; exact h'
        | ex c fs Γ2 => rw [hb] at h'; exact h'
        | no => rw [hb] at h'; exact h'.elim
theorem wR.mono {P P' : α → Prop} {X' : XR0} {x : Rs α} (h : wR P X x) (k : ∀ a, P a → P' a) (kx : ∀ c fs, X c fs → X' c fs) : wR P' X' x := by
  cases x with
  | ok a => exact k a h
  | ex c fs => exact kx c fs h
  | no => exact h
theorem wO.mono {P P' : α → Env → Prop} {X' : XE0} {x : Ou α} (h : wO P XE x) (k : ∀ a Γ, P a Γ → P' a Γ) (kx : ∀ c fs Γ, XE c fs Γ → X' c fs Γ) : wO P' X' x := by
  cases x with
  | ok a Γ => exact k a Γ h
  | ex c fs Γ => exact kx c fs Γ h
  | no => exact h
theorem wS.mono {nx' : Env → Prop} {rt' : D → Env → Prop} {bk' ct' : Env → Prop} {X' : XE0} {x : So} (h : wS nx rt bk ct XE x) (k1 : ∀ Γ, nx Γ → nx' Γ) (k2 : ∀ d Γ, rt d Γ → rt' d Γ) (k3 : ∀ Γ, bk Γ → bk' Γ) (k4 : ∀ Γ, ct Γ → ct' Γ) (k5 : ∀ c fs Γ, XE c fs Γ → X' c fs Γ) : wS nx' rt' bk' ct' X' x := by
  cases x with
  | nx Γ => exact k1 Γ h
  | rt d Γ => exact k2 d Γ h
  | bk Γ => exact k3 Γ h
  | ct Γ => exact k4 Γ h
  | ex c fs Γ => exact k5 c fs Γ h
  | no => exact h
/-- a comprehension, its list given by a function -/
theorem map_w {f : D → Rs (Option D)} {ds : List D} (k : D → Option D) (h : ∀ d ∈ ds, f d = .ok (k d)) : mapO f ds = .ok (ds.filterMap k) := by
  induction ds with
  | nil => rfl
  | cons d ds ih =>
    unfold mapO
    rw [h d List.mem_cons_self, ih fun d hd => h d (List.mem_cons_of_mem _ hd)]
    show Rs.ok ((k d).toList ++ ds.filterMap k) = _
    cases hk : k d with
    | none => rw [List.filterMap_cons_none hk]; rfl
    | some y => rw [List.filterMap_cons_some hk]; rfl
theorem map_cons {f : D → Rs (Option D)} {ds : List D} : wR QL X (mapO f (d :: ds)) ↔ wR (fun o => wR (fun es => QL (o.toList ++ es)) X (mapO f ds)) X (f d) := by rw [mapO]; simp only [wR_bind, wR_ok]
theorem map_nil {f : D → Rs (Option D)} : wR QL X (mapO f []) ↔ QL [] := Iff.rfl
theorem w_pLc1 {g : GF} {tt : Env → Rs Bool} {fe : Env → Rs D} {QO : Option D → Prop} : wR QO X (pLc1 g tt fe Γ d) ↔ wF (fun Γ1 => wR (fun b => (b = true → wR (fun y => QO (some y)) (fun _ _ => False) (fe Γ1)) ∧ (b = false → QO none)) (fun _ _ => False) (tt Γ1)) (g d Γ) := by
  unfold pLc1
  cases g d Γ with
  | none => exact Iff.rfl
  | some Γ1 =>
    show wR QO X ((noX (tt Γ1)).bind _) ↔ wR _ _ (tt Γ1)
    rw [wR_bind]
    cases tt Γ1 with
    | ok b =>
      cases b with
      | true =>
        simp only [noX, wR_ok, if_true, true_implies, Bool.true_eq_false, false_implies, and_true]
        rw [wR_bind]
        cases fe Γ1 <;> exact Iff.rfl
      | false => simp [noX, wR]
    | _ => exact Iff.rfl
/-- one int for each int -/
theorem map_ints {f : D → Rs (Option D)} {ns : List Int} (k : Int → Int) (h : ∀ n ∈ ns, wR (fun o => o = some (.int (k n))) (fun _ _ => False) (f (.int n))) : mapO f (ns.map D.int) = .ok ((ns.map k).map D.int) := by
  rw [map_w (fun d => match d with | .int n => some (.int (k n)) | _ => none) (fun d hd => ?_), List.filterMap_map, List.map_map]
  · congr 1
    induction ns with
    | nil => rfl
    | cons n ns ih => simp only [List.filterMap_cons, Function.comp, List.map_cons]; rw [ih fun m hm => h m (List.mem_cons_of_mem _ hm)]
  · obtain ⟨n, hn, rfl⟩ := List.mem_map.mp hd
    have := h n hn
    cases hf : f (.int n) with
    | ok o => rw [hf] at this; exact congrArg Rs.ok this
    | ex c fs => rw [hf] at this; exact this.elim
    | no => rw [hf] at this; exact this.elim
/-- some truth for each int -/
theorem map_bls {f : D → Rs (Option D)} {ns : List Int} (k : Int → Bool) (h : ∀ n ∈ ns, wR (fun o => o = some (.bl (k n))) (fun _ _ => False) (f (.int n))) : mapO f (ns.map D.int) = .ok ((ns.map k).map D.bl) := by
  rw [map_w (fun d => match d with | .int n => some (.bl (k n)) | _ => none) (fun d hd => ?_), List.filterMap_map, List.map_map]
  · congr 1
    induction ns with
    | nil => rfl
    | cons n ns ih => simp only [List.filterMap_cons, Function.comp, List.map_cons]; rw [ih fun m hm => h m (List.mem_cons_of_mem _ hm)]
  · obtain ⟨n, hn, rfl⟩ := List.mem_map.mp hd
    have := h n hn
    cases hf : f (.int n) with
    | ok o => rw [hf] at this; exact congrArg Rs.ok this
    | ex c fs => rw [hf] at this; exact this.elim
    | no => rw [hf] at this; exact this.elim
/-! comprehension with effects: a rule -/
theorem mapE_inv {g : GF} {tt : Env → Ou Bool} {fe : Env → Ou D} {vs : List Nat} (I : List D → List D → Env → Prop) {ds : List D} (h0 : I ds [] Γ)
    (hs : ∀ d ds es Γ, I (d :: ds) es Γ → wF (fun Γ1 => wO (fun b Γ2 => (b = true → wO (fun y Γ3 => I ds (es ++ [y]) (wipD Γ3 vs)) (fun _ _ _ => False) (fe Γ2)) ∧ (b = false → I ds es (wipD Γ2 vs))) (fun _ _ _ => False) (tt Γ1)) (g d Γ))
    (he : ∀ es Γ, I [] es Γ → QLE es Γ) : wO QLE XE (mapE g tt fe vs ds Γ) := by
  suffices H : ∀ (ds es : List D) (Γ : Env), I ds es Γ → wO (fun es' Γ' => QLE (es ++ es') Γ') XE (mapE g tt fe vs ds Γ) from H ds [] Γ h0
  intro ds
  induction ds with
  | nil =>
    intro es Γ h
    have := he es Γ h
    show QLE (es ++ []) Γ
    rw [List.append_nil]; exact this
  | cons d ds ih =>
    intro es Γ h
    have h1 := hs d ds es Γ h
    unfold mapE
    cases hg : g d Γ with
    | none => rw [hg] at h1; exact h1.elim
    | some Γ1 =>
      rw [hg] at h1
      have h2 : wO _ _ (tt Γ1) := h1
      show wO _ XE ((nX (tt Γ1)).bind _)
      rw [wO_bind]
      cases ht : tt Γ1 with
      | no => rw [ht] at h2; exact h2.elim
      | ex c fs Γ2 => rw [ht] at h2; exact h2.elim
      | ok b Γ2 =>
        rw [ht] at h2
        cases b with
        | false => exact ih es _ (h2.2 rfl)
        | true =>
          have h3 := h2.1 rfl
          show wO _ XE ((nX (fe Γ2)).bind _)
          rw [wO_bind]
          cases hf : fe Γ2 with
          | no => rw [hf] at h3; exact h3.elim
          | ex c fs Γ3 => rw [hf] at h3; exact h3.elim
          | ok y Γ3 =>
            rw [hf] at h3
            have h4 := ih (es ++ [y]) _ h3
            show wO _ XE ((mapE g tt fe vs ds (wipD Γ3 vs)).bind _)
            rw [wO_bind]
            exact wO.mono h4 (fun es' Γ' q => by rw [List.append_assoc] at q; exact q) fun _ _ _ q => q
end
/-! ## operations -/
section
variable {X : XR0} {Q : D → Prop} {QL : List D → Prop} {i j : Int} {xs ys : List D} {x y : D} {s t : Str} {a b : Bool} {lo hi : Option Int}
theorem w_ite {α : Type} {P : α → Prop} {p : Prop} [Decidable p] {r : Rs α} : wR P X (if p then r else .no) ↔ p ∧ wR P X r := by
  by_cases h : p <;> simp [h, wR]
theorem w_ofO {α : Type} {P : α → Prop} {o : Option α} : wR P X (ofO o) ↔ wF P o := by cases o <;> exact Iff.rfl
theorem w_addI : wR Q X (opAdd (.int i) (.int j)) ↔ Q (.int (i + j)) := Iff.rfl
theorem w_addS : wR Q X (opAdd (.str s) (.str t)) ↔ Sz (s.length + t.length) ∧ Q (.str (s ++ t)) := w_ite
theorem w_addL : wR Q X (opAdd (.lst xs) (.lst ys)) ↔ Sz (xs.length + ys.length) ∧ Q (.lst (xs ++ ys)) := w_ite
theorem w_addT : wR Q X (opAdd (.tup xs) (.tup ys)) ↔ (xs ≠ [] ∧ ys ≠ [] ∧ Sz (xs.length + ys.length)) ∧ Q (.tup (xs ++ ys)) := w_ite
theorem w_mulI : wR Q X (opMul (.int i) (.int j)) ↔ (Bd i ∧ Bd j) ∧ Q (.int (i * j)) := w_ite
theorem w_mulS : wR Q X (opMul (.str s) (.int j)) ↔ (0 ≤ j ∧ j ≤ 4000 ∧ s.length ≤ 1000) ∧ Q (.str (Txt.mul s j)) := w_ite
theorem w_mulL : wR Q X (opMul (.lst xs) (.int j)) ↔ (-4000000 ≤ j ∧ j ≤ 4000000 ∧ Sz (xs.length * j.toNat)) ∧ Q (.lst (List.replicate j.toNat xs).flatten) := w_ite
theorem w_sub : wR Q X (opSub (.int i) (.int j)) ↔ Q (.int (i - j)) := Iff.rfl
theorem w_div : wR Q X (opDiv (.int i) (.int j)) ↔ (0 < j ∧ Bd j) ∧ Q (.int (i / j)) := w_ite
theorem w_mod : wR Q X (opMod (.int i) (.int j)) ↔ 0 < j ∧ Q (.int (i % j)) := w_ite
theorem w_pow : wR Q X (opPow (.int i) (.int j)) ↔ (0 ≤ j ∧ j ≤ 1000000 ∧ i.natAbs < 2 ^ 64) ∧ Q (.int (i ^ j.toNat)) := w_ite
theorem w_shl : wR Q X (opShl (.int i) (.int j)) ↔ (0 ≤ j ∧ j ≤ 1000000 ∧ i.natAbs < 2 ^ 64) ∧ Q (.int (i * 2 ^ j.toNat)) := w_ite
theorem w_lt : wR Q X (opLt (.int i) (.int j)) ↔ Q (.bl (decide (i < j))) := Iff.rfl
theorem w_le : wR Q X (opLe (.int i) (.int j)) ↔ Q (.bl (decide (i ≤ j))) := Iff.rfl
theorem w_gt : wR Q X (opGt (.int i) (.int j)) ↔ Q (.bl (decide (j < i))) := Iff.rfl
theorem w_ge : wR Q X (opGe (.int i) (.int j)) ↔ Q (.bl (decide (j ≤ i))) := Iff.rfl
theorem w_neg : wR Q X (opNeg (.int i)) ↔ Q (.int (-i)) := Iff.rfl
theorem w_eqG : wR Q X (opEq x y) ↔ (match strEq x y with | some b => Q (.bl b) | none => (okD x = true ∧ okD y = true) ∧ Q (.bl (eqD x y))) := by
  unfold opEq
  cases strEq x y with
  | some b => exact Iff.rfl
  | none => exact w_ite
theorem w_neG : wR Q X (opNe x y) ↔ (match strEq x y with | some b => Q (.bl (!b)) | none => (okD x = true ∧ okD y = true) ∧ Q (.bl (!eqD x y))) := by
  unfold opNe
  cases strEq x y with
  | some b => exact Iff.rfl
  | none => exact w_ite
theorem w_eqS : wR Q X (opEq (.str s) (.str t)) ↔ Q (.bl (decide (s = t))) := Iff.rfl
theorem w_neS : wR Q X (opNe (.str s) (.str t)) ↔ Q (.bl (!decide (s = t))) := Iff.rfl
theorem w_eqL : wR Q X (opEq (.lst xs) (.lst ys)) ↔ (okD (.lst xs) = true ∧ okD (.lst ys) = true) ∧ Q (.bl (eqD (.lst xs) (.lst ys))) := w_ite
theorem w_neL : wR Q X (opNe (.lst xs) (.lst ys)) ↔ (okD (.lst xs) = true ∧ okD (.lst ys) = true) ∧ Q (.bl (!eqD (.lst xs) (.lst ys))) := w_ite
theorem okD_int : okD (.int i) = true := rfl
theorem okD_bl : okD (.bl a) = true := rfl
theorem okD_non : okD .non = true := rfl
theorem eqD_int : eqD (.int i) (.int j) = decide (i = j) := by
  by_cases h : i = j <;> simp [eqD, toP, PyData.eqv, h]
theorem w_eqI : wR Q X (opEq (.int i) (.int j)) ↔ Q (.bl (decide (i = j))) := by
  rw [w_eqG]
  show (_ ∧ _) ↔ _
  rw [eqD_int]; simp only [okD_int, true_and]
theorem w_neI : wR Q X (opNe (.int i) (.int j)) ↔ Q (.bl (!decide (i = j))) := by
  rw [w_neG]
  show (_ ∧ _) ↔ _
  rw [eqD_int]; simp only [okD_int, true_and]
theorem w_isNN : wR Q X (opIs .non .non) ↔ Q (.bl true) := Iff.rfl
theorem w_isIN : wR Q X (opIs (.int i) .non) ↔ Q (.bl false) := Iff.rfl
theorem w_isB : wR Q X (opIs (.bl a) (.bl b)) ↔ Q (.bl (decide (a = b))) := Iff.rfl
theorem w_isIB : wR Q X (opIs (.int i) (.bl b)) ↔ Q (.bl false) := by cases b <;> exact Iff.rfl
theorem w_isNNn : wR Q X (opIsNot .non .non) ↔ Q (.bl false) := Iff.rfl
theorem w_isINn : wR Q X (opIsNot (.int i) .non) ↔ Q (.bl true) := Iff.rfl
theorem w_isBn : wR Q X (opIsNot (.bl a) (.bl b)) ↔ Q (.bl (!decide (a = b))) := Iff.rfl
theorem w_isIBn : wR Q X (opIsNot (.int i) (.bl b)) ↔ Q (.bl true) := by cases b <;> exact Iff.rfl
theorem w_ixL : wR Q X (opIx (.lst xs) (.int i)) ↔ wF Q (atI xs i) := w_ofO
theorem w_ixT : wR Q X (opIx (.tup xs) (.int i)) ↔ wF Q (atI xs i) := w_ofO
theorem w_slL : wR Q X (opSl (.lst xs) lo hi) ↔ Q (.lst (cutD xs lo hi)) := Iff.rfl
theorem w_slT : wR Q X (opSl (.tup xs) lo hi) ↔ Q (.tup (cutD xs lo hi)) := Iff.rfl
theorem w_opLst : wR Q X (opLst xs) ↔ xs.length ≤ 1000000 ∧ Q (.lst xs) := w_ite
theorem w_opTup : wR Q X (opTup xs) ↔ xs.length ≤ 1000000 ∧ Q (.tup xs) := w_ite
theorem w_lenL : wR Q X (opLen [.lst xs]) ↔ Q (.int xs.length) := Iff.rfl
theorem w_lenT : wR Q X (opLen [.tup xs]) ↔ Q (.int xs.length) := Iff.rfl
theorem w_max2 : wR Q X (opMax2 [.int i, .int j]) ↔ Q (.int (if j > i then j else i)) := Iff.rfl
theorem w_min2 : wR Q X (opMin2 [.int i, .int j]) ↔ Q (.int (if j < i then j else i)) := Iff.rfl
theorem w_intI : wR Q X (opInt [.int i]) ↔ Q (.int i) := Iff.rfl
theorem w_intB : wR Q X (opInt [.bl a]) ↔ Q (.int (if a then 1 else 0)) := Iff.rfl
theorem w_listL : wR Q X (opList [.lst xs]) ↔ Q (.lst xs) := Iff.rfl
theorem w_listT : wR Q X (opList [.tup xs]) ↔ Q (.lst xs) := Iff.rfl
theorem w_tupL : wR Q X (opTuple [.lst xs]) ↔ Q (.tup xs) := Iff.rfl
theorem w_tupT : wR Q X (opTuple [.tup xs]) ↔ Q (.tup xs) := Iff.rfl
theorem w_isi {cs : List Cl} : wR Q X (opIsi cs x) ↔ Q (.bl (cs.any fun c => isi1 c x)) := Iff.rfl
theorem w_r1 : wR QL X (itRange [.int i]) ↔ Lm i ∧ QL (rngD 0 i.toNat) := w_ite
theorem w_r2 : wR QL X (itRange [.int i, .int j]) ↔ (Lm i ∧ Lm j) ∧ QL (rngD i (j - i).toNat) := w_ite
theorem w_rf {ds : List D} : wR QL X ((fun ds => if ds.length = 1 then itRange ds else .no) ds) ↔ ds.length = 1 ∧ wR QL X (itRange ds) := w_ite
theorem w_rf1 {ds : List D} : wR QL X (if ds.length = 1 then itRange ds else .no) ↔ ds.length = 1 ∧ wR QL X (itRange ds) := w_ite
theorem w_rN {n : Nat} {ds : List D} : wR QL X (itR n ds) ↔ ds.length = n ∧ wR QL X (itRange ds) := w_ite
theorem w_seqL : wR QL X (seqD (.lst xs)) ↔ QL xs := Iff.rfl
theorem w_seqT : wR QL X (seqD (.tup xs)) ↔ QL xs := Iff.rfl
theorem w_enum : wR QL X (itEnum [.lst xs]) ↔ QL (enD xs) := Iff.rfl
theorem w_zip : wR QL X (itZip [.lst xs, .lst ys]) ↔ QL (zpD xs ys) := Iff.rfl
theorem w_sum {ns : List Int} : wR Q X (opSum [.lst (ns.map D.int)]) ↔ Q (.int ns.sum) := by
  unfold opSum lstD un
  simp only [Option.bind_some, ints?_map, ofO_some, Rs.bind_ok, wR_ok]
theorem w_all {ns : List Bool} : wR Q X (opAll [.lst (ns.map D.bl)]) ↔ Q (.bl (ns.all id)) := by
  unfold opAll lstD un
  simp only [Option.bind_some, bls?_map, ofO_some, Rs.bind_ok, wR_ok]
theorem w_any {ns : List Bool} : wR Q X (opAny [.lst (ns.map D.bl)]) ↔ Q (.bl (ns.any id)) := by
  unfold opAny lstD un
  simp only [Option.bind_some, bls?_map, ofO_some, Rs.bind_ok, wR_ok]
theorem w_repr : wR Q X (opRepr [x]) ↔ okR x ∧ Q (.str (toP x).shown) := w_ite
theorem w_eqR (h : okD x = true) : wR Q X (opEq x x) ↔ Q (.bl true) := by
  rw [w_eqG]
  cases hs : strEq x x with
  | some b => obtain ⟨i, j, h1, h2, rfl⟩ := strEq_some hs; rw [h1] at h2; cases h2; simp
  | none => simp only [h, true_and]; rw [show eqD x x = true from SeqAt.eqv_refl _ (SeqAt.canLay_of_shaped (okD_s h))]
/-- the law's own comparison, of a thing with itself -/
theorem eqD_refl {d : D} (h : okD d = true) : eqD d d = true := SeqAt.eqv_refl _ (SeqAt.canLay_of_shaped (okD_s h))
end
end Y

namespace Y
open PySem PySem.Spec PyProof.Rows L2 Z

/-! ## the same, with what comes behind hidden from simp -/
class HR (α : Type) where
  p : α → Prop
  x : XR0
class HO (α : Type) where
  p : α → Env → Prop
  x : XE0
class HS where
  nx : Env → Prop
  rt : D → Env → Prop
  bk : Env → Prop
  ct : Env → Prop
  x : XE0
class HP (α : Type) where
  p : α → Prop
structure vR {α : Type} [P : HR α] (x : Rs α) : Prop where
  out : wR P.p P.x x
structure vO {α : Type} [P : HO α] (x : Ou α) : Prop where
  out : wO P.p P.x x
structure vS [P : HS] (x : So) : Prop where
  out : wS P.nx P.rt P.bk P.ct P.x x
structure vE [P : HP D] (Γ : Env) (i : Nat) : Prop where
  out : gE P.p Γ i
structure vF {α : Type} [P : HP α] (x : Option α) : Prop where
  out : wF P.p x
structure vL [P : HP (List D)] (Γ : Env) (i : Nat) : Prop where
  out : gL P.p Γ i
theorem vR_iff {α : Type} [P : HR α] {x : Rs α} : vR x ↔ wR P.p P.x x := ⟨fun h => h.out, fun h => ⟨h⟩⟩
theorem vO_iff {α : Type} [P : HO α] {x : Ou α} : vO x ↔ wO P.p P.x x := ⟨fun h => h.out, fun h => ⟨h⟩⟩
theorem vS_iff [P : HS] {x : So} : vS x ↔ wS P.nx P.rt P.bk P.ct P.x x := ⟨fun h => h.out, fun h => ⟨h⟩⟩
theorem vE_iff [P : HP D] {Γ : Env} {i : Nat} : vE Γ i ↔ gE P.p Γ i := ⟨fun h => h.out, fun h => ⟨h⟩⟩
theorem vF_iff {α : Type} [P : HP α] {x : Option α} : vF x ↔ wF P.p x := ⟨fun h => h.out, fun h => ⟨h⟩⟩
theorem vL_iff [P : HP (List D)] {Γ : Env} {i : Nat} : vL Γ i ↔ gL P.p Γ i := ⟨fun h => h.out, fun h => ⟨h⟩⟩
theorem vF_mk {α : Type} {Q : α → Prop} {x : Option α} (h : wF Q x) : vF (P := ⟨Q⟩) x := @vF.mk _ ⟨Q⟩ _ h
theorem vO_mk {α : Type} {P : α → Env → Prop} {X : XE0} {x : Ou α} (h : wO P X x) : vO (P := ⟨P, X⟩) x := @vO.mk _ ⟨P, X⟩ _ h
theorem vO_out {α : Type} {P : α → Env → Prop} {X : XE0} {x : Ou α} (h : vO (P := ⟨P, X⟩) x) : wO P X x := @vO.out _ ⟨P, X⟩ _ h
theorem vR_mk {α : Type} {P : α → Prop} {X : XR0} {x : Rs α} (h : wR P X x) : vR (P := ⟨P, X⟩) x := @vR.mk _ ⟨P, X⟩ _ h
theorem vR_out {α : Type} {P : α → Prop} {X : XR0} {x : Rs α} (h : vR (P := ⟨P, X⟩) x) : wR P X x := @vR.out _ ⟨P, X⟩ _ h
theorem vS_mk {nx : Env → Prop} {rt : D → Env → Prop} {bk ct : Env → Prop} {X : XE0} {x : So} (h : wS nx rt bk ct X x) : vS (P := ⟨nx, rt, bk, ct, X⟩) x := @vS.mk ⟨nx, rt, bk, ct, X⟩ _ h
theorem vS_out {nx : Env → Prop} {rt : D → Env → Prop} {bk ct : Env → Prop} {X : XE0} {x : So} (h : vS (P := ⟨nx, rt, bk, ct, X⟩) x) : wS nx rt bk ct X x := @vS.out ⟨nx, rt, bk, ct, X⟩ _ h
section
variable {α β : Type} {P : α → Prop} {X : XR0} {nx : Env → Prop} {rt : D → Env → Prop} {bk ct : Env → Prop} {XE : XE0} {Γ Γ' : Env} {Q : D → Prop} {QE : D → Env → Prop} {QB : Bool → Prop} {QBE : Bool → Env → Prop} {QL : List D → Prop} {QLE : List D → Env → Prop} {i j : Nat} {d : D}
theorem vwR_ok {a : α} : vR (P := ⟨P, X⟩) (.ok a) ↔ P a := by
  simp only [vR_iff, vO_iff, vS_iff, vE_iff, vF_iff, vL_iff]
  exact wR_ok
theorem vwR_ex {c : Nat} {fs : List (Str × D)} : vR (P := ⟨P, X⟩) (.ex c fs) ↔ X c fs := by
  simp only [vR_iff, vO_iff, vS_iff, vE_iff, vF_iff, vL_iff]
  exact wR_ex
theorem vwR_no : vR (P := ⟨P, X⟩) .no ↔ False := by
  simp only [vR_iff, vO_iff, vS_iff, vE_iff, vF_iff, vL_iff]
  exact wR_no
theorem vwO_ok {P : α → Env → Prop} {a : α} : vO (P := ⟨P, XE⟩) (.ok a Γ) ↔ P a Γ := by
  simp only [vR_iff, vO_iff, vS_iff, vE_iff, vF_iff, vL_iff]
  exact wO_ok
theorem vwO_ex {P : α → Env → Prop} {c : Nat} {fs : List (Str × D)} : vO (P := ⟨P, XE⟩) (.ex c fs Γ) ↔ XE c fs Γ := by
  simp only [vR_iff, vO_iff, vS_iff, vE_iff, vF_iff, vL_iff]
  exact wO_ex
theorem vwO_no {P : α → Env → Prop} : vO (P := ⟨P, XE⟩) .no ↔ False := by
  simp only [vR_iff, vO_iff, vS_iff, vE_iff, vF_iff, vL_iff]
  exact wO_no
theorem vwS_nx : vS (P := ⟨nx, rt, bk, ct, XE⟩) (.nx Γ) ↔ nx Γ := by
  simp only [vR_iff, vO_iff, vS_iff, vE_iff, vF_iff, vL_iff]
  exact wS_nx
theorem vwS_rt : vS (P := ⟨nx, rt, bk, ct, XE⟩) (.rt d Γ) ↔ rt d Γ := by
  simp only [vR_iff, vO_iff, vS_iff, vE_iff, vF_iff, vL_iff]
  exact wS_rt
theorem vwS_bk : vS (P := ⟨nx, rt, bk, ct, XE⟩) (.bk Γ) ↔ bk Γ := by
  simp only [vR_iff, vO_iff, vS_iff, vE_iff, vF_iff, vL_iff]
  exact wS_bk
theorem vwS_ct : vS (P := ⟨nx, rt, bk, ct, XE⟩) (.ct Γ) ↔ ct Γ := by
  simp only [vR_iff, vO_iff, vS_iff, vE_iff, vF_iff, vL_iff]
  exact wS_ct
theorem vwS_ex {c : Nat} {fs : List (Str × D)} : vS (P := ⟨nx, rt, bk, ct, XE⟩) (.ex c fs Γ) ↔ XE c fs Γ := by
  simp only [vR_iff, vO_iff, vS_iff, vE_iff, vF_iff, vL_iff]
  exact wS_ex
theorem vwS_no : vS (P := ⟨nx, rt, bk, ct, XE⟩) .no ↔ False := by
  simp only [vR_iff, vO_iff, vS_iff, vE_iff, vF_iff, vL_iff]
  exact wS_no
theorem vwF_some {a : α} : vF (P := ⟨P⟩) (some a) ↔ P a := by
  simp only [vR_iff, vO_iff, vS_iff, vE_iff, vF_iff, vL_iff]
  exact wF_some
theorem vwF_none : vF (P := ⟨P⟩) none ↔ False := by
  simp only [vR_iff, vO_iff, vS_iff, vE_iff, vF_iff, vL_iff]
  exact wF_none
theorem vwR_bind {x : Rs β} {k : β → Rs α} : vR (P := ⟨P, X⟩) (x.bind k) ↔ vR (P := ⟨(fun b => vR (P := ⟨P, X⟩) (k b)), X⟩) x := by
  simp only [vR_iff, vO_iff, vS_iff, vE_iff, vF_iff, vL_iff]
  exact wR_bind
theorem vwO_bind {P : α → Env → Prop} {x : Ou β} {k : β → Env → Ou α} : vO (P := ⟨P, XE⟩) (x.bind k) ↔ vO (P := ⟨(fun b Γ => vO (P := ⟨P, XE⟩) (k b Γ)), XE⟩) x := by
  simp only [vR_iff, vO_iff, vS_iff, vE_iff, vF_iff, vL_iff]
  exact wO_bind
theorem vwO_ou {P : α → Env → Prop} {x : Rs α} : vO (P := ⟨P, XE⟩) (x.ou Γ) ↔ vR (P := ⟨(fun a => P a Γ), (fun c fs => XE c fs Γ)⟩) x := by
  simp only [vR_iff, vO_iff, vS_iff, vE_iff, vF_iff, vL_iff]
  exact wO_ou
theorem vwR_rs {x : Ou α} : vR (P := ⟨P, X⟩) x.rs ↔ vO (P := ⟨(fun a _ => P a), (fun c fs _ => X c fs)⟩) x := by
  simp only [vR_iff, vO_iff, vS_iff, vE_iff, vF_iff, vL_iff]
  exact wR_rs
theorem vwS_so {x : Ou α} {k : α → Env → So} : vS (P := ⟨nx, rt, bk, ct, XE⟩) (x.so k) ↔ vO (P := ⟨(fun a Γ => vS (P := ⟨nx, rt, bk, ct, XE⟩) (k a Γ)), XE⟩) x := by
  simp only [vR_iff, vO_iff, vS_iff, vE_iff, vF_iff, vL_iff]
  exact wS_so
theorem vwS_sq {x : So} {k : Env → So} : vS (P := ⟨nx, rt, bk, ct, XE⟩) (x.seq k) ↔ vS (P := ⟨(fun Γ => vS (P := ⟨nx, rt, bk, ct, XE⟩) (k Γ)), rt, bk, ct, XE⟩) x := by
  simp only [vR_iff, vO_iff, vS_iff, vE_iff, vF_iff, vL_iff]
  exact wS_sq
theorem vgE_0 : vE (P := ⟨Q⟩) (some d :: Γ) 0 ↔ Q d := by
  simp only [vR_iff, vO_iff, vS_iff, vE_iff, vF_iff, vL_iff]
  exact gE_0
theorem vgE_s {o : Option D} : vE (P := ⟨Q⟩) (o :: Γ) (i + 1) ↔ vE (P := ⟨Q⟩) Γ i := by
  simp only [vR_iff, vO_iff, vS_iff, vE_iff, vF_iff, vL_iff]
  exact gE_s
theorem vgE_n : vE (P := ⟨Q⟩) (none :: Γ) 0 ↔ False := by
  simp only [vR_iff, vO_iff, vS_iff, vE_iff, vF_iff, vL_iff]
  exact gE_n
theorem vw_pVar : vR (P := ⟨Q, X⟩) (pVar i Γ) ↔ vE (P := ⟨Q⟩) Γ i := by
  simp only [vR_iff, vO_iff, vS_iff, vE_iff, vF_iff, vL_iff]
  exact w_pVar
theorem vw_pC : vR (P := ⟨Q, X⟩) (pC d Γ) ↔ Q d := by
  simp only [vR_iff, vO_iff, vS_iff, vE_iff, vF_iff, vL_iff]
  exact w_pC
theorem vw_pOp {op : D → D → Rs D} {a b : Env → Rs D} : vR (P := ⟨Q, X⟩) (pOp op a b Γ) ↔ vR (P := ⟨(fun x => vR (P := ⟨(fun y => vR (P := ⟨Q, X⟩) (op x y)), X⟩) (b Γ)), X⟩) (a Γ) := by
  simp only [vR_iff, vO_iff, vS_iff, vE_iff, vF_iff, vL_iff]
  exact w_pOp
theorem vw_pUn {op : D → Rs D} {a : Env → Rs D} : vR (P := ⟨Q, X⟩) (pUn op a Γ) ↔ vR (P := ⟨(fun x => vR (P := ⟨Q, X⟩) (op x)), X⟩) (a Γ) := by
  simp only [vR_iff, vO_iff, vS_iff, vE_iff, vF_iff, vL_iff]
  exact w_pUn
theorem vw_pNil : vR (P := ⟨QL, X⟩) (pNil Γ) ↔ QL [] := by
  simp only [vR_iff, vO_iff, vS_iff, vE_iff, vF_iff, vL_iff]
  exact w_pNil
theorem vw_pCons {a : Env → Rs D} {b : Env → Rs (List D)} : vR (P := ⟨QL, X⟩) (pCons a b Γ) ↔ vR (P := ⟨(fun x => vR (P := ⟨(fun xs => QL (x :: xs)), X⟩) (b Γ)), X⟩) (a Γ) := by
  simp only [vR_iff, vO_iff, vS_iff, vE_iff, vF_iff, vL_iff]
  exact w_pCons
theorem vw_pArg {op : List D → Rs D} {a : Env → Rs (List D)} : vR (P := ⟨Q, X⟩) (pArg op a Γ) ↔ vR (P := ⟨(fun x => vR (P := ⟨Q, X⟩) (op x)), X⟩) (a Γ) := by
  simp only [vR_iff, vO_iff, vS_iff, vE_iff, vF_iff, vL_iff]
  exact w_pArg
theorem vw_pTst {a : Env → Rs D} : vR (P := ⟨QB, X⟩) (pTst a Γ) ↔ vR (P := ⟨(fun x => vR (P := ⟨QB, X⟩) (asB x)), X⟩) (a Γ) := by
  simp only [vR_iff, vO_iff, vS_iff, vE_iff, vF_iff, vL_iff]
  exact w_pTst
theorem vw_bAnd {a b : Env → Rs Bool} : vR (P := ⟨QB, X⟩) (bAnd a b Γ) ↔ vR (P := ⟨(fun x => (x = true → vR (P := ⟨QB, X⟩) (b Γ)) ∧ (x = false → QB false)), X⟩) (a Γ) := by
  simp only [vR_iff, vO_iff, vS_iff, vE_iff, vF_iff, vL_iff]
  exact w_bAnd
theorem vw_bOr {a b : Env → Rs Bool} : vR (P := ⟨QB, X⟩) (bOr a b Γ) ↔ vR (P := ⟨(fun x => (x = true → QB true) ∧ (x = false → vR (P := ⟨QB, X⟩) (b Γ))), X⟩) (a Γ) := by
  simp only [vR_iff, vO_iff, vS_iff, vE_iff, vF_iff, vL_iff]
  exact w_bOr
theorem vw_bNot {a : Env → Rs Bool} : vR (P := ⟨QB, X⟩) (bNot a Γ) ↔ vR (P := ⟨(fun x => QB (!x)), X⟩) (a Γ) := by
  simp only [vR_iff, vO_iff, vS_iff, vE_iff, vF_iff, vL_iff]
  exact w_bNot
theorem vw_bYes : vR (P := ⟨QB, X⟩) (bYes Γ) ↔ QB true := by
  simp only [vR_iff, vO_iff, vS_iff, vE_iff, vF_iff, vL_iff]
  exact w_bYes
theorem vw_pAnd {a b : Env → Rs D} : vR (P := ⟨Q, X⟩) (pAnd a b Γ) ↔ vR (P := ⟨(fun x => vR (P := ⟨(fun c => (c = true → vR (P := ⟨Q, X⟩) (b Γ)) ∧ (c = false → Q (.bl false))), X⟩) (asB x)), X⟩) (a Γ) := by
  simp only [vR_iff, vO_iff, vS_iff, vE_iff, vF_iff, vL_iff]
  exact w_pAnd
theorem vw_pOr {a b : Env → Rs D} : vR (P := ⟨Q, X⟩) (pOr a b Γ) ↔ vR (P := ⟨(fun x => vR (P := ⟨(fun c => (c = true → Q (.bl true)) ∧ (c = false → vR (P := ⟨Q, X⟩) (b Γ))), X⟩) (asB x)), X⟩) (a Γ) := by
  simp only [vR_iff, vO_iff, vS_iff, vE_iff, vF_iff, vL_iff]
  exact w_pOr
theorem vw_pNot {a : Env → Rs D} : vR (P := ⟨Q, X⟩) (pNot a Γ) ↔ vR (P := ⟨(fun x => vR (P := ⟨(fun c => Q (.bl (!c))), X⟩) (asB x)), X⟩) (a Γ) := by
  simp only [vR_iff, vO_iff, vS_iff, vE_iff, vF_iff, vL_iff]
  exact w_pNot
theorem vw_pIf {c : Env → Rs Bool} {a b : Env → Rs D} : vR (P := ⟨Q, X⟩) (pIf c a b Γ) ↔ vR (P := ⟨(fun x => (x = true → vR (P := ⟨Q, X⟩) (a Γ)) ∧ (x = false → vR (P := ⟨Q, X⟩) (b Γ))), X⟩) (c Γ) := by
  simp only [vR_iff, vO_iff, vS_iff, vE_iff, vF_iff, vL_iff]
  exact w_pIf
theorem vw_pChain {o1 o2 : D → D → Rs D} {a b c : Env → Rs D} : vR (P := ⟨Q, X⟩) (pChain o1 o2 a b c Γ) ↔ vR (P := ⟨(fun x => vR (P := ⟨(fun y => vR (P := ⟨(fun z => vR (P := ⟨(fun k => (k = true → vR (P := ⟨(fun w => vR (P := ⟨Q, X⟩) (o2 y w)), X⟩) (c Γ)) ∧ (k = false → Q (.bl false))), X⟩) (asB z)), X⟩) (o1 x y)), X⟩) (b Γ)), X⟩) (a Γ) := by
  simp only [vR_iff, vO_iff, vS_iff, vE_iff, vF_iff, vL_iff]
  exact w_pChain
theorem vw_pSca {f : Env → Rs D} : vR (P := ⟨Q, X⟩) (pSca f Γ) ↔ vR (P := ⟨(fun d => sca d = true ∧ Q d), X⟩) (f Γ) := by
  simp only [vR_iff, vO_iff, vS_iff, vE_iff, vF_iff, vL_iff]
  exact w_pSca
theorem vw_pCall {dds : List D} {sf : List D → Ou D} {fs : Env → Rs (List D)} : vR (P := ⟨Q, X⟩) (pCall dds sf fs Γ) ↔ vR (P := ⟨(fun ds => vO (P := ⟨(fun r _ => Q r), (fun c f _ => X c f)⟩) (sf (ds ++ dds))), X⟩) (fs Γ) := by
  simp only [vR_iff, vO_iff, vS_iff, vE_iff, vF_iff, vL_iff]
  exact w_pCall
theorem vw_asB {b : Bool} : vR (P := ⟨QB, X⟩) (asB (.bl b)) ↔ QB b := by
  simp only [vR_iff, vO_iff, vS_iff, vE_iff, vF_iff, vL_iff]
  exact w_asB
theorem vw_pNone {QO : Option Int → Prop} : vR (P := ⟨QO, X⟩) (pNone Γ) ↔ QO none := by
  simp only [vR_iff, vO_iff, vS_iff, vE_iff, vF_iff, vL_iff]
  exact w_pNone
theorem vw_pSome {QO : Option Int → Prop} {f : Env → Rs D} : vR (P := ⟨QO, X⟩) (pSome f Γ) ↔ vR (P := ⟨(fun d => vR (P := ⟨(fun i => QO (some i)), X⟩) (asI d)), X⟩) (f Γ) := by
  simp only [vR_iff, vO_iff, vS_iff, vE_iff, vF_iff, vL_iff]
  exact w_pSome
theorem vw_asI {QI : Int → Prop} {n : Int} : vR (P := ⟨QI, X⟩) (asI (.int n)) ↔ QI n := by
  simp only [vR_iff, vO_iff, vS_iff, vE_iff, vF_iff, vL_iff]
  exact w_asI
theorem vw_pSl {f : Env → Rs D} {l h : Env → Rs (Option Int)} : vR (P := ⟨Q, X⟩) (pSl f l h Γ) ↔ vR (P := ⟨(fun x => vR (P := ⟨(fun lo => vR (P := ⟨(fun hi => vR (P := ⟨Q, X⟩) (opSl x lo hi)), X⟩) (h Γ)), X⟩) (l Γ)), X⟩) (f Γ) := by
  simp only [vR_iff, vO_iff, vS_iff, vE_iff, vF_iff, vL_iff]
  exact w_pSl
theorem vw_pLc {fi : Env → Rs (List D)} {g : GF} {tt : Env → Rs Bool} {fe : Env → Rs D} {vs : List Nat} : vR (P := ⟨Q, X⟩) (pLc fi g tt fe vs Γ) ↔ vR (P := ⟨(fun ds => ds.length ≤ 4000000 ∧ vR (P := ⟨(fun es => Q (.lst es)), X⟩) (mapO (pLc1 g tt fe (wipD Γ vs)) ds)), X⟩) (fi Γ) := by
  simp only [vR_iff, vO_iff, vS_iff, vE_iff, vF_iff, vL_iff]
  exact w_pLc
theorem vw_pIt {op : List D → Rs (List D)} {f : Env → Rs (List D)} : vR (P := ⟨QL, X⟩) (pIt op f Γ) ↔ vR (P := ⟨(fun x => vR (P := ⟨QL, X⟩) (op x)), X⟩) (f Γ) := by
  simp only [vR_iff, vO_iff, vS_iff, vE_iff, vF_iff, vL_iff]
  exact w_pIt
theorem vw_pSeq {f : Env → Rs D} : vR (P := ⟨QL, X⟩) (pSeq f Γ) ↔ vR (P := ⟨(fun x => vR (P := ⟨QL, X⟩) (seqD x)), X⟩) (f Γ) := by
  simp only [vR_iff, vO_iff, vS_iff, vE_iff, vF_iff, vL_iff]
  exact w_pSeq
theorem vw_pE {f : Env → Rs α} {P : α → Env → Prop} : vO (P := ⟨P, XE⟩) (pE f Γ) ↔ vR (P := ⟨(fun a => P a Γ), (fun c fs => XE c fs Γ)⟩) (f Γ) := by
  simp only [vR_iff, vO_iff, vS_iff, vE_iff, vF_iff, vL_iff]
  exact w_pE
theorem vw_eOp {op : D → D → Rs D} {a b : Env → Ou D} : vO (P := ⟨QE, XE⟩) (eOp op a b Γ) ↔ vO (P := ⟨(fun x Γ1 => vO (P := ⟨(fun y Γ2 => vR (P := ⟨(fun z => QE z Γ2), (fun c fs => XE c fs Γ2)⟩) (op x y)), XE⟩) (b Γ1)), XE⟩) (a Γ) := by
  simp only [vR_iff, vO_iff, vS_iff, vE_iff, vF_iff, vL_iff]
  exact w_eOp
theorem vw_eUn {op : D → Rs D} {a : Env → Ou D} : vO (P := ⟨QE, XE⟩) (eUn op a Γ) ↔ vO (P := ⟨(fun x Γ1 => vR (P := ⟨(fun z => QE z Γ1), (fun c fs => XE c fs Γ1)⟩) (op x)), XE⟩) (a Γ) := by
  simp only [vR_iff, vO_iff, vS_iff, vE_iff, vF_iff, vL_iff]
  exact w_eUn
theorem vw_eCons {a : Env → Ou D} {b : Env → Ou (List D)} : vO (P := ⟨QLE, XE⟩) (eCons a b Γ) ↔ vO (P := ⟨(fun x Γ1 => vO (P := ⟨(fun xs Γ2 => QLE (x :: xs) Γ2), XE⟩) (b Γ1)), XE⟩) (a Γ) := by
  simp only [vR_iff, vO_iff, vS_iff, vE_iff, vF_iff, vL_iff]
  exact w_eCons
theorem vw_eArg {op : List D → Rs D} {a : Env → Ou (List D)} : vO (P := ⟨QE, XE⟩) (eArg op a Γ) ↔ vO (P := ⟨(fun x Γ1 => vR (P := ⟨(fun z => QE z Γ1), (fun c fs => XE c fs Γ1)⟩) (op x)), XE⟩) (a Γ) := by
  simp only [vR_iff, vO_iff, vS_iff, vE_iff, vF_iff, vL_iff]
  exact w_eArg
theorem vw_eArgN {n : Nat} {op : List D → Rs D} {a : Env → Ou (List D)} : vO (P := ⟨QE, XE⟩) (eArgN n op a Γ) ↔ vO (P := ⟨(fun x Γ1 => x.length = n ∧ vR (P := ⟨(fun z => QE z Γ1), (fun c fs => XE c fs Γ1)⟩) (op x)), XE⟩) (a Γ) := by
  simp only [vR_iff, vO_iff, vS_iff, vE_iff, vF_iff, vL_iff]
  exact w_eArgN
theorem vw_eTst {a : Env → Ou D} : vO (P := ⟨QBE, XE⟩) (eTst a Γ) ↔ vO (P := ⟨(fun x Γ1 => vR (P := ⟨(fun b => QBE b Γ1), (fun c fs => XE c fs Γ1)⟩) (asB x)), XE⟩) (a Γ) := by
  simp only [vR_iff, vO_iff, vS_iff, vE_iff, vF_iff, vL_iff]
  exact w_eTst
theorem vw_cAnd {a b : Env → Ou Bool} : vO (P := ⟨QBE, XE⟩) (cAnd a b Γ) ↔ vO (P := ⟨(fun x Γ1 => (x = true → vO (P := ⟨QBE, XE⟩) (b Γ1)) ∧ (x = false → QBE false Γ1)), XE⟩) (a Γ) := by
  simp only [vR_iff, vO_iff, vS_iff, vE_iff, vF_iff, vL_iff]
  exact w_cAnd
theorem vw_cOr {a b : Env → Ou Bool} : vO (P := ⟨QBE, XE⟩) (cOr a b Γ) ↔ vO (P := ⟨(fun x Γ1 => (x = true → QBE true Γ1) ∧ (x = false → vO (P := ⟨QBE, XE⟩) (b Γ1))), XE⟩) (a Γ) := by
  simp only [vR_iff, vO_iff, vS_iff, vE_iff, vF_iff, vL_iff]
  exact w_cOr
theorem vw_cNot {a : Env → Ou Bool} : vO (P := ⟨QBE, XE⟩) (cNot a Γ) ↔ vO (P := ⟨(fun x Γ1 => QBE (!x) Γ1), XE⟩) (a Γ) := by
  simp only [vR_iff, vO_iff, vS_iff, vE_iff, vF_iff, vL_iff]
  exact w_cNot
theorem vw_eIf {c : Env → Ou Bool} {a b : Env → Ou D} : vO (P := ⟨QE, XE⟩) (eIf c a b Γ) ↔ vO (P := ⟨(fun x Γ1 => (x = true → vO (P := ⟨QE, XE⟩) (a Γ1)) ∧ (x = false → vO (P := ⟨QE, XE⟩) (b Γ1))), XE⟩) (c Γ) := by
  simp only [vR_iff, vO_iff, vS_iff, vE_iff, vF_iff, vL_iff]
  exact w_eIf
theorem vw_eAnd {a b : Env → Ou D} : vO (P := ⟨QE, XE⟩) (eAnd a b Γ) ↔ vO (P := ⟨(fun x Γ1 => vR (P := ⟨(fun c => (c = true → vO (P := ⟨QE, XE⟩) (b Γ1)) ∧ (c = false → QE (.bl false) Γ1)), (fun c fs => XE c fs Γ1)⟩) (asB x)), XE⟩) (a Γ) := by
  simp only [vR_iff, vO_iff, vS_iff, vE_iff, vF_iff, vL_iff]
  exact w_eAnd
theorem vw_eOr {a b : Env → Ou D} : vO (P := ⟨QE, XE⟩) (eOr a b Γ) ↔ vO (P := ⟨(fun x Γ1 => vR (P := ⟨(fun c => (c = true → QE (.bl true) Γ1) ∧ (c = false → vO (P := ⟨QE, XE⟩) (b Γ1))), (fun c fs => XE c fs Γ1)⟩) (asB x)), XE⟩) (a Γ) := by
  simp only [vR_iff, vO_iff, vS_iff, vE_iff, vF_iff, vL_iff]
  exact w_eOr
theorem vw_eTake : vO (P := ⟨QE, XE⟩) (eTake i Γ) ↔ vE (P := ⟨fun d => QE d (Γ.set i none)⟩) Γ i := by
  simp only [vR_iff, vO_iff, vS_iff, vE_iff, vF_iff, vL_iff]
  exact w_eTake
theorem vw_xNil : vO (P := ⟨QLE, XE⟩) (xNil Γ) ↔ QLE [] Γ := by
  simp only [vR_iff, vO_iff, vS_iff, vE_iff, vF_iff, vL_iff]
  exact w_xNil
theorem vw_xSlot {fs : Env → Ou (List D)} : vO (P := ⟨QLE, XE⟩) (xSlot i fs Γ) ↔ vE (P := ⟨fun _ => vO (P := ⟨(fun ds Γ1 => QLE (.non :: ds) Γ1), XE⟩) (fs Γ)⟩) Γ i := by
  simp only [vR_iff, vO_iff, vS_iff, vE_iff, vF_iff, vL_iff]
  exact w_xSlot
theorem vw_eCall {aks : List Ak} {dds : List D} {sf : List D → Ou D} {fs : Env → Ou (List D)} : vO (P := ⟨QE, XE⟩) (eCall aks dds sf fs Γ) ↔ vO (P := ⟨(fun ds Γ1 => vF (P := ⟨fun es => vO (P := ⟨(fun r Γ' => QE r (putA aks Γ' Γ1)), (fun c f Γ' => XE c f (putA aks Γ' Γ1))⟩) (sf (es ++ dds))⟩) (fillA aks ds Γ1)), XE⟩) (fs Γ) := by
  simp only [vR_iff, vO_iff, vS_iff, vE_iff, vF_iff, vL_iff]
  exact w_eCall
theorem vw_fnil : vF (P := ⟨QL⟩) (fillA [] [] Γ) ↔ QL [] := by
  simp only [vR_iff, vO_iff, vS_iff, vE_iff, vF_iff, vL_iff]
  exact w_fnil
theorem vwF_map {f : β → α} {o : Option β} : vF (P := ⟨P⟩) (o.map f) ↔ vF (P := ⟨fun b => P (f b)⟩) o := by
  simp only [vR_iff, vO_iff, vS_iff, vE_iff, vF_iff, vL_iff]
  exact wF_map
theorem vw_ffz {aks : List Ak} {ds : List D} : vF (P := ⟨QL⟩) (fillA (.fz :: aks) (d :: ds) Γ) ↔ vF (P := ⟨fun es => QL (d :: es)⟩) (fillA aks ds Γ) := by
  simp only [vR_iff, vO_iff, vS_iff, vE_iff, vF_iff, vL_iff]
  exact w_ffz
theorem vw_fbor {aks : List Ak} {ds : List D} : vF (P := ⟨QL⟩) (fillA (.bor i :: aks) (d :: ds) Γ) ↔ vE (P := ⟨fun x => vF (P := ⟨fun es => QL (x :: es)⟩) (fillA aks ds Γ)⟩) Γ i := by
  simp only [vR_iff, vO_iff, vS_iff, vE_iff, vF_iff, vL_iff]
  exact w_fbor
theorem vw_fown {aks : List Ak} {ds : List D} : vF (P := ⟨QL⟩) (fillA (.own i :: aks) (d :: ds) Γ) ↔ vE (P := ⟨fun x => vF (P := ⟨fun es => QL (x :: es)⟩) (fillA aks ds Γ)⟩) Γ i := by
  simp only [vR_iff, vO_iff, vS_iff, vE_iff, vF_iff, vL_iff]
  exact w_fown
theorem vw_pI {Θ : List Md} {fi : Env → Rs (List D)} : vO (P := ⟨QLE, XE⟩) (pI Θ fi Γ) ↔ vR (P := ⟨(fun a => QLE a Γ), (fun c fs => XE c fs Γ)⟩) (fi (mkE Θ Γ)) := by
  simp only [vR_iff, vO_iff, vS_iff, vE_iff, vF_iff, vL_iff]
  exact w_pI
theorem vw_eIt {op : List D → Rs (List D)} {f : Env → Ou (List D)} : vO (P := ⟨QLE, XE⟩) (eIt op f Γ) ↔ vO (P := ⟨(fun x Γ1 => vR (P := ⟨(fun z => QLE z Γ1), (fun c fs => XE c fs Γ1)⟩) (op x)), XE⟩) (f Γ) := by
  simp only [vR_iff, vO_iff, vS_iff, vE_iff, vF_iff, vL_iff]
  exact w_eIt
theorem vw_eSeq {f : Env → Ou D} : vO (P := ⟨QLE, XE⟩) (eSeq f Γ) ↔ vO (P := ⟨(fun x Γ1 => vR (P := ⟨(fun z => QLE z Γ1), (fun c fs => XE c fs Γ1)⟩) (seqD x)), XE⟩) (f Γ) := by
  simp only [vR_iff, vO_iff, vS_iff, vE_iff, vF_iff, vL_iff]
  exact w_eSeq
theorem vw_eLc {fi : Env → Ou (List D)} {g : GF} {tt : Env → Ou Bool} {fe : Env → Ou D} {vs : List Nat} : vO (P := ⟨QE, XE⟩) (eLc fi g tt fe vs Γ) ↔ vO (P := ⟨(fun ds Γ1 => ds.length ≤ 4000000 ∧ vO (P := ⟨(fun es Γ2 => QE (.lst es) (unwip Γ1 Γ2 vs)), XE⟩) (mapE g tt fe vs ds (wipD Γ1 vs))), XE⟩) (fi Γ) := by
  simp only [vR_iff, vO_iff, vS_iff, vE_iff, vF_iff, vL_iff]
  exact w_eLc
theorem vw_sSeq {a b : Env → So} : vS (P := ⟨nx, rt, bk, ct, XE⟩) (sSeq a b Γ) ↔ vS (P := ⟨(fun Γ1 => vS (P := ⟨nx, rt, bk, ct, XE⟩) (b Γ1)), rt, bk, ct, XE⟩) (a Γ) := by
  simp only [vR_iff, vO_iff, vS_iff, vE_iff, vF_iff, vL_iff]
  exact w_sSeq
theorem vw_sNext : vS (P := ⟨nx, rt, bk, ct, XE⟩) (sNext Γ) ↔ nx Γ := by
  simp only [vR_iff, vO_iff, vS_iff, vE_iff, vF_iff, vL_iff]
  exact w_sNext
theorem vw_sBrk : vS (P := ⟨nx, rt, bk, ct, XE⟩) (sBrk Γ) ↔ bk Γ := by
  simp only [vR_iff, vO_iff, vS_iff, vE_iff, vF_iff, vL_iff]
  exact w_sBrk
theorem vw_sCont : vS (P := ⟨nx, rt, bk, ct, XE⟩) (sCont Γ) ↔ ct Γ := by
  simp only [vR_iff, vO_iff, vS_iff, vE_iff, vF_iff, vL_iff]
  exact w_sCont
theorem vw_sNever : vS (P := ⟨nx, rt, bk, ct, XE⟩) (sNever Γ) ↔ False := by
  simp only [vR_iff, vO_iff, vS_iff, vE_iff, vF_iff, vL_iff]
  exact w_sNever
theorem vw_sRet {f : Env → Ou D} : vS (P := ⟨nx, rt, bk, ct, XE⟩) (sRet f Γ) ↔ vO (P := ⟨rt, XE⟩) (f Γ) := by
  simp only [vR_iff, vO_iff, vS_iff, vE_iff, vF_iff, vL_iff]
  exact w_sRet
theorem vw_sRetN : vS (P := ⟨nx, rt, bk, ct, XE⟩) (sRetN Γ) ↔ rt .non Γ := by
  simp only [vR_iff, vO_iff, vS_iff, vE_iff, vF_iff, vL_iff]
  exact w_sRetN
theorem vw_sDrop {f : Env → Ou D} : vS (P := ⟨nx, rt, bk, ct, XE⟩) (sDrop f Γ) ↔ vO (P := ⟨(fun _ Γ1 => nx Γ1), XE⟩) (f Γ) := by
  simp only [vR_iff, vO_iff, vS_iff, vE_iff, vF_iff, vL_iff]
  exact w_sDrop
theorem vw_sIf {c : Env → Ou Bool} {a b : Env → So} : vS (P := ⟨nx, rt, bk, ct, XE⟩) (sIf c a b Γ) ↔ vO (P := ⟨(fun k Γ1 => (k = true → vS (P := ⟨nx, rt, bk, ct, XE⟩) (a Γ1)) ∧ (k = false → vS (P := ⟨nx, rt, bk, ct, XE⟩) (b Γ1))), XE⟩) (c Γ) := by
  simp only [vR_iff, vO_iff, vS_iff, vE_iff, vF_iff, vL_iff]
  exact w_sIf
theorem vw_sAsg {f : Env → Ou D} : vS (P := ⟨nx, rt, bk, ct, XE⟩) (sAsg i f Γ) ↔ vO (P := ⟨(fun d Γ1 => nx (Γ1.set i (some d))), XE⟩) (f Γ) := by
  simp only [vR_iff, vO_iff, vS_iff, vE_iff, vF_iff, vL_iff]
  exact w_sAsg
theorem vw_sAsgG {g : GF} {f : Env → Ou D} : vS (P := ⟨nx, rt, bk, ct, XE⟩) (sAsgG g f Γ) ↔ vO (P := ⟨(fun d Γ1 => vF (P := ⟨nx⟩) (g d Γ1)), XE⟩) (f Γ) := by
  simp only [vR_iff, vO_iff, vS_iff, vE_iff, vF_iff, vL_iff]
  exact w_sAsgG
theorem vw_tgN : vF (P := ⟨nx⟩) (tgN i d Γ) ↔ nx (Γ.set i (some d)) := by
  simp only [vR_iff, vO_iff, vS_iff, vE_iff, vF_iff, vL_iff]
  exact w_tgN
theorem vw_tgNil : vF (P := ⟨nx⟩) (tgNil [] Γ) ↔ nx Γ := by
  simp only [vR_iff, vO_iff, vS_iff, vE_iff, vF_iff, vL_iff]
  exact w_tgNil
theorem vw_tgCons {g : GF} {gs : List D → Env → Option Env} {ds : List D} : vF (P := ⟨nx⟩) (tgCons g gs (d :: ds) Γ) ↔ vF (P := ⟨fun Γ1 => vF (P := ⟨nx⟩) (gs ds Γ1)⟩) (g d Γ) := by
  simp only [vR_iff, vO_iff, vS_iff, vE_iff, vF_iff, vL_iff]
  exact w_tgCons
theorem vw_tgT {gs : List D → Env → Option Env} {ds : List D} : vF (P := ⟨nx⟩) (tgT gs (.tup ds) Γ) ↔ vF (P := ⟨nx⟩) (gs ds Γ) := by
  simp only [vR_iff, vO_iff, vS_iff, vE_iff, vF_iff, vL_iff]
  exact w_tgT
theorem vw_sFor {fi : Env → Ou (List D)} {g : GF} {b : Env → So} : vS (P := ⟨nx, rt, bk, ct, XE⟩) (sFor fi g b Γ) ↔ vO (P := ⟨(fun ds Γ1 => vS (P := ⟨nx, rt, bk, ct, XE⟩) (forL g b ds Γ1)), XE⟩) (fi Γ) := by
  simp only [vR_iff, vO_iff, vS_iff, vE_iff, vF_iff, vL_iff]
  exact w_sFor
theorem vw_sWhile {n : Nat} {c : Env → Ou Bool} {b : Env → So} : vS (P := ⟨nx, rt, bk, ct, XE⟩) (sWhile n c b Γ) ↔ vS (P := ⟨nx, rt, bk, ct, XE⟩) (whL c b n Γ) := by
  simp only [vR_iff, vO_iff, vS_iff, vE_iff, vF_iff, vL_iff]
  exact w_sWhile
theorem vw_sPar {f g : Env → Ou D} : vS (P := ⟨nx, rt, bk, ct, XE⟩) (sPar i j f g Γ) ↔ vO (P := ⟨(fun d Γ1 => vO (P := ⟨(fun d2 Γ2 => nx ((Γ2.set i (some d)).set j (some d2))), XE⟩) (g Γ1)), XE⟩) (f Γ) := by
  simp only [vR_iff, vO_iff, vS_iff, vE_iff, vF_iff, vL_iff]
  exact w_sPar
theorem vw_sPar3 {l : Nat} {f g h : Env → Ou D} : vS (P := ⟨nx, rt, bk, ct, XE⟩) (sPar3 i j l f g h Γ) ↔ vO (P := ⟨(fun d Γ1 => vO (P := ⟨(fun d2 Γ2 => vO (P := ⟨(fun d3 Γ3 => nx (((Γ3.set i (some d)).set j (some d2)).set l (some d3))), XE⟩) (h Γ2)), XE⟩) (g Γ1)), XE⟩) (f Γ) := by
  simp only [vR_iff, vO_iff, vS_iff, vE_iff, vF_iff, vL_iff]
  exact w_sPar3
theorem vgL_0 {ds : List D} : vL (P := ⟨QL⟩) (some (.lst ds) :: Γ) 0 ↔ QL ds := by
  simp only [vR_iff, vO_iff, vS_iff, vE_iff, vF_iff, vL_iff]
  exact gL_0
theorem vgL_s {o : Option D} : vL (P := ⟨QL⟩) (o :: Γ) (i + 1) ↔ vL (P := ⟨QL⟩) Γ i := by
  simp only [vR_iff, vO_iff, vS_iff, vE_iff, vF_iff, vL_iff]
  exact gL_s
theorem vw_sApp {f : Env → Ou D} : vS (P := ⟨nx, rt, bk, ct, XE⟩) (sApp i f Γ) ↔ vL (P := ⟨fun _ => vO (P := ⟨(fun d Γ1 => vL (P := ⟨fun ds => Sz ds.length ∧ nx (Γ1.set i (some (.lst (ds ++ [d]))))⟩) Γ1 i), XE⟩) (f Γ)⟩) Γ i := by
  simp only [vR_iff, vO_iff, vS_iff, vE_iff, vF_iff, vL_iff]
  exact w_sApp
theorem vw_sSetI {fk f : Env → Ou D} : vS (P := ⟨nx, rt, bk, ct, XE⟩) (sSetI i fk f Γ) ↔ vO (P := ⟨(fun d Γ1 => vL (P := ⟨fun _ => vO (P := ⟨(fun k Γ2 => vL (P := ⟨fun ds => vR (P := ⟨(fun j => vF (P := ⟨fun m => nx (Γ2.set i (some (.lst (ds.set m d))))⟩) (ixN ds.length j)), (fun _ _ => False)⟩) (asI k)⟩) Γ2 i), XE⟩) (fk Γ1)⟩) Γ1 i), XE⟩) (f Γ) := by
  simp only [vR_iff, vO_iff, vS_iff, vE_iff, vF_iff, vL_iff]
  exact w_sSetI
theorem vw_fnO {ms : List Md} {x : So} : vO (P := ⟨QE, XE⟩) (fnO ms x) ↔ vS (P := ⟨(fun Γ => fullE ms Γ = true ∧ QE .non (keepE ms Γ)), (fun d Γ => fullE ms Γ = true ∧ QE d (keepE ms Γ)), (fun _ => False), (fun _ => False), (fun c fs Γ => fullE ms Γ = true ∧ XE c fs (keepE ms Γ))⟩) x := by
  simp only [vR_iff, vO_iff, vS_iff, vE_iff, vF_iff, vL_iff]
  exact w_fnO
theorem vfor_inv {g : GF} {b : Env → So} (I : List D → Env → Prop) {ds : List D} (h0 : I ds Γ) (hs : ∀ d ds Γ, I (d :: ds) Γ → vF (P := ⟨fun Γ1 => vS (P := ⟨(I ds), rt, nx, (I ds), XE⟩) (b Γ1)⟩) (g d Γ)) (he : ∀ Γ, I [] Γ → nx Γ) : vS (P := ⟨nx, rt, bk, ct, XE⟩) (forL g b ds Γ) := by
  (try simp only [vR_iff, vO_iff, vS_iff, vE_iff, vF_iff, vL_iff] at *)
  exact for_inv I h0 hs he
theorem vfor_nil {g : GF} {b : Env → So} : vS (P := ⟨nx, rt, bk, ct, XE⟩) (forL g b [] Γ) ↔ nx Γ := by
  simp only [vR_iff, vO_iff, vS_iff, vE_iff, vF_iff, vL_iff]
  exact for_nil
theorem vfor_cons {g : GF} {b : Env → So} {ds : List D} : vS (P := ⟨nx, rt, bk, ct, XE⟩) (forL g b (d :: ds) Γ) ↔ vF (P := ⟨fun Γ1 => vS (P := ⟨(fun Γ2 => vS (P := ⟨nx, rt, bk, ct, XE⟩) (forL g b ds Γ2)), rt, nx, (fun Γ2 => vS (P := ⟨nx, rt, bk, ct, XE⟩) (forL g b ds Γ2)), XE⟩) (b Γ1)⟩) (g d Γ) := by
  simp only [vR_iff, vO_iff, vS_iff, vE_iff, vF_iff, vL_iff]
  exact for_cons
theorem vwh_inv {c : Env → Ou Bool} {b : Env → So} (I : Nat → Env → Prop) {n m : Nat} (hm : m < n) (h0 : I m Γ) (hs : ∀ m Γ, I m Γ → vO (P := ⟨(fun k Γ1 => (k = true → vS (P := ⟨(fun Γ2 => ∃ m', m' < m ∧ I m' Γ2), rt, nx, (fun Γ2 => ∃ m', m' < m ∧ I m' Γ2), XE⟩) (b Γ1)) ∧ (k = false → nx Γ1)), XE⟩) (c Γ)) : vS (P := ⟨nx, rt, bk, ct, XE⟩) (whL c b n Γ) := by
  (try simp only [vR_iff, vO_iff, vS_iff, vE_iff, vF_iff, vL_iff] at *)
  exact wh_inv I hm h0 hs
theorem vmap_cons {f : D → Rs (Option D)} {ds : List D} : vR (P := ⟨QL, X⟩) (mapO f (d :: ds)) ↔ vR (P := ⟨(fun o => vR (P := ⟨(fun es => QL (o.toList ++ es)), X⟩) (mapO f ds)), X⟩) (f d) := by
  simp only [vR_iff, vO_iff, vS_iff, vE_iff, vF_iff, vL_iff]
  exact map_cons
theorem vmap_nil {f : D → Rs (Option D)} : vR (P := ⟨QL, X⟩) (mapO f []) ↔ QL [] := by
  simp only [vR_iff, vO_iff, vS_iff, vE_iff, vF_iff, vL_iff]
  exact map_nil
theorem vw_pLc1 {g : GF} {tt : Env → Rs Bool} {fe : Env → Rs D} {QO : Option D → Prop} : vR (P := ⟨QO, X⟩) (pLc1 g tt fe Γ d) ↔ vF (P := ⟨fun Γ1 => vR (P := ⟨(fun b => (b = true → vR (P := ⟨(fun y => QO (some y)), (fun _ _ => False)⟩) (fe Γ1)) ∧ (b = false → QO none)), (fun _ _ => False)⟩) (tt Γ1)⟩) (g d Γ) := by
  simp only [vR_iff, vO_iff, vS_iff, vE_iff, vF_iff, vL_iff]
  exact w_pLc1
theorem vmap_ints {f : D → Rs (Option D)} {ns : List Int} (k : Int → Int) (h : ∀ n ∈ ns, vR (P := ⟨(fun o => o = some (.int (k n))), (fun _ _ => False)⟩) (f (.int n))) : mapO f (ns.map D.int) = .ok ((ns.map k).map D.int) := by
  (try simp only [vR_iff, vO_iff, vS_iff, vE_iff, vF_iff, vL_iff] at *)
  exact map_ints k h
theorem vmap_bls {f : D → Rs (Option D)} {ns : List Int} (k : Int → Bool) (h : ∀ n ∈ ns, vR (P := ⟨(fun o => o = some (.bl (k n))), (fun _ _ => False)⟩) (f (.int n))) : mapO f (ns.map D.int) = .ok ((ns.map k).map D.bl) := by
  (try simp only [vR_iff, vO_iff, vS_iff, vE_iff, vF_iff, vL_iff] at *)
  exact map_bls k h
theorem vmapE_inv {g : GF} {tt : Env → Ou Bool} {fe : Env → Ou D} {vs : List Nat} (I : List D → List D → Env → Prop) {ds : List D} (h0 : I ds [] Γ) (hs : ∀ d ds es Γ, I (d :: ds) es Γ → vF (P := ⟨fun Γ1 => vO (P := ⟨(fun b Γ2 => (b = true → vO (P := ⟨(fun y Γ3 => I ds (es ++ [y]) (wipD Γ3 vs)), (fun _ _ _ => False)⟩) (fe Γ2)) ∧ (b = false → I ds es (wipD Γ2 vs))), (fun _ _ _ => False)⟩) (tt Γ1)⟩) (g d Γ)) (he : ∀ es Γ, I [] es Γ → QLE es Γ) : vO (P := ⟨QLE, XE⟩) (mapE g tt fe vs ds Γ) := by
  (try simp only [vR_iff, vO_iff, vS_iff, vE_iff, vF_iff, vL_iff] at *)
  exact mapE_inv I h0 hs he
end
section
variable {X : XR0} {Q : D → Prop} {QL : List D → Prop} {i j : Int} {xs ys : List D} {x y : D} {s t : Str} {a b : Bool} {lo hi : Option Int}
theorem vw_ofO {α : Type} {P : α → Prop} {o : Option α} : vR (P := ⟨P, X⟩) (ofO o) ↔ vF (P := ⟨P⟩) o := by
  simp only [vR_iff, vO_iff, vS_iff, vE_iff, vF_iff, vL_iff]
  exact w_ofO
theorem vw_addI : vR (P := ⟨Q, X⟩) (opAdd (.int i) (.int j)) ↔ Q (.int (i + j)) := by
  simp only [vR_iff, vO_iff, vS_iff, vE_iff, vF_iff, vL_iff]
  exact w_addI
theorem vw_addS : vR (P := ⟨Q, X⟩) (opAdd (.str s) (.str t)) ↔ Sz (s.length + t.length) ∧ Q (.str (s ++ t)) := by
  simp only [vR_iff, vO_iff, vS_iff, vE_iff, vF_iff, vL_iff]
  exact w_addS
theorem vw_addL : vR (P := ⟨Q, X⟩) (opAdd (.lst xs) (.lst ys)) ↔ Sz (xs.length + ys.length) ∧ Q (.lst (xs ++ ys)) := by
  simp only [vR_iff, vO_iff, vS_iff, vE_iff, vF_iff, vL_iff]
  exact w_addL
theorem vw_addT : vR (P := ⟨Q, X⟩) (opAdd (.tup xs) (.tup ys)) ↔ (xs ≠ [] ∧ ys ≠ [] ∧ Sz (xs.length + ys.length)) ∧ Q (.tup (xs ++ ys)) := by
  simp only [vR_iff, vO_iff, vS_iff, vE_iff, vF_iff, vL_iff]
  exact w_addT
theorem vw_mulI : vR (P := ⟨Q, X⟩) (opMul (.int i) (.int j)) ↔ (Bd i ∧ Bd j) ∧ Q (.int (i * j)) := by
  simp only [vR_iff, vO_iff, vS_iff, vE_iff, vF_iff, vL_iff]
  exact w_mulI
theorem vw_mulS : vR (P := ⟨Q, X⟩) (opMul (.str s) (.int j)) ↔ (0 ≤ j ∧ j ≤ 4000 ∧ s.length ≤ 1000) ∧ Q (.str (Txt.mul s j)) := by
  simp only [vR_iff, vO_iff, vS_iff, vE_iff, vF_iff, vL_iff]
  exact w_mulS
theorem vw_mulL : vR (P := ⟨Q, X⟩) (opMul (.lst xs) (.int j)) ↔ (-4000000 ≤ j ∧ j ≤ 4000000 ∧ Sz (xs.length * j.toNat)) ∧ Q (.lst (List.replicate j.toNat xs).flatten) := by
  simp only [vR_iff, vO_iff, vS_iff, vE_iff, vF_iff, vL_iff]
  exact w_mulL
theorem vw_sub : vR (P := ⟨Q, X⟩) (opSub (.int i) (.int j)) ↔ Q (.int (i - j)) := by
  simp only [vR_iff, vO_iff, vS_iff, vE_iff, vF_iff, vL_iff]
  exact w_sub
theorem vw_div : vR (P := ⟨Q, X⟩) (opDiv (.int i) (.int j)) ↔ (0 < j ∧ Bd j) ∧ Q (.int (i / j)) := by
  simp only [vR_iff, vO_iff, vS_iff, vE_iff, vF_iff, vL_iff]
  exact w_div
theorem vw_mod : vR (P := ⟨Q, X⟩) (opMod (.int i) (.int j)) ↔ 0 < j ∧ Q (.int (i % j)) := by
  simp only [vR_iff, vO_iff, vS_iff, vE_iff, vF_iff, vL_iff]
  exact w_mod
theorem vw_pow : vR (P := ⟨Q, X⟩) (opPow (.int i) (.int j)) ↔ (0 ≤ j ∧ j ≤ 1000000 ∧ i.natAbs < 2 ^ 64) ∧ Q (.int (i ^ j.toNat)) := by
  simp only [vR_iff, vO_iff, vS_iff, vE_iff, vF_iff, vL_iff]
  exact w_pow
theorem vw_shl : vR (P := ⟨Q, X⟩) (opShl (.int i) (.int j)) ↔ (0 ≤ j ∧ j ≤ 1000000 ∧ i.natAbs < 2 ^ 64) ∧ Q (.int (i * 2 ^ j.toNat)) := by
  simp only [vR_iff, vO_iff, vS_iff, vE_iff, vF_iff, vL_iff]
  exact w_shl
theorem vw_lt : vR (P := ⟨Q, X⟩) (opLt (.int i) (.int j)) ↔ Q (.bl (decide (i < j))) := by
  simp only [vR_iff, vO_iff, vS_iff, vE_iff, vF_iff, vL_iff]
  exact w_lt
theorem vw_le : vR (P := ⟨Q, X⟩) (opLe (.int i) (.int j)) ↔ Q (.bl (decide (i ≤ j))) := by
  simp only [vR_iff, vO_iff, vS_iff, vE_iff, vF_iff, vL_iff]
  exact w_le
theorem vw_gt : vR (P := ⟨Q, X⟩) (opGt (.int i) (.int j)) ↔ Q (.bl (decide (j < i))) := by
  simp only [vR_iff, vO_iff, vS_iff, vE_iff, vF_iff, vL_iff]
  exact w_gt
theorem vw_ge : vR (P := ⟨Q, X⟩) (opGe (.int i) (.int j)) ↔ Q (.bl (decide (j ≤ i))) := by
  simp only [vR_iff, vO_iff, vS_iff, vE_iff, vF_iff, vL_iff]
  exact w_ge
theorem vw_neg : vR (P := ⟨Q, X⟩) (opNeg (.int i)) ↔ Q (.int (-i)) := by
  simp only [vR_iff, vO_iff, vS_iff, vE_iff, vF_iff, vL_iff]
  exact w_neg
theorem vw_eqG : vR (P := ⟨Q, X⟩) (opEq x y) ↔ (match strEq x y with | some b => Q (.bl b) | none => (okD x = true ∧ okD y = true) ∧ Q (.bl (eqD x y))) := by
  simp only [vR_iff, vO_iff, vS_iff, vE_iff, vF_iff, vL_iff]
  exact w_eqG
theorem vw_neG : vR (P := ⟨Q, X⟩) (opNe x y) ↔ (match strEq x y with | some b => Q (.bl (!b)) | none => (okD x = true ∧ okD y = true) ∧ Q (.bl (!eqD x y))) := by
  simp only [vR_iff, vO_iff, vS_iff, vE_iff, vF_iff, vL_iff]
  exact w_neG
theorem vw_eqS : vR (P := ⟨Q, X⟩) (opEq (.str s) (.str t)) ↔ Q (.bl (decide (s = t))) := by
  simp only [vR_iff, vO_iff, vS_iff, vE_iff, vF_iff, vL_iff]
  exact w_eqS
theorem vw_neS : vR (P := ⟨Q, X⟩) (opNe (.str s) (.str t)) ↔ Q (.bl (!decide (s = t))) := by
  simp only [vR_iff, vO_iff, vS_iff, vE_iff, vF_iff, vL_iff]
  exact w_neS
theorem vw_eqL : vR (P := ⟨Q, X⟩) (opEq (.lst xs) (.lst ys)) ↔ (okD (.lst xs) = true ∧ okD (.lst ys) = true) ∧ Q (.bl (eqD (.lst xs) (.lst ys))) := by
  simp only [vR_iff, vO_iff, vS_iff, vE_iff, vF_iff, vL_iff]
  exact w_eqL
theorem vw_neL : vR (P := ⟨Q, X⟩) (opNe (.lst xs) (.lst ys)) ↔ (okD (.lst xs) = true ∧ okD (.lst ys) = true) ∧ Q (.bl (!eqD (.lst xs) (.lst ys))) := by
  simp only [vR_iff, vO_iff, vS_iff, vE_iff, vF_iff, vL_iff]
  exact w_neL
theorem vw_eqI : vR (P := ⟨Q, X⟩) (opEq (.int i) (.int j)) ↔ Q (.bl (decide (i = j))) := by
  simp only [vR_iff, vO_iff, vS_iff, vE_iff, vF_iff, vL_iff]
  exact w_eqI
theorem vw_neI : vR (P := ⟨Q, X⟩) (opNe (.int i) (.int j)) ↔ Q (.bl (!decide (i = j))) := by
  simp only [vR_iff, vO_iff, vS_iff, vE_iff, vF_iff, vL_iff]
  exact w_neI
theorem vw_isNN : vR (P := ⟨Q, X⟩) (opIs .non .non) ↔ Q (.bl true) := by
  simp only [vR_iff, vO_iff, vS_iff, vE_iff, vF_iff, vL_iff]
  exact w_isNN
theorem vw_isIN : vR (P := ⟨Q, X⟩) (opIs (.int i) .non) ↔ Q (.bl false) := by
  simp only [vR_iff, vO_iff, vS_iff, vE_iff, vF_iff, vL_iff]
  exact w_isIN
theorem vw_isB : vR (P := ⟨Q, X⟩) (opIs (.bl a) (.bl b)) ↔ Q (.bl (decide (a = b))) := by
  simp only [vR_iff, vO_iff, vS_iff, vE_iff, vF_iff, vL_iff]
  exact w_isB
theorem vw_isIB : vR (P := ⟨Q, X⟩) (opIs (.int i) (.bl b)) ↔ Q (.bl false) := by
  simp only [vR_iff, vO_iff, vS_iff, vE_iff, vF_iff, vL_iff]
  exact w_isIB
theorem vw_isNNn : vR (P := ⟨Q, X⟩) (opIsNot .non .non) ↔ Q (.bl false) := by
  simp only [vR_iff, vO_iff, vS_iff, vE_iff, vF_iff, vL_iff]
  exact w_isNNn
theorem vw_isINn : vR (P := ⟨Q, X⟩) (opIsNot (.int i) .non) ↔ Q (.bl true) := by
  simp only [vR_iff, vO_iff, vS_iff, vE_iff, vF_iff, vL_iff]
  exact w_isINn
theorem vw_isBn : vR (P := ⟨Q, X⟩) (opIsNot (.bl a) (.bl b)) ↔ Q (.bl (!decide (a = b))) := by
  simp only [vR_iff, vO_iff, vS_iff, vE_iff, vF_iff, vL_iff]
  exact w_isBn
theorem vw_isIBn : vR (P := ⟨Q, X⟩) (opIsNot (.int i) (.bl b)) ↔ Q (.bl true) := by
  simp only [vR_iff, vO_iff, vS_iff, vE_iff, vF_iff, vL_iff]
  exact w_isIBn
theorem vw_ixL : vR (P := ⟨Q, X⟩) (opIx (.lst xs) (.int i)) ↔ vF (P := ⟨Q⟩) (atI xs i) := by
  simp only [vR_iff, vO_iff, vS_iff, vE_iff, vF_iff, vL_iff]
  exact w_ixL
theorem vw_ixT : vR (P := ⟨Q, X⟩) (opIx (.tup xs) (.int i)) ↔ vF (P := ⟨Q⟩) (atI xs i) := by
  simp only [vR_iff, vO_iff, vS_iff, vE_iff, vF_iff, vL_iff]
  exact w_ixT
theorem vw_slL : vR (P := ⟨Q, X⟩) (opSl (.lst xs) lo hi) ↔ Q (.lst (cutD xs lo hi)) := by
  simp only [vR_iff, vO_iff, vS_iff, vE_iff, vF_iff, vL_iff]
  exact w_slL
theorem vw_slT : vR (P := ⟨Q, X⟩) (opSl (.tup xs) lo hi) ↔ Q (.tup (cutD xs lo hi)) := by
  simp only [vR_iff, vO_iff, vS_iff, vE_iff, vF_iff, vL_iff]
  exact w_slT
theorem vw_opLst : vR (P := ⟨Q, X⟩) (opLst xs) ↔ xs.length ≤ 1000000 ∧ Q (.lst xs) := by
  simp only [vR_iff, vO_iff, vS_iff, vE_iff, vF_iff, vL_iff]
  exact w_opLst
theorem vw_opTup : vR (P := ⟨Q, X⟩) (opTup xs) ↔ xs.length ≤ 1000000 ∧ Q (.tup xs) := by
  simp only [vR_iff, vO_iff, vS_iff, vE_iff, vF_iff, vL_iff]
  exact w_opTup
theorem vw_lenL : vR (P := ⟨Q, X⟩) (opLen [.lst xs]) ↔ Q (.int xs.length) := by
  simp only [vR_iff, vO_iff, vS_iff, vE_iff, vF_iff, vL_iff]
  exact w_lenL
theorem vw_lenT : vR (P := ⟨Q, X⟩) (opLen [.tup xs]) ↔ Q (.int xs.length) := by
  simp only [vR_iff, vO_iff, vS_iff, vE_iff, vF_iff, vL_iff]
  exact w_lenT
theorem vw_max2 : vR (P := ⟨Q, X⟩) (opMax2 [.int i, .int j]) ↔ Q (.int (if j > i then j else i)) := by
  simp only [vR_iff, vO_iff, vS_iff, vE_iff, vF_iff, vL_iff]
  exact w_max2
theorem vw_min2 : vR (P := ⟨Q, X⟩) (opMin2 [.int i, .int j]) ↔ Q (.int (if j < i then j else i)) := by
  simp only [vR_iff, vO_iff, vS_iff, vE_iff, vF_iff, vL_iff]
  exact w_min2
theorem vw_intI : vR (P := ⟨Q, X⟩) (opInt [.int i]) ↔ Q (.int i) := by
  simp only [vR_iff, vO_iff, vS_iff, vE_iff, vF_iff, vL_iff]
  exact w_intI
theorem vw_intB : vR (P := ⟨Q, X⟩) (opInt [.bl a]) ↔ Q (.int (if a then 1 else 0)) := by
  simp only [vR_iff, vO_iff, vS_iff, vE_iff, vF_iff, vL_iff]
  exact w_intB
theorem vw_listL : vR (P := ⟨Q, X⟩) (opList [.lst xs]) ↔ Q (.lst xs) := by
  simp only [vR_iff, vO_iff, vS_iff, vE_iff, vF_iff, vL_iff]
  exact w_listL
theorem vw_listT : vR (P := ⟨Q, X⟩) (opList [.tup xs]) ↔ Q (.lst xs) := by
  simp only [vR_iff, vO_iff, vS_iff, vE_iff, vF_iff, vL_iff]
  exact w_listT
theorem vw_tupL : vR (P := ⟨Q, X⟩) (opTuple [.lst xs]) ↔ Q (.tup xs) := by
  simp only [vR_iff, vO_iff, vS_iff, vE_iff, vF_iff, vL_iff]
  exact w_tupL
theorem vw_tupT : vR (P := ⟨Q, X⟩) (opTuple [.tup xs]) ↔ Q (.tup xs) := by
  simp only [vR_iff, vO_iff, vS_iff, vE_iff, vF_iff, vL_iff]
  exact w_tupT
theorem vw_isi {cs : List Cl} : vR (P := ⟨Q, X⟩) (opIsi cs x) ↔ Q (.bl (cs.any fun c => isi1 c x)) := by
  simp only [vR_iff, vO_iff, vS_iff, vE_iff, vF_iff, vL_iff]
  exact w_isi
theorem vw_r1 : vR (P := ⟨QL, X⟩) (itRange [.int i]) ↔ Lm i ∧ QL (rngD 0 i.toNat) := by
  simp only [vR_iff, vO_iff, vS_iff, vE_iff, vF_iff, vL_iff]
  exact w_r1
theorem vw_r2 : vR (P := ⟨QL, X⟩) (itRange [.int i, .int j]) ↔ (Lm i ∧ Lm j) ∧ QL (rngD i (j - i).toNat) := by
  simp only [vR_iff, vO_iff, vS_iff, vE_iff, vF_iff, vL_iff]
  exact w_r2
theorem vw_rf {ds : List D} : vR (P := ⟨QL, X⟩) ((fun ds => if ds.length = 1 then itRange ds else .no) ds) ↔ ds.length = 1 ∧ vR (P := ⟨QL, X⟩) (itRange ds) := by
  simp only [vR_iff, vO_iff, vS_iff, vE_iff, vF_iff, vL_iff]
  exact w_rf
theorem vw_rf1 {ds : List D} : vR (P := ⟨QL, X⟩) (if ds.length = 1 then itRange ds else .no) ↔ ds.length = 1 ∧ vR (P := ⟨QL, X⟩) (itRange ds) := by
  simp only [vR_iff, vO_iff, vS_iff, vE_iff, vF_iff, vL_iff]
  exact w_rf1
theorem vw_rN {n : Nat} {ds : List D} : vR (P := ⟨QL, X⟩) (itR n ds) ↔ ds.length = n ∧ vR (P := ⟨QL, X⟩) (itRange ds) := by
  simp only [vR_iff, vO_iff, vS_iff, vE_iff, vF_iff, vL_iff]
  exact w_rN
theorem vw_seqL : vR (P := ⟨QL, X⟩) (seqD (.lst xs)) ↔ QL xs := by
  simp only [vR_iff, vO_iff, vS_iff, vE_iff, vF_iff, vL_iff]
  exact w_seqL
theorem vw_seqT : vR (P := ⟨QL, X⟩) (seqD (.tup xs)) ↔ QL xs := by
  simp only [vR_iff, vO_iff, vS_iff, vE_iff, vF_iff, vL_iff]
  exact w_seqT
theorem vw_enum : vR (P := ⟨QL, X⟩) (itEnum [.lst xs]) ↔ QL (enD xs) := by
  simp only [vR_iff, vO_iff, vS_iff, vE_iff, vF_iff, vL_iff]
  exact w_enum
theorem vw_zip : vR (P := ⟨QL, X⟩) (itZip [.lst xs, .lst ys]) ↔ QL (zpD xs ys) := by
  simp only [vR_iff, vO_iff, vS_iff, vE_iff, vF_iff, vL_iff]
  exact w_zip
theorem vw_sum {ns : List Int} : vR (P := ⟨Q, X⟩) (opSum [.lst (ns.map D.int)]) ↔ Q (.int ns.sum) := by
  simp only [vR_iff, vO_iff, vS_iff, vE_iff, vF_iff, vL_iff]
  exact w_sum
theorem vw_all {ns : List Bool} : vR (P := ⟨Q, X⟩) (opAll [.lst (ns.map D.bl)]) ↔ Q (.bl (ns.all id)) := by
  simp only [vR_iff, vO_iff, vS_iff, vE_iff, vF_iff, vL_iff]
  exact w_all
theorem vw_any {ns : List Bool} : vR (P := ⟨Q, X⟩) (opAny [.lst (ns.map D.bl)]) ↔ Q (.bl (ns.any id)) := by
  simp only [vR_iff, vO_iff, vS_iff, vE_iff, vF_iff, vL_iff]
  exact w_any
theorem vw_repr : vR (P := ⟨Q, X⟩) (opRepr [x]) ↔ okR x ∧ Q (.str (toP x).shown) := by
  simp only [vR_iff, vO_iff, vS_iff, vE_iff, vF_iff, vL_iff]
  exact w_repr
theorem vw_eqR (h : okD x = true) : vR (P := ⟨Q, X⟩) (opEq x x) ↔ Q (.bl true) := by
  (try simp only [vR_iff, vO_iff, vS_iff, vE_iff, vF_iff, vL_iff] at *)
  exact w_eqR h
end
end Y

namespace Y
open PySem PySem.Spec PyProof.Rows L2 Z

section
variable {α : Type} {a b c d e : α} {xs : List α} {n : Nat}
theorem ixN_lt {i : Int} (h : 0 ≤ i) (h2 : i < n) : ixN n i = some i.toNat := by unfold ixN; rw [if_pos h, if_pos (by omega)]
theorem ixN_0 : ixN (n + 1) 0 = some 0 := ixN_lt (by omega) (by omega)
theorem ixN_1 : ixN (n + 2) 1 = some 1 := ixN_lt (by omega) (by omega)
theorem ixN_2 : ixN (n + 3) 2 = some 2 := ixN_lt (by omega) (by omega)
theorem ixN_3 : ixN (n + 4) 3 = some 3 := ixN_lt (by omega) (by omega)
theorem atI_lt {i : Int} (h : 0 ≤ i) : atI xs i = xs[i.toNat]? := by
  unfold atI ixN
  rw [if_pos h]
  by_cases h2 : i < (xs.length : Int)
  · rw [if_pos h2]; rfl
  · rw [if_neg h2, List.getElem?_eq_none (by omega)]; rfl
theorem atI_0 : atI (a :: xs) 0 = some a := atI_lt (by omega)
theorem atI_1 : atI (a :: b :: xs) 1 = some b := atI_lt (by omega)
theorem atI_2 : atI (a :: b :: c :: xs) 2 = some c := atI_lt (by omega)
theorem atI_3 : atI (a :: b :: c :: d :: xs) 3 = some d := atI_lt (by omega)
theorem atI_4 : atI (a :: b :: c :: d :: e :: xs) 4 = some e := atI_lt (by omega)
end
theorem rng_drop {lo : Int} {n k : Nat} {d : D} {ds : List D} (h : (rngD lo n).drop k = d :: ds) : k < n ∧ d = .int (lo + k) ∧ ds = (rngD lo n).drop (k + 1) := by
  have hk : k < n := by
    have := congrArg List.length h
    rw [List.length_drop, rngD_len, List.length_cons] at this
    omega
  have hk2 : k < (rngD lo n).length := by rw [rngD_len]; exact hk
  rw [List.drop_eq_getElem_cons hk2] at h
  injection h with h1 h2
  refine ⟨hk, ?_, h2.symm⟩
  rw [← h1]
  simp [rngD]
/-- the law's box, n draws behind it -/
def BoxOk (n : Nat) (b : D) : Prop := ∃ a c t : Int, b = .lst [.int a, .int c, .int t] ∧ 0 ≤ a ∧ 0 ≤ c ∧ c < 2147483629 ∧ 0 ≤ t ∧ t ≤ n
theorem BoxOk.up {n m : Nat} {b : D} (h : BoxOk n b) (l : n ≤ m) : BoxOk m b := by
  obtain ⟨a, c, t, h1, h2, h3, h4, h5, h6⟩ := h
  exact ⟨a, c, t, h1, h2, h3, h4, h5, by omega⟩
theorem take_sq {w : Int} (h : 0 ≤ w) (h2 : w ≤ 8000000) : 0 ≤ 104729 * w * w ∧ 104729 * w * w ≤ 104729 * 8000000 * 8000000 := by
  have a1 : 0 ≤ w * w := Int.mul_nonneg h h
  have a2 : w * w ≤ 8000000 * 8000000 := Int.mul_le_mul h2 h2 h (by decide)
  rw [Int.mul_assoc]
  omega
abbrev IntIn (lo hi : Int) (d : D) : Prop := ∃ v, d = .int v ∧ lo ≤ v ∧ v ≤ hi
theorem ix_c {Q : D → Prop} {xs : List D} {r : Int} (C : D → Prop) (h0 : 0 ≤ r) (h1 : r < xs.length) (hx : ∀ d ∈ xs, C d) (q : ∀ d, C d → Q d) : vF (P := ⟨Q⟩) (atI xs r) := by
  have hl : r.toNat < xs.length := by omega
  rw [atI_lt h0, List.getElem?_eq_getElem hl]
  exact vF_mk (q _ (hx _ (List.getElem_mem hl)))
theorem ix_i {Q : D → Prop} {xs : List D} {r : Int} (lo hi : Int) (h0 : 0 ≤ r) (h1 : r < xs.length) (hx : ∀ d ∈ xs, IntIn lo hi d) (q : ∀ v, lo ≤ v → v ≤ hi → Q (.int v)) : vF (P := ⟨Q⟩) (atI xs r) :=
  ix_c (IntIn lo hi) h0 h1 hx fun d ⟨v, e, a, b⟩ => by rw [e]; exact q v a b
theorem law_ok {sf : List D → Ou D} {ns : List Int} (H : vO (P := ⟨fun d _ => d = .bl true, fun _ _ _ => False⟩) (sf [.lst (ns.map D.int)])) : ∃ Γ, sf [.lst (ns.map D.int)] = .ok (.bl true) Γ := by
  replace H := vO_out H
  cases h : sf [.lst (ns.map D.int)] with
  | ok d Γ => rw [h] at H; exact ⟨Γ, by rw [show d = .bl true from H]⟩
  | ex c fs Γ => rw [h] at H; exact H.elim
  | no => rw [h] at H; exact H.elim
theorem bd_i {i : Int} (h : -1000000000000000000000000000000000000000000000000000000000000 ≤ i) (h2 : i ≤ 1000000000000000000000000000000000000000000000000000000000000) : Bd i := ⟨h, h2⟩
end Y

namespace Y
open PySem PySem.Spec PyProof.Rows L2 Z
def mx : List Int → Int
  | [] => 0
  | n :: ns => ns.foldl max n
def mxD (m : Int) : List Int → Int
  | [] => m
  | n :: ns => ns.foldl max n
theorem foldl_max (n : Int) : ∀ ns : List Int, (ns.foldl max n = n ∨ ns.foldl max n ∈ ns) ∧ n ≤ ns.foldl max n ∧ ∀ y ∈ ns, y ≤ ns.foldl max n := by
  intro ns
  induction ns generalizing n with
  | nil => exact ⟨Or.inl rfl, Int.le_refl _, fun y z => nomatch z⟩
  | cons m ns ih =>
    obtain ⟨a, b, c⟩ := ih (max n m)
    rw [List.foldl_cons]
    refine ⟨?_, by omega, fun y hy => ?_⟩
    · rcases a with a | a
      · rw [a]
        rcases Int.le_total n m with z | z
        · rw [Int.max_eq_right z]; exact Or.inr List.mem_cons_self
        · rw [Int.max_eq_left z]; exact Or.inl rfl
      · exact Or.inr (List.mem_cons_of_mem _ a)
    · rcases List.mem_cons.mp hy with rfl | hy
      · omega
      · exact c y hy
theorem mx_mem {ns : List Int} (h : ns ≠ []) : mx ns ∈ ns := by
  cases ns with
  | nil => exact absurd rfl h
  | cons n ns =>
    rcases (foldl_max n ns).1 with a | a
    · show ns.foldl max n ∈ _
      rw [a]; exact List.mem_cons_self
    · exact List.mem_cons_of_mem _ a
theorem mx_le {ns : List Int} : ∀ y ∈ ns, y ≤ mx ns := by
  cases ns with
  | nil => exact fun y z => nomatch z
  | cons n ns =>
    intro y hy
    rcases List.mem_cons.mp hy with rfl | hy
    · exact (foldl_max y ns).2.1
    · exact (foldl_max n ns).2.2 y hy
theorem mx_is {ns : List Int} {m : Int} (h : m ∈ ns) (h2 : ∀ y ∈ ns, y ≤ m) : m = mx ns := by
  have a := mx_le m h
  have b := h2 _ (mx_mem (List.ne_nil_of_mem h))
  omega

/-! ## counts -/
def pw2 (l : Int) : Int := 1 * 2 ^ l.toNat
def over (n l : Int) : Int := if n - pw2 l > 0 then n - pw2 l else 0
def bey (ns : List Int) (l : Int) : Int := (ns.map fun n => over n l).sum
/-- good counts -/
def Cts (ns : List Int) : Prop := ns.length ≤ 600 ∧ ∀ n ∈ ns, 1 ≤ n ∧ n ≤ 1000000000000000000000000000000
theorem pw2_pos (l : Int) : 0 < pw2 l := by
  unfold pw2
  rw [Int.one_mul]
  exact Int.pow_pos (by decide)
theorem over_nn (n l : Int) : 0 ≤ over n l := by unfold over; split <;> omega
theorem over_le (n l : Int) (h : 0 ≤ n) : over n l ≤ n := by have := pw2_pos l; unfold over; split <;> omega
theorem bey_nn : ∀ (ns : List Int) (l : Int), 0 ≤ bey ns l
  | [], l => by simp [bey]
  | n :: ns, l => by
    have a := bey_nn ns l
    have b := over_nn n l
    simp only [bey, List.map_cons, List.sum_cons] at a ⊢
    omega
theorem bey_le : ∀ (ns : List Int) (l b : Int), (∀ n ∈ ns, 1 ≤ n ∧ n ≤ b) → bey ns l ≤ ns.length * b
  | [], l, b, _ => by simp [bey]
  | n :: ns, l, b, h => by
    have a := bey_le ns l b fun m hm => h m (List.mem_cons_of_mem _ hm)
    have h0 := h n List.mem_cons_self
    have c := over_le n l (by omega)
    simp only [bey, List.map_cons, List.sum_cons, List.length_cons] at a ⊢
    have e : ((ns.length + 1 : Nat) : Int) * b = ns.length * b + b := by rw [Int.natCast_add, Int.add_mul]; simp
    rw [e]
    omega
theorem Cts.bey {ns : List Int} (h : Cts ns) (l : Int) : 0 ≤ Y.bey ns l ∧ Y.bey ns l ≤ 600000000000000000000000000000000 := by
  have a := bey_nn ns l
  have b := bey_le ns l _ h.2
  have c := h.1
  have d : (ns.length : Int) * 1000000000000000000000000000000 ≤ 600 * 1000000000000000000000000000000 := Int.mul_le_mul_of_nonneg_right (by omega) (by decide)
  omega
theorem bey_snoc (ns : List Int) (n l : Int) : bey (ns ++ [n]) l = bey ns l + over n l := by
  simp only [bey, List.map_append, List.map_cons, List.map_nil, List.sum_append, List.sum_cons, List.sum_nil]
  omega
theorem bey_take {ns : List Int} {k : Nat} {n : Int} (h : ns[k]? = some n) (l : Int) : bey (ns.take (k + 1)) l = bey (ns.take k) l + over n l := by
  rw [List.take_add_one, h]
  exact bey_snoc _ _ _
theorem pw2_succ (k : Nat) : pw2 (k + 1 : Nat) = pw2 (k : Nat) + pw2 (k : Nat) := by
  simp only [pw2, Int.toNat_natCast, Int.one_mul, Int.pow_succ]
  omega
theorem pw2_one : ∀ l : Nat, pw2 (l : Int) ≤ pw2 ((l + 1 : Nat) : Int) - 1 := fun l => by
  have a := pw2_pos (l : Int)
  rw [pw2_succ]
  omega
theorem over_down (n : Int) (l : Nat) : over n ((l + 1 : Nat) : Int) ≤ over n l := by
  have a := pw2_one l
  unfold over
  split <;> split <;> omega
theorem bey_down : ∀ (ns : List Int) (l : Nat), bey ns ((l + 1 : Nat) : Int) ≤ bey ns l
  | [], l => by simp [bey]
  | n :: ns, l => by
    have a := bey_down ns l
    have b := over_down n l
    simp only [bey, List.map_cons, List.sum_cons] at a ⊢
    omega
theorem bey_less : ∀ (ns : List Int) (l : Nat), 0 < bey ns l → bey ns ((l + 1 : Nat) : Int) + 1 ≤ bey ns l
  | [], l, h => by simp [bey] at h
  | n :: ns, l, h => by
    have a := bey_down ns l
    have b := over_down n l
    have e0 := over_nn n l
    have f0 := bey_nn ns l
    by_cases z : 0 < over n l
    · have c : over n ((l + 1 : Nat) : Int) + 1 ≤ over n l := by
        have a := pw2_one l
        unfold over at z ⊢
        split <;> split <;> (try split at z) <;> omega
      simp only [bey, List.map_cons, List.sum_cons] at a ⊢
      omega
    · have g : 0 < bey ns l := by
        simp only [bey, List.map_cons, List.sum_cons] at h ⊢
        omega
      have c := bey_less ns l g
      simp only [bey, List.map_cons, List.sum_cons] at c ⊢
      omega
theorem bey_anti (ns : List Int) (l k : Nat) : bey ns ((l + k : Nat) : Int) ≤ bey ns l := by
  induction k with
  | zero => exact Int.le_refl _
  | succ k ih => exact Int.le_trans (bey_down ns (l + k)) ih
theorem pw2_100 : pw2 100 = 1267650600228229401496703205376 := by unfold pw2; rfl
theorem bey_100 : ∀ (ns : List Int), (∀ n ∈ ns, 1 ≤ n ∧ n ≤ 1000000000000000000000000000000) → bey ns 100 = 0
  | [], _ => rfl
  | n :: ns, h => by
    have a := bey_100 ns fun m hm => h m (List.mem_cons_of_mem _ hm)
    have b := h n List.mem_cons_self
    have c : over n 100 = 0 := by
      unfold over
      rw [pw2_100, if_neg (by omega)]
    simp only [bey, List.map_cons, List.sum_cons] at a ⊢
    omega
def Rng (ns : List Int) : Prop := ∀ n ∈ ns, 1 ≤ n ∧ n ≤ 1000000000000000000000000000000
/-- the first level at which nothing is above -/
def Top (ns : List Int) (t : Nat) : Prop := (∀ l : Nat, l < t → 0 < bey ns l) ∧ bey ns t = 0 ∧ t ≤ 100
theorem top_ex (ns : List Int) : ∀ m : Nat, m ≤ 100 → bey ns (m : Int) = 0 → ∃ t, Top ns t
  | 0, _, h => ⟨0, fun _ z => absurd z (Nat.not_lt_zero _), h, by decide⟩
  | m + 1, hm, h => by
    by_cases z : bey ns (m : Int) = 0
    · exact top_ex ns m (by omega) z
    · refine ⟨m + 1, fun l hl => ?_, h, hm⟩
      have a := bey_nn ns (m : Int)
      obtain ⟨k, rfl⟩ : ∃ k, m = l + k := ⟨m - l, by omega⟩
      have b := bey_anti ns l k
      omega
open Classical in
noncomputable def top (ns : List Int) : Nat := if h : ∃ t, Top ns t then h.choose else 0
theorem Cts.top {ns : List Int} (h : Cts ns) : Top ns (Y.top ns) := by
  have e : ∃ t, Top ns t := top_ex ns 100 (by decide) (bey_100 ns h.2)
  unfold Y.top
  rw [dif_pos e]
  exact e.choose_spec
theorem top_is {ns : List Int} {k t : Nat} (h : Top ns t) (hk : k ≤ t) : (bey ns (k : Int) = 0 ↔ k = t) ∧ (0 < bey ns (k : Int) ↔ k < t) := by
  by_cases e : k = t
  · subst e
    have := h.2.1
    constructor <;> constructor <;> omega
  · have a := h.1 k (by omega)
    constructor <;> constructor <;> omega
/-- what a level demands -/
def dem (ns : List Int) (s l : Int) : Int := l + (bey ns l + s - 1) / s
noncomputable def demL (ns : List Int) (s : Int) : List Int := (List.range (top ns)).map fun l : Nat => dem ns s (l : Int)
noncomputable def excL (ns : List Int) : List Int := (List.range (top ns)).map fun l : Nat => bey ns (l : Int)
noncomputable def few (ns : List Int) (s : Int) : Int := (demL ns s).foldl max 0
theorem top_uniq {ns : List Int} {t u : Nat} (h : Top ns t) (h2 : Top ns u) : t = u := by
  have a := h.2.1
  have b := h2.2.1
  rcases Nat.lt_trichotomy t u with z | z | z
  · have := h2.1 t z; omega
  · exact z
  · have := h.1 u z; omega
theorem few_is {ns : List Int} {s : Int} {t : Nat} (h : Top ns t) (hr : Rng ns) : few ns s = ((List.range t).map fun l : Nat => dem ns s (l : Int)).foldl max 0 := by
  have e : ∃ t, Top ns t := ⟨t, h⟩
  have : top ns = t := by
    unfold top
    rw [dif_pos e]
    exact top_uniq e.choose_spec h
  unfold few demL
  rw [this]
theorem mxD_few : ∀ {ns : List Int}, (∀ y ∈ ns, 0 ≤ y) → mxD 0 ns = ns.foldl max 0
  | [], _ => rfl
  | n :: ns, h => by
    have := h n List.mem_cons_self
    show ns.foldl max n = (n :: ns).foldl max 0
    rw [List.foldl_cons, Int.max_eq_right this]
theorem ceil_pos {a s : Int} (ha : 0 < a) (hs : 0 < s) : 1 ≤ (a + s - 1) / s ∧ (a + s - 1) / s ≤ a := by
  constructor
  · exact (Int.le_ediv_iff_mul_le hs).mpr (by omega)
  · refine Int.le_of_lt_add_one ((Int.ediv_lt_iff_lt_mul hs).mpr ?_)
    have : a * 1 ≤ a * s := Int.mul_le_mul_of_nonneg_left (by omega) (by omega)
    rw [Int.add_mul]
    omega
theorem demL_mem {ns : List Int} {s y : Int} (h : y ∈ demL ns s) : ∃ l : Nat, l < top ns ∧ y = dem ns s l := by
  unfold demL at h
  obtain ⟨l, hl, rfl⟩ := List.mem_map.mp h
  exact ⟨l, List.mem_range.mp hl, rfl⟩
theorem demL_pos {ns : List Int} {s y : Int} (hc : Cts ns) (hs : 0 < s) (h : y ∈ demL ns s) : 1 ≤ y ∧ y ≤ 600000000000000000000000000000100 := by
  obtain ⟨l, hl, rfl⟩ := demL_mem h
  have a := hc.top.1 l hl
  have b := ceil_pos a hs
  have c := (hc.bey (l : Int)).2
  have d := hc.top.2.2
  unfold dem
  omega
theorem few_bd {ns : List Int} {s : Int} (hc : Cts ns) (hs : 0 < s) : 0 ≤ few ns s ∧ few ns s ≤ 600000000000000000000000000000100 := by
  unfold few
  have h := foldl_max 0 (demL ns s)
  refine ⟨h.2.1, ?_⟩
  rcases h.1 with e | e
  · rw [e]; decide
  · exact (demL_pos hc hs e).2
/-- at most so many -/
theorem few_le {ns : List Int} {s m : Int} (h0 : 0 ≤ m) (h : ∀ l : Nat, l < top ns → dem ns s l ≤ m) : few ns s ≤ m := by
  unfold few
  rcases (foldl_max 0 (demL ns s)).1 with e | e
  · rw [e]; exact h0
  · obtain ⟨l, hl, e2⟩ := demL_mem e
    rw [e2]; exact h l hl
theorem le_few {ns : List Int} {s : Int} {l : Nat} (h : l < top ns) : dem ns s l ≤ few ns s := by
  unfold few
  exact (foldl_max 0 (demL ns s)).2.2 _ (List.mem_map.mpr ⟨l, List.mem_range.mpr h, rfl⟩)
theorem foldl_max_take {xs : List Int} {k : Nat} {x : Int} (h : xs[k]? = some x) : (xs.take (k + 1)).foldl max 0 = max ((xs.take k).foldl max 0) x := by
  rw [List.take_add_one, h, List.foldl_append]
  rfl
theorem demL_get {ns : List Int} {s : Int} {k : Nat} (h : k < top ns) : (demL ns s)[k]? = some (dem ns s k) := by
  unfold demL
  rw [List.getElem?_map, List.getElem?_range h]
  rfl
theorem excL_get {ns : List Int} {k : Nat} (h : k < top ns) : (excL ns)[k]? = some (bey ns k) := by
  unfold excL
  rw [List.getElem?_map, List.getElem?_range h]
  rfl
theorem demL_len (ns : List Int) (s : Int) : (demL ns s).length = top ns := by unfold demL; rw [List.length_map, List.length_range]
theorem excL_len (ns : List Int) : (excL ns).length = top ns := by unfold excL; rw [List.length_map, List.length_range]
/-- the levels that demand the most -/
def tigB (ns : List Int) (s m : Int) (l : Nat) : Bool := decide (dem ns s (l : Int) = m)
noncomputable def tigL (ns : List Int) (s : Int) : List Int := ((List.range (top ns)).filter (tigB ns s (mx (demL ns s)))).map fun l : Nat => (l : Int)
theorem top_is0 {ns : List Int} {t : Nat} (h : Top ns t) : top ns = t := by
  have e : ∃ t, Top ns t := ⟨t, h⟩
  unfold top
  rw [dif_pos e]
  exact top_uniq e.choose_spec h
theorem tigL_is {ns : List Int} {s : Int} {t : Nat} (h : Top ns t) : tigL ns s = ((List.range t).filter (tigB ns s (mx ((List.range t).map fun l : Nat => dem ns s (l : Int))))).map fun l : Nat => (l : Int) := by
  unfold tigL demL
  rw [top_is0 h]
theorem tigL_len {ns : List Int} {s : Int} (h : Cts ns) : (tigL ns s).length ≤ 100 := by
  have := h.top.2.2
  unfold tigL
  rw [List.length_map]
  refine Nat.le_trans (List.length_filter_le _ _) ?_
  rw [List.length_range]
  exact this
theorem tigL_mem {ns : List Int} {s y : Int} (hc : Cts ns) (h : y ∈ tigL ns s) : 0 ≤ y ∧ y ≤ 100 := by
  have := hc.top.2.2
  unfold tigL at h
  obtain ⟨l, hl, rfl⟩ := List.mem_map.mp h
  have := List.mem_range.mp (List.mem_filter.mp hl).1
  omega
theorem demL_enD (ns : List Int) (s : Int) : enD ((demL ns s).map D.int) = (List.range (top ns)).map fun l : Nat => D.tup [.int (l : Int), .int (dem ns s (l : Int))] := by
  unfold enD demL
  rw [List.map_map]
  apply List.ext_getElem?
  intro i
  rw [List.getElem?_map, List.getElem?_zipIdx, List.getElem?_map, List.getElem?_map]
  by_cases hi : i < top ns
  · rw [List.getElem?_range hi]
    simp
  · rw [List.getElem?_eq_none (by simp; omega)]
    rfl
theorem demL_ne {ns : List Int} {s : Int} {l : Nat} (h : l < top ns) : demL ns s ≠ [] := by
  intro e
  have := demL_len ns s
  rw [e] at this
  simp at this
  omega
/-- by stacks of one: what there is to cut -/
theorem bey_0 : ∀ (ns : List Int), (∀ n ∈ ns, 1 ≤ n) → bey ns 0 = ns.sum - ns.length
  | [], _ => rfl
  | n :: ns, h => by
    have a := bey_0 ns fun m hm => h m (List.mem_cons_of_mem _ hm)
    have b := h n List.mem_cons_self
    have c : over n 0 = n - 1 := by
      have e : pw2 0 = 1 := rfl
      unfold over
      rw [e]
      split <;> omega
    simp only [bey, List.map_cons, List.sum_cons, List.length_cons] at a ⊢
    omega
theorem few_one {ns : List Int} (h : Cts ns) : few ns 1 = ns.sum - ns.length := by
  rw [← bey_0 ns fun n hn => (h.2 n hn).1]
  have T := h.top
  have st : ∀ l : Nat, l ≤ top ns → (l : Int) + bey ns l ≤ bey ns 0 := by
    intro l
    induction l with
    | zero => intro _; show ((0 : Nat) : Int) + bey ns ((0 : Nat) : Int) ≤ _; simp
    | succ l ih =>
      intro hl
      have a := ih (by omega)
      have b := bey_less ns l (T.1 l (by omega))
      omega
  have de : ∀ l : Nat, dem ns 1 l = l + bey ns l := fun l => by
    unfold dem
    rw [Int.ediv_one]
    omega
  have n0 := bey_nn ns 0
  refine Int.le_antisymm (few_le n0 fun l hl => by rw [de]; exact st l (by omega)) ?_
  by_cases z : 0 < top ns
  · have := le_few (s := 1) z
    rw [de] at this
    simpa using this
  · have e : top ns = 0 := by omega
    have t := T.2.1
    rw [e] at t
    have t' : bey ns 0 = 0 := t
    have := (few_bd h (s := 1) (by decide)).1
    omega
/-! ### great ones -/
/-- a list or a tuple of them -/
def Sq (x : D) (ns : List Int) : Prop := x = .lst (ns.map D.int) ∨ x = .tup (ns.map D.int)
theorem sq_l {cs : List Int} : Sq (.lst (cs.map D.int)) cs := Or.inl rfl
theorem sq_t {cs : List Int} : Sq (.tup (cs.map D.int)) cs := Or.inr rfl
theorem take_snoc {xs : List Int} {k : Nat} {x : Int} (h : xs[k]? = some x) : (xs.take (k + 1)).map D.int = (xs.take k).map D.int ++ [.int x] := by
  rw [List.take_add_one, h, List.map_append]
  rfl
theorem Cts.great {ns : List Int} (h : Rng ns) (hl : ns.length ≤ 600) : Cts ns := ⟨hl, h⟩
theorem flat_ints (n : Nat) (ns : List Int) : (List.replicate n (ns.map D.int)).flatten = (List.replicate n ns).flatten.map D.int := by
  induction n with
  | zero => rfl
  | succ n ih => simp only [List.replicate_succ, List.flatten_cons, List.map_append, ih]
theorem flat_rng {n : Nat} {ns : List Int} (h : Rng ns) : Rng (List.replicate n ns).flatten := by
  intro x hx
  obtain ⟨l, hl, hx⟩ := List.mem_flatten.mp hx
  rw [(List.mem_replicate.mp hl).2] at hx
  exact h x hx
theorem flat_len (n : Nat) (ns : List Int) : (List.replicate n ns).flatten.length = n * ns.length := by simp
theorem rng_snoc {ns : List Int} {x : Int} (h : Rng ns) (h1 : 1 ≤ x ∧ x ≤ 1000000000000000000000000000000) : Rng (ns ++ [x]) := by
  intro y hy
  rcases List.mem_append.mp hy with hy | hy
  · exact h y hy
  · cases List.mem_singleton.mp hy; exact h1
theorem rng_app {ns ms : List Int} (h : Rng ns) (h1 : Rng ms) : Rng (ns ++ ms) := by
  intro y hy
  rcases List.mem_append.mp hy with hy | hy
  · exact h y hy
  · exact h1 y hy
/-! ## fewest strokes, compared -/
theorem bey_app (xs ys : List Int) (l : Int) : bey (xs ++ ys) l = bey xs l + bey ys l := by
  simp only [bey, List.map_append, List.sum_append]
theorem top_of_pos {ns : List Int} {l : Nat} (h : Top ns (top ns)) (p : 0 < bey ns l) : l < top ns := by
  refine Nat.lt_of_not_le fun le => ?_
  obtain ⟨j, rfl⟩ : ∃ j, l = top ns + j := ⟨l - top ns, by omega⟩
  have a := bey_anti ns (top ns) j
  have b := h.2.1
  omega
theorem ceil_le {a s m : Int} (hs : 0 < s) : (a + s - 1) / s ≤ m ↔ a ≤ s * m := by
  constructor
  · intro h
    have h1 : (a + s - 1) / s < m + 1 := by omega
    have h2 := (Int.ediv_lt_iff_lt_mul hs).mp h1
    rw [Int.add_mul, Int.mul_comm] at h2
    omega
  · intro h
    refine Int.le_of_lt_add_one ((Int.ediv_lt_iff_lt_mul hs).mpr ?_)
    rw [Int.add_mul, Int.mul_comm]
    omega
/-- m strokes are enough -/
def Eno (ns : List Int) (s m : Int) : Prop := 0 ≤ m ∧ ∀ l : Nat, 0 < bey ns l → bey ns l ≤ s * (m - l)
theorem few_iff {ns : List Int} {s m : Int} (hc : Cts ns) (hs : 0 < s) : few ns s ≤ m ↔ Eno ns s m := by
  constructor
  · intro h
    refine ⟨Int.le_trans (few_bd hc hs).1 h, fun l p => ?_⟩
    have a := le_few (s := s) (top_of_pos hc.top p)
    unfold dem at a
    exact (ceil_le hs).mp (by omega)
  · rintro ⟨h0, h⟩
    refine few_le h0 fun l hl => ?_
    have := (ceil_le (m := m - l) hs).mpr (h l (hc.top.1 l hl))
    unfold dem
    omega
theorem few_eno {ns : List Int} {s : Int} (hc : Cts ns) (hs : 0 < s) : Eno ns s (few ns s) := (few_iff hc hs).mp (Int.le_refl _)
theorem few_mono {xs ys : List Int} {s : Int} (hx : Cts xs) (hy : Cts ys) (hs : 0 < s) (h : ∀ l : Nat, bey xs l ≤ bey ys l) : few xs s ≤ few ys s := by
  refine (few_iff hx hs).mpr ?_
  obtain ⟨a, b⟩ := few_eno hy hs
  exact ⟨a, fun l p => Int.le_trans (h l) (b l (Int.lt_of_lt_of_le p (h l)))⟩
theorem few_congr {xs ys : List Int} {s : Int} (hx : Cts xs) (hy : Cts ys) (hs : 0 < s) (h : ∀ l : Nat, bey xs l = bey ys l) : few xs s = few ys s :=
  Int.le_antisymm (few_mono hx hy hs fun l => Int.le_of_eq (h l)) (few_mono hy hx hs fun l => Int.le_of_eq (h l).symm)
theorem few_sub {xs ys : List Int} {s : Int} (hx : Cts xs) (hy : Cts ys) (hxy : Cts (xs ++ ys)) (hs : 0 < s) : few (xs ++ ys) s ≤ few xs s + few ys s := by
  refine (few_iff hxy hs).mpr ?_
  obtain ⟨a, b⟩ := few_eno hx hs
  obtain ⟨c, d⟩ := few_eno hy hs
  generalize few xs s = p at a b ⊢
  generalize few ys s = q at c d ⊢
  refine ⟨by omega, fun l hp => ?_⟩
  rw [bey_app] at hp ⊢
  have h1 := bey_nn xs l
  have h2 := bey_nn ys l
  have e : s * (p + q - l) = s * (p - l) + s * (q - l) + s * l := by
    rw [← Int.mul_add, ← Int.mul_add]
    congr 1
    omega
  have e1 : s * (p + q - l) = s * (p - l) + s * q := by rw [← Int.mul_add]; congr 1; omega
  have e2 : s * (p + q - l) = s * (q - l) + s * p := by rw [← Int.mul_add]; congr 1; omega
  have f1 : 0 ≤ s * q := Int.mul_nonneg (by omega) c
  have f2 : 0 ≤ s * p := Int.mul_nonneg (by omega) a
  have f3 : 0 ≤ s * (l : Int) := Int.mul_nonneg (by omega) (by omega)
  by_cases z1 : 0 < bey xs l
  · by_cases z2 : 0 < bey ys l
    · have := b l z1
      have := d l z2
      omega
    · have := b l z1
      omega
  · have := d l (by omega)
    omega
theorem few_s {ns : List Int} {s t : Int} (hc : Cts ns) (hs : 0 < s) (h : s ≤ t) : few ns t ≤ few ns s := by
  refine (few_iff hc (by omega)).mpr ?_
  obtain ⟨a, b⟩ := few_eno hc hs
  refine ⟨a, fun l p => ?_⟩
  have c := b l p
  have d : 0 < few ns s - l := by
    refine Int.not_le.mp fun z => ?_
    have : s * (few ns s - l) ≤ 0 := Int.mul_nonpos_of_nonneg_of_nonpos (by omega) z
    omega
  exact Int.le_trans c (Int.mul_le_mul_of_nonneg_right h (by omega))
theorem few_2s {ns : List Int} {s : Int} (hc : Cts ns) (hs : 0 < s) : few ns s ≤ 2 * few ns (2 * s) := by
  refine (few_iff hc hs).mpr ?_
  obtain ⟨a, b⟩ := few_eno hc (s := 2 * s) (by omega)
  refine ⟨by omega, fun l p => ?_⟩
  have c := b l p
  generalize few ns (2 * s) = q at a c ⊢
  have e : s * (2 * q - l) = 2 * s * (q - l) + s * l := by
    rw [Int.mul_comm 2 s, Int.mul_assoc, ← Int.mul_add]
    congr 1
    omega
  have f : 0 ≤ s * (l : Int) := Int.mul_nonneg (by omega) (by omega)
  omega
theorem over_mono {n m : Int} (h : n ≤ m) (l : Int) : over n l ≤ over m l := by
  unfold over
  split <;> split <;> omega
theorem bey_cons (n : Int) (ns : List Int) (l : Int) : bey (n :: ns) l = over n l + bey ns l := by
  simp only [bey, List.map_cons, List.sum_cons]
/-- the two halves of a lath -/
def hlv (n : Int) : List Int := if n > 1 then [n / 2] else []
theorem half_le {n : Int} (h : 1 ≤ n) (l : Nat) : over ((n + 1) / 2) l + bey (hlv n) l ≤ over n l := by
  have p := pw2_pos (l : Int)
  unfold hlv
  split
  · rw [bey_cons]
    unfold over bey
    simp only [List.map_nil, List.sum_nil]
    split <;> split <;> split <;> omega
  · have e : n = 1 := by omega
    subst e
    show over ((1 + 1) / 2) l + bey [] l ≤ over 1 l
    simp [bey]
theorem half_ge {n : Int} (h : 1 ≤ n) (l : Nat) : over n ((l + 1 : Nat) : Int) ≤ over ((n + 1) / 2) l + bey (hlv n) l := by
  have p := pw2_pos (l : Int)
  have e2 := pw2_succ l
  unfold hlv
  split
  · rw [bey_cons]
    unfold over bey
    rw [e2]
    simp only [List.map_nil, List.sum_nil]
    split <;> split <;> split <;> omega
  · have e : n = 1 := by omega
    subst e
    unfold over bey
    rw [e2]
    simp only [List.map_nil, List.sum_nil]
    split <;> split <;> omega
theorem half_0 {n : Int} (h : 1 ≤ n) : over n 0 ≤ over ((n + 1) / 2) 0 + bey (hlv n) 0 + 1 := by
  have e : pw2 0 = 1 := rfl
  unfold hlv
  split
  · rw [bey_cons]
    unfold over bey
    rw [e]
    simp only [List.map_nil, List.sum_nil]
    split <;> split <;> split <;> omega
  · have e : n = 1 := by omega
    subst e
    simp [bey, over, e]
theorem few_split {A B : List Int} {n s : Int} (h1 : Cts (A ++ n :: B)) (h2 : Cts (A ++ (n + 1) / 2 :: B ++ hlv n)) (hs : 0 < s) :
    few (A ++ n :: B) s - 1 ≤ few (A ++ (n + 1) / 2 :: B ++ hlv n) s ∧ few (A ++ (n + 1) / 2 :: B ++ hlv n) s ≤ few (A ++ n :: B) s := by
  have hn : 1 ≤ n := (h1.2 n (by simp)).1
  have ea : ∀ l : Int, bey (A ++ n :: B) l = bey A l + over n l + bey B l := fun l => by rw [bey_app, bey_cons]; omega
  have eb : ∀ l : Int, bey (A ++ (n + 1) / 2 :: B ++ hlv n) l = bey A l + (over ((n + 1) / 2) l + bey (hlv n) l) + bey B l := fun l => by rw [bey_app, bey_app, bey_cons]; omega
  refine ⟨?_, few_mono h2 h1 hs fun l => ?_⟩
  · have key : few (A ++ n :: B) s ≤ few (A ++ (n + 1) / 2 :: B ++ hlv n) s + 1 := by
      refine (few_iff h1 hs).mpr ?_
      obtain ⟨a, b⟩ := few_eno h2 hs
      generalize few (A ++ (n + 1) / 2 :: B ++ hlv n) s = m at a b ⊢
      refine ⟨by omega, fun l p => ?_⟩
      cases l with
      | zero =>
        have h0 := half_0 hn
        have b0 := b 0
        rw [ea] at p ⊢
        rw [eb] at b0
        have e : s * (m + 1 - ((0 : Nat) : Int)) = s * (m - ((0 : Nat) : Int)) + s := by
          rw [show m + 1 - ((0 : Nat) : Int) = (m - ((0 : Nat) : Int)) + 1 by omega, Int.mul_add, Int.mul_one]
        have f : 0 ≤ s * (m - ((0 : Nat) : Int)) := Int.mul_nonneg (by omega) (by omega)
        rw [e]
        show bey A 0 + over n 0 + bey B 0 ≤ _
        have b0' : 0 < bey A 0 + (over ((n + 1) / 2) 0 + bey (hlv n) 0) + bey B 0 → bey A 0 + (over ((n + 1) / 2) 0 + bey (hlv n) 0) + bey B 0 ≤ s * (m - ((0 : Nat) : Int)) := b0
        by_cases z : 0 < bey A 0 + (over ((n + 1) / 2) 0 + bey (hlv n) 0) + bey B 0
        · have := b0' z
          omega
        · omega
      | succ l =>
        have g := half_ge hn l
        have d1 := bey_down A l
        have d2 := bey_down B l
        have bl := b l
        rw [ea] at p ⊢
        rw [eb] at bl
        have c := bl (by omega)
        have e : s * (m + 1 - ((l + 1 : Nat) : Int)) = s * (m - l) := by congr 1; omega
        rw [e]
        omega
    omega
  · rw [ea, eb]
    have := half_le hn l
    omega

end Y

namespace Y
open PySem PySem.Spec PyProof.Rows L2 Z

/-! ## max, min of a list -/
def mn : List Int → Int
  | [] => 0
  | n :: ns => ns.foldl min n
def rMaxDf (K : PySem.W.Frag) : List V → List V → Hp → VK → Prop := fun xs zs H Q => ∃ (a : Addr) (ns : List Int) (m : Int), xs = [.ref a] ∧ zs = [.int m] ∧ (SqL K H a (ns.map V.int) ∨ SqT K H a (ns.map V.int)) ∧ Q (.int (mxD m ns)) H
theorem dpAll_ints {K : PySem.W.Frag} {H : Hp} : ∀ ns : List Int, DpAll K H (ns.map V.int) (ns.map PyData.int)
  | [] => .nil
  | n :: ns => .cons (.int n) (dpAll_ints ns)
theorem alike_ints (ns : List Int) : PySem.W.AlikeAll (ns.map PyData.int) := by
  refine ⟨fun x hx y hy => ?_, fun x hx => ?_⟩
  · obtain ⟨n, _, rfl⟩ := List.mem_map.mp hx
    obtain ⟨m, _, rfl⟩ := List.mem_map.mp hy
    rfl
  · obtain ⟨n, _, rfl⟩ := List.mem_map.mp hx
    exact fun z => nomatch z
theorem depth_ints : ∀ ns : List Int, PyData.depthAll (ns.map PyData.int) ≤ 1
  | [] => by simp [PyData.depthAll]
  | n :: ns => by
    have := depth_ints ns
    simp only [List.map_cons, PyData.depthAll, PyData.depth]
    omega
theorem cr_maxDf {X : Cx} (hc : X.calm = true) (hu : X.A.units + 70 < cLine) : CallRK X (.builtin "max") [Str.ofString "default"] (rMaxDf X.K) := by
  intro pins s σ H xs zs us ws Q I r rz h
  obtain ⟨a, ns, m, rfl, rfl, hs, q⟩ := h
  obtain rfl := Vals.ref1 r
  obtain ⟨w1, rfl, t, rfl⟩ := vals1 rz
  have dz := depth_ints ns
  rcases hs with hs | hs
  · obtain ⟨its, rv, hl, _⟩ := I.list hs
    obtain ⟨as, ra⟩ := Dp.readsAll I (ns.map PyData.int) (ns.map V.int) its (dpAll_ints ns) rv
    refine PySem.W.max_list_default (I.ok.hd hc) hl.isList (by simpa using ra) (alike_ints ns) (by omega) (fun z h' tk hk => ?_) (fun y ys i v h' tk bs e hv rd hk => ?_)
    · cases ns with
      | nil => exact ⟨.int m, H, I.kept hk, ⟨t, rfl⟩, q⟩
      | cons n ns => cases z
    · cases ns with
      | nil => cases e
      | cons n ns =>
        rw [List.map_cons] at e
        injection e with e1 e2
        subst e1 e2
        rw [PySem.W.maxD_ints] at rd
        cases rd
        exact ⟨.int (ns.foldl max n), H, I.kept hk, ⟨_, rfl⟩, q⟩
  · obtain ⟨its, rv, hl, _⟩ := I.tuple hs
    obtain ⟨as, ra⟩ := Dp.readsAll I (ns.map PyData.int) (ns.map V.int) its (dpAll_ints ns) rv
    refine PySem.W.max_tuple_default (I.ok.hd hc) hl (by simpa using ra) (alike_ints ns) (by omega) (fun z h' tk hk => ?_) (fun y ys i v h' tk bs e hv rd hk => ?_)
    · cases ns with
      | nil => exact ⟨.int m, H, I.kept hk, ⟨t, rfl⟩, q⟩
      | cons n ns => cases z
    · cases ns with
      | nil => cases e
      | cons n ns =>
        rw [List.map_cons] at e
        injection e with e1 e2
        subst e1 e2
        rw [PySem.W.maxD_ints] at rd
        cases rd
        exact ⟨.int (ns.foldl max n), H, I.kept hk, ⟨_, rfl⟩, q⟩
def itsD (x : D) : Option (List Int) := (itemsD x).bind ints?
def intsD (x : D) : Option (List Int) := (lstD x).bind ints?
def opMax : List D → Rs D
  | [x] => (ofO (intsD x)).bind fun ns => if ns ≠ [] then .ok (.int (mx ns)) else .no
  | _ => .no
def opMaxD (xs ys : List D) : Rs D := match xs, ys with
  | [x], [.int m] => (ofO (itsD x)).bind fun ns => .ok (.int (mxD m ns))
  | _, _ => .no
def pMaxD (f g : Env → Rs (List D)) : Env → Rs D := fun Γ => (f Γ).bind fun xs => (g Γ).bind fun ys => opMaxD xs ys
def pListR (f : Env → Rs (List D)) : Env → Rs D := fun Γ => (f Γ).bind fun ds => .ok (.lst ds)
section
variable {G : KC} {Θ : List Md} {E : EK} {ta tk : TA} {te tb : TE} {t t1 t2 t3 : T} {fs gs : Env → Rs (List D)} {f g : Env → Rs D} {O : Addr → Prop} {U H F : Hp} {v : V} {x : D} {ns : List Int}
theorem intsD_R (r : R G F v x) (e : intsD x = some ns) : ∃ a, v = .ref a ∧ F a = some (.lst (ns.map V.int)) := by
  unfold intsD at e
  cases h : lstD x with
  | none => rw [h] at e; cases e
  | some ds =>
    rw [h] at e
    obtain ⟨a, vs, rfl, ha, rr⟩ := lstD_R r h
    obtain rfl := ints?_eq (show ints? ds = some ns from e)
    exact ⟨a, rfl, by rw [← rr.of_ints]; exact ha⟩
theorem itsD_R (r : R G F v x) (e : itsD x = some ns) : ∃ a, v = .ref a ∧ (F a = some (.lst (ns.map V.int)) ∨ SqT G.K F a (ns.map V.int)) := by
  unfold itsD at e
  cases h : itemsD x with
  | none => rw [h] at e; cases e
  | some ds =>
    rw [h] at e
    obtain ⟨a, vs, rfl, ha, rr⟩ := itemsD_R r h
    obtain rfl := ints?_eq (show ints? ds = some ns from e)
    exact ⟨a, rfl, by rw [← rr.of_ints]; exact ha⟩
theorem oc_max : OC G [t1] t3 (rMax G.K) opMax := fun O U H vs xs a r Q E q => by
  match xs, r, q with
  | [x], r, q =>
    obtain ⟨t, v, _, rfl, rv⟩ := RL.one r
    have q1 : PQ G O E U H (rV G O t3) Q ((ofO (intsD x)).bind fun ns => if ns ≠ [] then .ok (.int (mx ns)) else .no) := q
    cases h : intsD x with
    | none => rw [h] at q1; exact q1.elim
    | some ns =>
      rw [h] at q1
      have q2 : PQ G O E U H (rV G O t3) Q (if ns ≠ [] then .ok (.int (mx ns)) else .no) := q1
      obtain ⟨hn, q2⟩ := ite_ok q2
      obtain ⟨b, rfl, hb⟩ := intsD_R (rv.r fz_le) h
      refine ⟨b, ns, rfl, Or.inl (Or.inl (a.s _ _ hb)), List.length_pos_iff.mpr hn, fun m hm hm2 => ?_⟩
      rw [mx_is hm hm2]
      exact q2.fin a.s (.fr (.int _))
  | [], _, q => exact q.elim
  | _ :: _ :: _, _, q => exact q.elim
theorem ev_maxD (ha : EvA G Θ E [t1] ta fs) (hk : EvA G Θ E [t2] tk gs) : EvV G Θ E .fz (tCKw (rMaxDf G.K) ta tk) (pMaxD fs gs) := fun O U H σ Γ a Q q =>
  ha O U H σ Γ a _ (q.bind fun xs vs U1 H1 g1 r1 q => hk O U1 H1 σ Γ (a.grow g1) _ (q.bind fun ys ws U2 H2 g2 r2 q => by
    unfold opMaxD at q
    split at q
    · rename_i x m q0
      obtain ⟨t, v, _, rfl, rv⟩ := RL.one r1
      obtain ⟨t', w, _, rfl, rw_⟩ := RL.one r2
      obtain rfl := int_of rw_
      cases h : itsD x with
      | none => rw [h] at q; exact q.elim
      | some ns =>
        rw [h] at q
        obtain ⟨b, rfl, hb⟩ := itsD_R (rv.r fz_le) h
        have a2 := (a.grow g1).grow g2
        refine ⟨b, ns, m, rfl, rfl, ?_, PQ.fin (a := D.int (mxD m ns)) q a2.g.s (.fr (.int _))⟩
        rcases hb with hb | hb
        · exact Or.inl (Or.inl (Or.inl (a2.g.s _ _ (g2.f _ _ hb))))
        · exact Or.inr (same_t a2.g.s (same_t g2.f hb))
    · exact q.elim))
/-- list(range(..)) -/
def opLR1 : D → Rs D
  | .int n => if n ≤ 4000000 ∧ -4000000 ≤ n then .ok (.lst (rngD 0 n.toNat)) else .no
  | _ => .no
def opLR2 : D → D → Rs D
  | .int m, .int n => if (n ≤ 4000000 ∧ -4000000 ≤ n) ∧ m ≤ 4000000 ∧ -4000000 ≤ m then .ok (.lst (rngD m (n - m).toNat)) else .no
  | _, _ => .no
theorem rg_R (F : Hp) (a b : Int) : RA G F (rgV a b) (rngD a (b - a).toNat) := by
  unfold rgV rngD
  generalize (List.range (b - a).toNat) = l
  induction l with
  | nil => exact .nil
  | cons i l ih => exact .cons (.int _) ih
theorem new_list {p : Addr} {vs : List V} {ds : List D} (a : Reg G O U H) (hp : H p = none) (r : RA G (Fz O U) vs ds) : (rN G O (.lst .fz)).r H U (upd H p (.lst vs)) (.ref p) (.lst ds) :=
  ⟨[p], .lst upd_same (a.tn hp) (OwnA.of_r r), by simp, fun b hb => by cases List.mem_singleton.mp hb; exact ⟨hp, a.s.free hp⟩⟩
theorem en_listR1 (h : EvV G Θ E t1 te f) : EvN G Θ E (.lst .fz) (tLstRg (tRg1 te)) (pUn opLR1 f) := fun O U H σ Γ a Q q =>
  h O U H σ Γ a _ (q.bind fun x v U1 H1 g1 r1 q => by
    cases x with
    | int n =>
      have q1 : PQ G O (E σ) U1 H1 (rN G O (.lst .fz)) Q (if n ≤ 4000000 ∧ -4000000 ≤ n then .ok (.lst (rngD 0 n.toNat)) else .no) := q
      obtain ⟨hn, q1⟩ := ite_ok q1
      refine ⟨n, int_of r1, ⟨by decide, by decide, by omega, by omega, by omega⟩, fun p hp => ?_⟩
      refine q1 (.ref p) U1 _ ((Gr.refl (a.grow g1).g.s).newH hp) (new_list (a.grow g1).g hp ?_)
      have := rg_R (G := G) (Fz O U1) 0 n
      rwa [Int.sub_zero] at this
    | _ => exact q.elim)
theorem en_listR2 (h : EvV G Θ E t1 te f) (h2 : EvV G Θ E t2 tb g) : EvN G Θ E (.lst .fz) (tLstRg (tRg2 te tb)) (pOp opLR2 f g) := fun O U H σ Γ a Q q =>
  h O U H σ Γ a _ (q.bind fun x v U1 H1 g1 r1 q => h2 O U1 H1 σ Γ (a.grow g1) _ (q.bind fun y w U2 H2 g2 r2 q => by
    unfold opLR2 at q
    split at q
    · rename_i m n q0
      obtain ⟨hn, q1⟩ := ite_ok q
      have a2 := (a.grow g1).grow g2
      refine ⟨m, n, int_of r1, int_of r2, ⟨by omega, by omega, by omega, by omega, by omega⟩, fun p hp => ?_⟩
      exact q1 (.ref p) U2 _ ((Gr.refl a2.g.s).newH hp) (new_list a2.g hp (rg_R _ _ _))
    · exact q.elim))
/-! dict displays -/
theorem ev_dnew : EvV G Θ E .fz tDNewK (pC (.dic [])) := fun O U H σ Γ a Q q p hp =>
  q (.ref p) _ _ ((Gr.refl a.g.s).new hp) (.fr (.dic (.inl (fz_of (a.g.no hp) upd_same)) (a.g.tn hp) .nil))
def pDic1 (k : Key) (f : Env → Rs D) : Env → Rs D := fun Γ => (f Γ).bind fun d => .ok (.dic [(k, d)])
theorem ev_disp1 {k : Key} (h : EvV G Θ E .fz te f) : EvV G Θ E .fz (tDisp [(tC (kV k), te)]) (pDic1 k f) := fun O U H σ Γ a Q q p hp => by
  have gp := (Gr.refl a.g.s).newH (o := .dK []) hp
  refine h O U _ σ Γ (a.grow gp) _ ?_
  have q' : PQ G O (E σ) U (upd H p (.dK [])) (rV G O .fz) Q ((f Γ).bind fun d => .ok (.dic [(k, d)])) := PQ.grow gp q
  cases hf : f Γ with
  | no => rw [show pDic1 k f Γ = .no by unfold pDic1; rw [hf]; rfl] at q; exact q.elim
  | ex c fs => rw [hf] at q'; exact q'
  | ok d =>
    have q2 : PQ G O (E σ) U H (rV G O .fz) Q (.ok (.dic [(k, d)])) := by rw [show pDic1 k f Γ = .ok (.dic [(k, d)]) by unfold pDic1; rw [hf]; rfl] at q; exact q
    intro v U2 H2 g2 rv
    have hp2 : H2 p = some (.dK []) := g2.h _ _ upd_same
    have np : U2 p = none := by
      cases z : U2 p with
      | none => rfl
      | some o =>
        rcases g2.n p o z with y | y
        · rw [a.g.s.free hp] at y; cases y
        · rw [upd_same] at y; cases y
    refine ⟨hp2, [(k, v)], rfl, (by show 1 ≤ 15; decide), ?_⟩
    have s2 : Same U2 H2 := g2.s
    have g3 : Gr U H (upd U2 p (.dK [(k, v)])) (upd H2 p (.dK [(k, v)])) := by
      refine ⟨fun b o z => ?_, fun b o z => ?_, fun b o z => ?_, fun b o z => ?_⟩
      · rw [upd_ne (fun e => by subst e; rw [a.g.s.free hp] at z; cases z)]; exact g2.f b o z
      · have ne : b ≠ p := fun e => by subst e; rw [hp] at z; cases z
        rw [upd_ne ne]; exact g2.h b o (by rw [upd_ne ne]; exact z)
      · by_cases e : b = p
        · subst e; rw [upd_same] at z ⊢; exact z
        · rw [upd_ne e] at z ⊢; exact s2 b o z
      · by_cases e : b = p
        · subst e; exact Or.inr hp
        · rw [upd_ne e] at z
          rcases g2.n b o z with y | y
          · exact Or.inl y
          · rw [upd_ne e] at y; exact Or.inr y
    have fo : Same (Fz O U2) (Fz O (upd U2 p (.dK [(k, v)]))) := by
      intro b o z
      obtain ⟨z1, z2⟩ := fz_in z
      exact fz_of z1 (by rw [upd_ne (fun e => by subst e; rw [np] at z2; cases z2)]; exact z2)
    exact q2 (.ref p) _ _ g3 (.fr (.dic (.inl (fz_of (a.g.no hp) upd_same)) (a.g.tn hp) (.cons ((RT.fz rv).mono fo) .nil)))
end
end Y

namespace Y
open PySem PySem.Spec PyProof.Rows L2 Z

/-! ## comprehensions, once more -/
theorem mapo_g {α : Type} {f : D → Rs (Option D)} {l : List α} (g k : α → D) (h : ∀ x ∈ l, vR (P := ⟨fun o => o = some (k x), fun _ _ => False⟩) (f (g x))) : mapO f (l.map g) = .ok (l.map k) := by
  induction l with
  | nil => rfl
  | cons x l ih =>
    have h1 := vR_out (h x List.mem_cons_self)
    rw [List.map_cons, mapO, ih fun y hy => h y (List.mem_cons_of_mem _ hy)]
    cases hf : f (g x) with
    | ok o => rw [hf] at h1; rw [show o = some (k x) from h1]; rfl
    | ex c fs => rw [hf] at h1; exact h1.elim
    | no => rw [hf] at h1; exact h1.elim
theorem mapo_if {α : Type} {f : D → Rs (Option D)} {l : List α} (g k : α → D) (p : α → Bool) (h : ∀ x ∈ l, vR (P := ⟨fun o => o = if p x = true then some (k x) else none, fun _ _ => False⟩) (f (g x))) : mapO f (l.map g) = .ok ((l.filter p).map k) := by
  induction l with
  | nil => rfl
  | cons x l ih =>
    have h1 := vR_out (h x List.mem_cons_self)
    rw [List.map_cons, mapO, ih fun y hy => h y (List.mem_cons_of_mem _ hy)]
    cases hf : f (g x) with
    | ok o =>
      rw [hf] at h1
      replace h1 : o = if p x = true then some (k x) else none := h1
      subst h1
      by_cases e : p x = true
      · rw [if_pos e, List.filter_cons_of_pos e]; rfl
      · rw [if_neg e, List.filter_cons_of_neg e]; rfl
    | ex c fs => rw [hf] at h1; exact h1.elim
    | no => rw [hf] at h1; exact h1.elim
theorem enD_range (f : Nat → Int) (n : Nat) : enD (((List.range n).map f).map D.int) = (List.range n).map fun l : Nat => D.tup [.int (l : Int), .int (f l)] := by
  unfold enD
  apply List.ext_getElem
  · simp
  · intro i h1 h2
    simp
theorem rngD_range (n : Nat) : rngD 0 n = (List.range n).map fun l : Nat => D.int (l : Int) := by
  unfold rngD
  congr 1
  funext i
  rw [Int.zero_add]
def gN (Γ : Env) (i : Nat) : Option D := (Γ[i]?).getD none
theorem gN_0 {o : Option D} {Γ : Env} : gN (o :: Γ) 0 = o := rfl
theorem gN_s {o : Option D} {Γ : Env} {i : Nat} : gN (o :: Γ) (i + 1) = gN Γ i := rfl
theorem unwip_c {Γ0 Γ : Env} {v : Nat} {vs : List Nat} : unwip Γ0 Γ (v :: vs) = (unwip Γ0 Γ vs).set v (gN Γ0 v) := rfl
theorem unwip_n {Γ0 Γ : Env} : unwip Γ0 Γ [] = Γ := rfl
theorem enD_len (ds : List D) : (enD ds).length = ds.length := by unfold enD; simp
section
variable {Q : D → Prop} {X : XR0} {QL : List D → Prop} {k : Key} {ns : List Int} {Γ : Env} {m : Int} {n : Int}
theorem vw_pMaxD {f g : Env → Rs (List D)} : vR (P := ⟨Q, X⟩) (pMaxD f g Γ) ↔ vR (P := ⟨fun xs => vR (P := ⟨fun ys => vR (P := ⟨Q, X⟩) (opMaxD xs ys), X⟩) (g Γ), X⟩) (f Γ) := by
  simp only [vR_iff]
  unfold pMaxD
  simp only [wR_bind]
theorem vw_maxD : vR (P := ⟨Q, X⟩) (opMaxD [.lst (ns.map D.int)] [.int m]) ↔ Q (.int (mxD m ns)) := by
  simp only [vR_iff]
  unfold opMaxD itsD itemsD un
  simp only [Option.bind_some, ints?_map, ofO_some, Rs.bind_ok, wR_ok]
theorem vw_maxDT : vR (P := ⟨Q, X⟩) (opMaxD [.tup (ns.map D.int)] [.int m]) ↔ Q (.int (mxD m ns)) := by
  simp only [vR_iff]
  unfold opMaxD itsD itemsD un
  simp only [Option.bind_some, ints?_map, ofO_some, Rs.bind_ok, wR_ok]
theorem vw_max1 : vR (P := ⟨Q, X⟩) (opMax [.lst (ns.map D.int)]) ↔ ns ≠ [] ∧ Q (.int (mx ns)) := by
  simp only [vR_iff]
  unfold opMax intsD lstD un
  simp only [Option.bind_some, ints?_map, ofO_some, Rs.bind_ok]
  exact w_ite
theorem eqD_bl {a b : Bool} : eqD (.bl a) (.bl b) = decide (a = b) := by cases a <;> cases b <;> rfl
theorem vw_eqB {a b : Bool} : vR (P := ⟨Q, X⟩) (opEq (.bl a) (.bl b)) ↔ Q (.bl (decide (a = b))) := by
  simp only [vR_iff]
  rw [w_eqG]
  show (_ ∧ _) ↔ _
  rw [eqD_bl]
  simp only [okD_bl, true_and]
theorem vw_neB {a b : Bool} : vR (P := ⟨Q, X⟩) (opNe (.bl a) (.bl b)) ↔ Q (.bl (!decide (a = b))) := by
  simp only [vR_iff]
  rw [w_neG]
  show (_ ∧ _) ↔ _
  rw [eqD_bl]
  simp only [okD_bl, true_and]
theorem vw_LR1 : vR (P := ⟨Q, X⟩) (opLR1 (.int n)) ↔ (n ≤ 4000000 ∧ -4000000 ≤ n) ∧ Q (.lst (rngD 0 n.toNat)) := by
  simp only [vR_iff]
  exact w_ite
theorem vw_LR2 : vR (P := ⟨Q, X⟩) (opLR2 (.int m) (.int n)) ↔ ((n ≤ 4000000 ∧ -4000000 ≤ n) ∧ m ≤ 4000000 ∧ -4000000 ≤ m) ∧ Q (.lst (rngD m (n - m).toNat)) := by
  simp only [vR_iff]
  exact w_ite
theorem vw_pDic1 {f : Env → Rs D} : vR (P := ⟨Q, X⟩) (pDic1 k f Γ) ↔ vR (P := ⟨fun d => Q (.dic [(k, d)]), X⟩) (f Γ) := by
  simp only [vR_iff]
  unfold pDic1
  simp only [wR_bind, wR_ok]
end
/-! ## the least stack -/
noncomputable def stk (ns : List Int) (m : Int) : Int := mxD 1 ((List.range (top ns)).map fun l : Nat => (bey ns l + (m - l) - 1) / (m - l))
theorem mxD_le {d s : Int} {ns : List Int} (h : ∀ n ∈ ns, d ≤ n) : mxD d ns ≤ s ∧ d ≤ s ↔ (∀ n ∈ ns, n ≤ s) ∧ d ≤ s := by
  cases ns with
  | nil => simp [mxD]
  | cons n ns =>
    have f := foldl_max n ns
    constructor
    · rintro ⟨a, b⟩
      refine ⟨fun y hy => ?_, b⟩
      rcases List.mem_cons.mp hy with rfl | hy
      · exact Int.le_trans f.2.1 a
      · exact Int.le_trans (f.2.2 y hy) a
    · rintro ⟨a, b⟩
      refine ⟨?_, b⟩
      rcases f.1 with z | z
      · show ns.foldl max n ≤ s
        rw [z]; exact a n List.mem_cons_self
      · exact a _ (List.mem_cons_of_mem _ z)
theorem stk_mem {ns : List Int} {m y : Int} (hm : (top ns : Int) ≤ m) (h : y ∈ (List.range (top ns)).map fun l : Nat => (bey ns l + (m - l) - 1) / (m - l)) (hc : Cts ns) : 1 ≤ y ∧ y ≤ 600000000000000000000000000000000 := by
  obtain ⟨l, hl, rfl⟩ := List.mem_map.mp h
  have hl := List.mem_range.mp hl
  have p := hc.top.1 l hl
  have b := (hc.bey (l : Int)).2
  have := ceil_pos (a := bey ns l) (s := m - l) p (by omega)
  omega
theorem stk_bd {ns : List Int} {m : Int} (hc : Cts ns) (hm : (top ns : Int) ≤ m) : 1 ≤ stk ns m ∧ stk ns m ≤ 600000000000000000000000000000000 := by
  unfold stk
  have key := fun y h => stk_mem (m := m) (y := y) hm h hc
  revert key
  cases (List.range (top ns)).map fun l : Nat => (bey ns l + (m - l) - 1) / (m - l) with
  | nil => intro _; exact ⟨by decide, by decide⟩
  | cons n l =>
    intro key
    have f := foldl_max n l
    have a := key n List.mem_cons_self
    refine ⟨Int.le_trans a.1 f.2.1, ?_⟩
    rcases f.1 with z | z
    · show l.foldl max n ≤ _
      rw [z]; exact a.2
    · exact (key _ (List.mem_cons_of_mem _ z)).2
theorem few_stk {ns : List Int} {s m : Int} (hc : Cts ns) (hm : (top ns : Int) ≤ m) (hs : 1 ≤ s) : few ns s ≤ m ↔ stk ns m ≤ s := by
  have e1 : stk ns m ≤ s ↔ ∀ y ∈ (List.range (top ns)).map fun l : Nat => (bey ns l + (m - l) - 1) / (m - l), y ≤ s := by
    have := mxD_le (d := 1) (s := s) (fun y h => (stk_mem (m := m) hm h hc).1)
    unfold stk
    exact ⟨fun h => (this.mp ⟨h, hs⟩).1, fun h => (this.mpr ⟨h, hs⟩).1⟩
  rw [e1, few_iff hc (by omega)]
  constructor
  · rintro ⟨_, h⟩ y hy
    obtain ⟨l, hl, rfl⟩ := List.mem_map.mp hy
    have hl := List.mem_range.mp hl
    refine (ceil_le (by omega)).mpr ?_
    rw [Int.mul_comm]
    exact h l (hc.top.1 l hl)
  · intro h
    refine ⟨by omega, fun l p => ?_⟩
    have hl := top_of_pos hc.top p
    have := (ceil_le (a := bey ns l) (s := m - l) (m := s) (by omega)).mp (h _ (List.mem_map.mpr ⟨l, List.mem_range.mpr hl, rfl⟩))
    rw [Int.mul_comm]
    exact this
end Y

namespace Y
open PySem PySem.Spec PyProof.Rows L2 Z

/-! ## sorted -/
theorem perm_uniq {α : Type} {le : α → α → Prop} (anti : ∀ a b, le a b → le b a → a = b) : ∀ {l m : List α}, l.Perm m → l.Pairwise le → m.Pairwise le → l = m
  | [], m, p, _, _ => (List.nil_perm.mp p).symm
  | x :: l, [], p, _, _ => absurd (List.perm_nil.mp p) (by simp)
  | x :: l, y :: m, p, h1, h2 => by
    have e : x = y := by
      have a := p.mem_iff.mp (List.mem_cons_self (a := x) (l := l))
      have b := p.mem_iff.mpr (List.mem_cons_self (a := y) (l := m))
      rcases List.mem_cons.mp a with a | a
      · exact a
      · rcases List.mem_cons.mp b with b | b
        · exact b.symm
        · exact anti x y ((List.pairwise_cons.mp h1).1 y b) ((List.pairwise_cons.mp h2).1 x a)
    subst e
    rw [perm_uniq anti p.cons_inv (List.pairwise_cons.mp h1).2 (List.pairwise_cons.mp h2).2]
section
variable {α : Type}
/-- into its place -/
def insB (le : α → α → Bool) (x : α) : List α → List α
  | [] => [x]
  | y :: ys => if le x y = true then x :: y :: ys else y :: insB le x ys
def srtB (le : α → α → Bool) (l : List α) : List α := l.foldr (insB le) []
theorem insB_perm (le : α → α → Bool) (x : α) : ∀ l : List α, (insB le x l).Perm (x :: l)
  | [] => .refl _
  | y :: ys => by
    unfold insB
    split
    · exact .refl _
    · exact ((insB_perm le x ys).cons y).trans (.swap x y ys)
theorem srtB_perm (le : α → α → Bool) : ∀ l : List α, (srtB le l).Perm l
  | [] => .refl _
  | x :: l => (insB_perm le x _).trans ((srtB_perm le l).cons x)
theorem insB_srt {le : α → α → Bool} (tot : ∀ a b, le a b = true ∨ le b a = true) (tr : ∀ a b c, le a b = true → le b c = true → le a c = true) (x : α) : ∀ {l : List α}, l.Pairwise (fun a b => le a b = true) → (insB le x l).Pairwise (fun a b => le a b = true)
  | [], _ => List.pairwise_singleton _ _
  | y :: ys, h => by
    obtain ⟨h1, h2⟩ := List.pairwise_cons.mp h
    unfold insB
    split
    · rename_i z
      refine List.pairwise_cons.mpr ⟨fun b hb => ?_, h⟩
      rcases List.mem_cons.mp hb with rfl | hb
      · exact z
      · exact tr _ _ _ z (h1 b hb)
    · rename_i z
      refine List.pairwise_cons.mpr ⟨fun b hb => ?_, insB_srt tot tr x h2⟩
      rcases List.mem_cons.mp ((insB_perm le x ys).mem_iff.mp hb) with rfl | hb
      · exact (tot y b).resolve_right z
      · exact h1 b hb
theorem srtB_srt {le : α → α → Bool} (tot : ∀ a b, le a b = true ∨ le b a = true) (tr : ∀ a b c, le a b = true → le b c = true → le a c = true) : ∀ l : List α, (srtB le l).Pairwise (fun a b => le a b = true)
  | [] => .nil
  | x :: l => insB_srt tot tr x (srtB_srt tot tr l)
end
def leI (a b : Int) : Bool := decide (a ≤ b)
def leP (a b : Int × Int) : Bool := decide (a.1 < b.1 ∨ a.1 = b.1 ∧ a.2 ≤ b.2)
def srtI (ns : List Int) : List Int := srtB leI ns
def srtP (ps : List (Int × Int)) : List (Int × Int) := srtB leP ps
theorem srtI_is {ns ms : List Int} (p : ms.Perm ns) (h : ms.Pairwise (· ≤ ·)) : ms = srtI ns := by
  refine perm_uniq (le := fun a b => leI a b = true) (fun a b h1 h2 => ?_) (p.trans (srtB_perm leI ns).symm) (h.imp fun {a b} z => by simpa [leI] using z) (srtB_srt (fun a b => ?_) (fun a b c h1 h2 => ?_) ns)
  · simp only [leI, decide_eq_true_eq] at h1 h2; omega
  · simp only [leI, decide_eq_true_eq]; omega
  · simp only [leI, decide_eq_true_eq] at *; omega
theorem srtP_is {ps qs : List (Int × Int)} (p : qs.Perm ps) (h : qs.Pairwise fun a b => leP a b = true) : qs = srtP ps := by
  refine perm_uniq (le := fun a b => leP a b = true) (fun a b h1 h2 => ?_) (p.trans (srtB_perm leP ps).symm) h (srtB_srt (fun a b => ?_) (fun a b c h1 h2 => ?_) ps)
  · simp only [leP, decide_eq_true_eq] at h1 h2; exact Prod.ext (by omega) (by omega)
  · simp only [leP, decide_eq_true_eq]; omega
  · simp only [leP, decide_eq_true_eq] at *; omega
/-- pairs, whatever part of the heap they lie in -/
def rSortedPT (K : PySem.W.Frag) : List V → Hp → VK → Prop := fun vs H Q => ∃ (a : Addr) (xs : List V) (k : V → Int × Int), vs = [V.ref a] ∧ SqL K H a xs ∧ (∀ x ∈ xs, ∃ t, x = V.ref t ∧ SqT K H t [.int (k x).1, .int (k x).2]) ∧
  ∀ ys p, SrtO.Srtd (ltP k) ys → SrtO.Stb (ltP k) ys xs → H p = none → Q (.ref p) (upd H p (.lst ys))
theorem cr_sortedPT {X : Cx} : CallR X (.builtin "sorted") (rSortedPT X.K) := by
  intro pins s σ H vs us Q I r h
  obtain ⟨a, xs, k, rfl, hs, hx, q⟩ := h
  obtain ⟨its, rv, hl, hz⟩ := I.list hs
  obtain ⟨u, rfl, ru⟩ := vals1 r
  obtain rfl : u = Value.ref a := ru
  obtain ⟨e1, e2⟩ := refs_back rv fun x m => by
    obtain ⟨t, e, _⟩ := hx x m
    exact ⟨t, e⟩
  refine SrtO.sorted_pairsO (k := fun u => k (backV u)) hl.isList (by rw [← rv.length]; exact hz) (fun v hv => ?_) fun h' d out h1 h2 kp hd hn => ?_
  · obtain ⟨t, rfl⟩ := e2 v hv
    have hm : V.ref t ∈ xs := by rw [e1]; exact List.mem_map.mpr ⟨_, hv, rfl⟩
    obtain ⟨t', e, ht⟩ := hx _ hm
    cases e
    obtain ⟨its2, r2, ⟨o, ho, hc, n, hd⟩, _⟩ := I.tuple ht
    obtain ⟨u1, u2, rfl, ri, rj⟩ := vals2 r2
    obtain ⟨t1, rfl⟩ := ri
    obtain ⟨t2, rfl⟩ := rj
    exact ⟨t, o, t1, t2, n, rfl, ho, hc, hd⟩
  · have h3 : ∀ u ∈ out, ∃ a, u = Value.ref a := fun u hu => e2 u (h2.perm.mem_iff.mp hu)
    obtain ⟨n, hn⟩ := hn
    have hb : SrtO.Stb (ltP k) (out.map backV) xs := by
      rw [e1]
      exact SrtO.Stb.map (ltP_swo k) backV h2
    refine ⟨.ref d, upd H d (.lst (out.map backV)), I.laid (t' := s.toks) kp hd ⟨?_, out, n, vals_back h3, hn⟩, rfl, q _ d (SrtO.srtd_map h1) hb (I.hok.fresh hd)⟩
    rw [hb.len]
    exact hz
inductive PrR (K : PySem.W.Frag) (H : Hp) : List V → List (Int × Int) → Prop
  | nil : PrR K H [] []
  | cons {t : Addr} {i j : Int} {vs : List V} {ps : List (Int × Int)} : SqT K H t [.int i, .int j] → PrR K H vs ps → PrR K H (.ref t :: vs) ((i, j) :: ps)
def rSortedPR (K : PySem.W.Frag) : List V → Hp → VK → Prop := fun vs H Q => ∃ (a : Addr) (xs : List V) (ps : List (Int × Int)) (F : Hp), vs = [V.ref a] ∧ SqL K H a xs ∧ Same F H ∧ PrR K F xs ps ∧
  ∀ ys p, PrR K F ys (srtP ps) → H p = none → Q (.ref p) (upd H p (.lst ys))
open Classical in
theorem cr_sortedPR {X : Cx} : CallR X (.builtin "sorted") (rSortedPR X.K) := by
  intro pins s σ H vs us Q I r h
  obtain ⟨a, xs, ps, F, rfl, hs, hF, hx, q⟩ := h
  let k : V → Int × Int := fun v => if h : ∃ p : Int × Int, ∃ t, v = .ref t ∧ SqT X.K F t [.int p.1, .int p.2] then h.choose else (0, 0)
  have hk : ∀ (t : Addr) (i j : Int), SqT X.K F t [.int i, .int j] → k (.ref t) = (i, j) := fun t i j ht => by
    have ex : ∃ p : Int × Int, ∃ t', V.ref t = .ref t' ∧ SqT X.K F t' [.int p.1, .int p.2] := ⟨(i, j), t, rfl, ht⟩
    have e : k (.ref t) = ex.choose := dif_pos ex
    rw [e]
    obtain ⟨t', e1, e2⟩ := ex.choose_spec
    cases e1
    have := I.tuple_inj (same_t hF e2) (same_t hF ht)
    injection this with a1 a2
    injection a2 with a2 _
    exact Prod.ext (V.int.inj a1) (V.int.inj a2)
  have hm : ∀ {xs : List V} {ps : List (Int × Int)}, PrR X.K F xs ps → ps = xs.map k ∧ ∀ x ∈ xs, ∃ t, x = V.ref t ∧ SqT X.K F t [.int (k x).1, .int (k x).2] := by
    intro xs ps h
    induction h with
    | nil => exact ⟨rfl, fun x hx => absurd hx List.not_mem_nil⟩
    | @cons t i j vs ps h r ih =>
      have e := hk t i j h
      refine ⟨by rw [List.map_cons, ← ih.1, e], fun x hx => ?_⟩
      rcases List.mem_cons.mp hx with rfl | hx
      · exact ⟨t, rfl, by rw [e]; exact h⟩
      · exact ih.2 x hx
  have back : ∀ ys : List V, (∀ x ∈ ys, ∃ t, x = V.ref t ∧ SqT X.K F t [.int (k x).1, .int (k x).2]) → PrR X.K F ys (ys.map k) := by
    intro ys
    induction ys with
    | nil => exact fun _ => .nil
    | cons y ys ih =>
      intro h
      obtain ⟨t, rfl, ht⟩ := h y List.mem_cons_self
      exact .cons ht (ih fun x hx => h x (List.mem_cons_of_mem _ hx))
  obtain ⟨h1, h2⟩ := hm hx
  refine cr_sortedPT pins s σ H _ us Q I r ⟨a, xs, k, rfl, hs, fun x hx => (let ⟨t, e, h⟩ := h2 x hx; ⟨t, e, same_t hF h⟩), fun ys p g1 g2 hp => q ys p ?_ hp⟩
  have e : ys.map k = srtP ps := by
    refine srtP_is ?_ ?_
    · rw [h1]; exact g2.perm.map k
    · refine List.pairwise_map.mpr (g1.imp fun {x y} z => ?_)
      have := SrtO.lexB_no.mp z
      simp only [leP, decide_eq_true_eq]
      omega
  rw [← e]
  exact back ys fun x hx => h2 x (g2.perm.mem_iff.mp hx)
def rSortedY (K : PySem.W.Frag) : List V → Hp → VK → Prop := fun xs H Q => rSortedI K xs H Q ∨ rSortedPR K xs H Q
theorem zc_sorted {X : Cx} : CallR X (.builtin "sorted") (rSortedY X.K) := or_call cr_sortedI cr_sortedPR
def prD (p : Int × Int) : D := .tup [.int p.1, .int p.2]
def prs? : List D → Option (List (Int × Int))
  | [] => some []
  | .tup [.int i, .int j] :: ds => (prs? ds).map ((i, j) :: ·)
  | _ :: _ => none
theorem prs?_map : ∀ ps : List (Int × Int), prs? (ps.map prD) = some ps
  | [] => rfl
  | (i, j) :: ps => by simp [prs?, prD, prs?_map ps]
def opSorted : List D → Rs D
  | [x] => (ofO (lstD x)).bind fun ds => match ints? ds with
    | some ns => .ok (.lst ((srtI ns).map D.int))
    | none => match prs? ds with
      | some ps => .ok (.lst ((srtP ps).map prD))
      | none => .no
  | _ => .no
section
variable {G : KC} {O : Addr → Prop} {U H F : Hp}
theorem prs?_eq : ∀ {ds : List D} {ps : List (Int × Int)}, prs? ds = some ps → ds = ps.map prD := by
  intro ds
  induction ds with
  | nil => intro ps h; cases h; rfl
  | cons d ds ih =>
    intro ps h
    unfold prs? at h
    split at h
    · rename_i h0; cases h0
    · rename_i i j ds' h0
      cases h0
      obtain ⟨qs, h1, rfl⟩ := Option.map_eq_some_iff.mp h
      rw [ih h1]; rfl
    · cases h
theorem RA.prs : ∀ {vs : List V} {ps : List (Int × Int)}, RA G F vs (ps.map prD) → PrR G.K F vs ps
  | _, [], .nil => .nil
  | _, (i, j) :: ps, .cons h r => by
    obtain ⟨a, us, rfl, h1, h2⟩ := R_tup h rfl
    cases h2 with
    | cons a1 h2 =>
      cases h2 with
      | cons a2 h2 =>
        cases h2
        cases a1
        cases a2
        exact .cons h1 (RA.prs r)
theorem PrR.ra : ∀ {vs : List V} {ps : List (Int × Int)}, PrR G.K F vs ps → RA G F vs (ps.map prD)
  | _, _, .nil => .nil
  | _, _, .cons h r => .cons (.tup h (.cons (.int _) (.cons (.int _) .nil))) (PrR.ra r)
theorem on_sorted : OCN G [.lst .fz] (.lst .fz) (rSortedY G.K) opSorted := fun O U H vs xs a r Q E q => by
  match xs, r, q with
  | [x], r, q =>
    obtain ⟨t, v, e0, rfl, rv⟩ := RL.one r
    cases e0
    have q1 : PQ G O E U H (rN G O (.lst .fz)) Q ((ofO (lstD x)).bind fun ds => match ints? ds with
      | some ns => .ok (.lst ((srtI ns).map D.int))
      | none => match prs? ds with
        | some ps => .ok (.lst ((srtP ps).map prD))
        | none => .no) := q
    cases h : lstD x with
    | none => rw [h] at q1; exact q1.elim
    | some ds =>
      rw [h] at q1
      obtain ⟨b, us, rfl, hb, rr⟩ := lst_fzD rv fz_le h
      have hH : SqL G.K H b us := Or.inl (Or.inl (a.s _ _ hb))
      cases h2 : ints? ds with
      | some ns =>
        simp only [ofO_some, Rs.bind_ok, h2] at q1
        have e := ints?_eq h2
        subst e
        rw [rr.of_ints] at hH
        refine Or.inl ⟨b, ns, rfl, hH, fun ns' p p1 p2 hp => ?_⟩
        have := srtI_is p1 p2
        subst this
        refine q1 (.ref p) U _ ((Gr.refl a.s).newH hp) (new_list a hp ?_)
        generalize srtI ns = l
        induction l with
        | nil => exact .nil
        | cons n l ih => exact .cons (.int n) ih
      | none =>
        simp only [ofO_some, Rs.bind_ok, h2] at q1
        cases h3 : prs? ds with
        | none => simp only [h3] at q1; exact q1.elim
        | some ps =>
          simp only [h3] at q1
          have e := prs?_eq h3
          subst e
          refine Or.inr ⟨b, us, ps, Fz O U, rfl, hH, fz_le.trans a.s, RA.prs rr, fun ys p hy hp => ?_⟩
          exact q1 (.ref p) U _ ((Gr.refl a.s).newH hp) (new_list a hp (PrR.ra hy))
  | [], _, q => exact q.elim
  | _ :: _ :: _, _, q => exact q.elim
end
section
variable {Q : D → Prop} {X : XR0} {ns : List Int} {ps : List (Int × Int)}
theorem vw_srtI : vR (P := ⟨Q, X⟩) (opSorted [.lst (ns.map D.int)]) ↔ Q (.lst ((srtI ns).map D.int)) := by
  simp only [vR_iff]
  unfold opSorted lstD un
  simp only [ofO_some, Rs.bind_ok, ints?_map, wR_ok]
theorem ints_prs : ∀ ps : List (Int × Int), ps ≠ [] → ints? (ps.map prD) = none
  | [], h => absurd rfl h
  | _ :: _, _ => rfl
theorem vw_srtP (h : ps ≠ []) : vR (P := ⟨Q, X⟩) (opSorted [.lst (ps.map prD)]) ↔ Q (.lst ((srtP ps).map prD)) := by
  simp only [vR_iff]
  unfold opSorted lstD un
  simp only [ofO_some, Rs.bind_ok, ints_prs ps h, prs?_map, wR_ok]
end
end Y

namespace Y
open PySem PySem.Spec PyProof.Rows L2 Z
open PySem.SeqAt
open AutoSeq1 (wpAny_loadPart')

/-! ## a dict is no str -/
theorem str_eq_declines_dict (b : Str) (u : Tok) (l : Addr) (c : Value) (es : Array DictEntry) (n : Nat) (dd : Option Addr) (sl : Array (Option Value)) :
    Meets (Builtin.«str.__eq__» ⟨[.str b u, .ref l], []⟩) (fun _ R s => s.heap.get? l = some { cls := c, dict := dd, data := .dict es n, slots := sl } ∧ R (.ok (.ret .notImplemented)) s) :=
  .of_wp fun prog w A R s h => by
    obtain ⟨hp, g, d, tk, os⟩ := s
    obtain ⟨hl, h⟩ := h
    wp_walk using wpAny_loadPart' hl, wpAny_load hl
    exact ⟨_, rfl, h⟩
section
variable {prog : Program} {w : World} {A : Around} {E : Value → Shared → Prop} {s : Shared}
theorem dict_eq_declines_str {b : Str} {u : Tok} {l : Addr} {Q : Value → Shared → Prop} (ht : s.TypeIs (.ref l) "dict") (h : Q .notImplemented s) : wpAny (model prog w) A (call (.builtin "dict.__eq__") [.ref l, .str b u]) Q E s := by
  refine wpAny_call_entry PySem.F.slot_dict_eq ht PySem.F.entry_dict_eq ?_ (PySem.F.args_dict_eq_2 _ _)
  show wpAny _ _ (Builtin.Dict.dictSlotArgs "__eq__" ⟨[.ref l, .str b u], []⟩ >>= _) _ _ s
  refine wpAny_bind ?_
  unfold Builtin.Dict.dictSlotArgs
  refine wpAny_bind (wpAny_notOrdered_dict ht ?_)
  show wpAny _ _ (pure (Value.ref l, Value.str b u)) _ _ s
  refine wpAny_pure ?_
  refine wpAny_bind (wpAny_isInstance (T := "str") (typeIs_str s b u) PySem.F.sub_str_dict ?_)
  simp only [Bool.not_false, if_true]
  exact wpAny_bind (wpAny_rule (wpAny_pure ⟨_, rfl, h⟩))
theorem RcAt.str_dict {l : Addr} {o : Obj} {es : Array DictEntry} {n : Nat} (b : Str) (u : Tok) (ho : s.heap.get? l = some o) (hc : o.cls = .type "dict") (hd : o.data = .dict es n) (hu : A.units < cLine) : RcAt A s (.str b u) (.ref l) false := fun prog w E Q h => by
  obtain ⟨cls, dd, data, sl⟩ := o
  simp only at hc hd
  subst hc hd
  exact rc_eq_decline_or (k := false) (typeIs_str s b u) ⟨_, ho, rfl⟩ (by decide) PySem.F.sub_dict_str PySem.F.slot_str_eq PySem.F.slot_dict_eq_refl
    (fun _ hq => call_meets PySem.F.slot_str_eq (typeIs_str s b u) PySem.F.entry_str_eq (PySem.F.args_str_eq_2 _ _) (str_eq_declines_dict b u l _ es n dd sl) ⟨ho, hq⟩)
    (fun _ hq => dict_eq_declines_str ⟨_, ho, rfl⟩ hq)
    (fun _ hq => wpAny_of_eq (rfl : isSame (.str b u) (.ref l) = pure false) hq) (.inr hu) h
theorem EqAt.str_dict {l : Addr} {o : Obj} {es : Array DictEntry} {n : Nat} (b : Str) (u : Tok) (ho : s.heap.get? l = some o) (hc : o.cls = .type "dict") (hd : o.data = .dict es n) (hu : A.units < cLine) : EqAt A s (.str b u) (.ref l) false := fun prog w E Q h => by
  unfold eqBool
  refine wpAny_holding ?_
  refine wpAny_ite_split (fun hab => absurd (eq_of_beq hab) nofun) (fun _ => ?_)
  exact wpAny_bind (RcAt.str_dict b u ho hc hd hu prog w E _ (wpAny_truthy_bool h))
end
/-- a dict in a list or a tuple of strings -/
def rInW (K : PySem.W.Frag) (neg : Bool) : R2 := fun x y H Q => ∃ (a : Addr) (kvs : List (Key × V)) (p : Addr) (ws : List Str), x = .ref a ∧ y = .ref p ∧ Rd H a (.dK kvs) ∧ (SqL K H p (ws.map V.str) ∨ SqT K H p (ws.map V.str)) ∧ Q (.bl neg) H
theorem strs_vals : ∀ {ws : List Str} {its : List Value}, Vals (ws.map V.str) its → ∀ y ∈ its, ∃ b u, y = Value.str b u
  | [], _, .nil => fun y hy => absurd hy List.not_mem_nil
  | w :: ws, _, .cons h r => fun y hy => by
    rcases List.mem_cons.mp hy with rfl | hy
    · obtain ⟨t, rfl⟩ := h
      exact ⟨_, _, rfl⟩
    · exact strs_vals r y hy
theorem op_inW {X : Cx} (hu : X.A.units + 1 < cLine) : OpR X (compareOp .In) (rInW X.K false) := by
  intro pins s σ H x y v u Q I rx ry h
  obtain ⟨a, kvs, p, ws, rfl, rfl, hd, hs, q⟩ := h
  cases rx
  cases ry
  obtain ⟨_, ya, va, ra, da⟩ := (show ObjOk X.prog X.w H s.heap a (.dK kvs) from hd.ok I.hok)
  obtain ⟨o, ho, da⟩ := Heap.dictOf_iff.mp da
  obtain ⟨es, ep, hx, hdt, _⟩ := da
  have fin : ∀ items : Array Value, (fun (r : Value) s' => EP X pins σ Q r s') (.bool (items.any fun _ => false)) s := fun items => by
    rw [show (items.any fun _ => false) = false by simp]
    exact ⟨.bl false, H, I, rfl, q⟩
  rcases hs with hs | hs
  · obtain ⟨its, rv, hl, _⟩ := I.list hs
    refine SeqAt.in_listAt (fun _ => false) hl.isList (fun y hy => ?_) (fin _)
    obtain ⟨b, t, rfl⟩ := strs_vals rv y (by simpa using hy)
    exact EqAt.str_dict b t ho hx.1 hdt hu
  · obtain ⟨its, rv, hl, _⟩ := I.tuple hs
    refine SeqAt.in_tupleAt (fun _ => false) hl (fun y hy => ?_) (fin _)
    obtain ⟨b, t, rfl⟩ := strs_vals rv y (by simpa using hy)
    exact EqAt.str_dict b t ho hx.1 hdt hu
def opInX (x y : D) : Rs D := match un x with
  | .dic _ => match (itemsD y).bind strs? with
    | some _ => .ok (.bl false)
    | none => .no
  | _ => opIn x y
def rInX (K : PySem.W.Frag) : R2 := fun x y H Q => rInU K false x y H Q ∨ rInW K false x y H Q
theorem zo_inX {X : Cx} (hu : X.A.units + 65 < cLine) : OpR X (compareOp .In) (rInX X.K) := or_op (zo_in hu) (op_inW (by omega))
section
variable {G : KC} {F : Hp} {t1 t2 t3 : T}
theorem RA.of_str : ∀ {ss : List Str} {vs : List V}, RA G F vs (ss.map D.str) → vs = ss.map V.str
  | [], _, .nil => rfl
  | s :: ss, _, .cons h r => by cases h; rw [List.map_cons, RA.of_str r]
theorem o2_inX : O2 G t1 t2 t3 (rInX G.K) opInX := fun O U H v w x y a r1 r2 Q E q => by
  unfold opInX at q
  split at q
  · rename_i ds hx
    obtain ⟨b, vs, rfl, hb, _⟩ := R_dic (r1.r fz_le) hx
    cases h : itemsD y with
    | none => rw [h] at q; exact q.elim
    | some es =>
      rw [h, Option.bind_some] at q
      cases h2 : strs? es with
      | none => rw [h2] at q; exact q.elim
      | some ss =>
        rw [h2] at q
        have e := strs?_eq h2
        subst e
        obtain ⟨p, us, rfl, hp, rr⟩ := itemsD_R (r2.r fz_le) h
        rw [RA.of_str rr] at hp
        refine Or.inr ⟨b, vs, p, ss, rfl, rfl, same_rd a.s hb, ?_, PQ.fin (a := D.bl false) q a.s (.fr (.bl _))⟩
        rcases hp with hp | hp
        · exact Or.inl (Or.inl (Or.inl (a.s _ _ hp)))
        · exact Or.inr (same_t a.s hp)
  · exact Or.inl (o2_in O U H v w x y a r1 r2 Q E q)
end
end Y

namespace Y
open PySem PySem.Spec PyProof.Rows L2 Z
open AutoSeq1 (wpAny_loadPart')

/-! ## enumerate over a tuple -/
def IteT (K : PySem.W.Frag) (a : Addr) : It :=
  ⟨fun i H => ∃ (xs : List V) (x : V), SqT K H a xs ∧ xs[i]? = some x, fun i H v H' => ∃ T x, v = .ref T ∧ H T = none ∧ H' = upd H T (.tup [.int (i : Nat), x]) ∧ ∀ xs, SqT K H a xs → xs[i]? = some x, fun i H => ∃ xs : List V, SqT K H a xs ∧ xs.length ≤ i⟩
theorem turn_enumT {P : Program} {w : World} {K : PySem.W.Frag} {elts : List Expr} {kk : Nat} {tpos : Pos} (a e it : Addr) :
    Turn P w K (.Tuple elts kk tpos) (IteT K a) [e, it] e (fun i h => (∃ old, IsEnum h e it ((i : Nat) : Int) old) ∧ h.IsTupleIter it a i ∧ e ≠ it ∧ a ≠ it ∧ a ≠ e) where
  mem := by simp
  obj := fun i h st b hb => by
    obtain ⟨⟨old, he⟩, ⟨o, ho, hc, hd⟩, _⟩ := st
    have e' : b = e ∨ b = it := by simpa using hb
    rcases e' with z | z
    · rw [z]; exact ⟨_, he, fun v q => nomatch q⟩
    · rw [z]; exact ⟨o, ho, fun v q => by rw [hd] at q; cases q⟩
  keep := fun i h h' st k => let ⟨⟨old, he⟩, hi, hne⟩ := st; ⟨⟨old, k e (by simp) _ he⟩, hi.at fun o q => k it (by simp) o q, hne⟩
  item := by
    intro X hP hw hK hc i pins s σ H E I hf st hg
    subst hP hw hK
    obtain ⟨⟨old, he⟩, hit, hne, ha1, ha2⟩ := st
    obtain ⟨xs, x, hq, hx⟩ := hg
    obtain ⟨its, rv, p, hz⟩ := I.tuple hq
    obtain ⟨u, hu, ru⟩ := rv.get hx
    have hel : e < s.heap.objs.size := Heap.lt_size he
    have hil : it < s.heap.objs.size := by obtain ⟨_, q, _⟩ := hit; exact Heap.lt_size q
    have hlt : i < its.toArray.size := by have := (List.getElem?_eq_some_iff.mp hu).1; simpa using this
    refine wpAny_pyNext_enum_itemD (Draws.tuple (A := X.A.in1) (I.ok.hd hc) it a ha1 its.toArray) he ⟨hit, p⟩ hlt hne (by simp [hne, Ne.symm ha2]) fun u' h' tk hu' ho hit' hT hsz hk => ?_
    have eu : u' = u := by
      have : its[i]? = some u' := by simpa using hu'
      rw [hu] at this; exact (Option.some.inj this).symm
    subst eu
    refine ⟨_, rfl, wpAny_letOwnedTupleGo_enum (s := { s with heap := h', toks := tk + 1 }) ho fun h'' he' sb => ?_⟩
    have hT2 : h''.get? s.heap.objs.size = some { cls := .type "tuple", data := .seq #[.int i tk, u'] } := (sb.2 _ (Nat.ne_of_gt hel)).trans hT
    have new : ObjOk X.prog X.w (upd H s.heap.objs.size (.tup [.int (i : Nat), x])) h'' s.heap.objs.size (.tup [.int (i : Nat), x]) :=
      ⟨by show 2 ≤ sizeLine; decide, [.int i tk, u'], .cons ⟨_, rfl⟩ (.cons ru .nil), ⟨_, hT2, rfl, _, rfl⟩⟩
    have I1 : Inv X pins σ (upd H s.heap.objs.size (.tup [.int (i : Nat), x])) { s with heap := h'', toks := tk + 1 } :=
      I.turnedNew (ch := [e, it]) (fun b ob hb q => (sb.2 b (fun z => hb (by simp [z]))).trans (hk b ob (fun z => hb (by simp [z])) (fun z => hb (by simp [z])) q)) hf (Nat.le_refl _) new
    refine ⟨.ref s.heap.objs.size, _, I1, rfl, ⟨_, x, rfl, I.hok.fresh (Nat.le_refl _), rfl, fun ys hy => by rw [I.tuple_inj hy hq]; exact hx⟩, ⟨⟨u', ?_⟩, hit'.1.at fun o q => (sb.2 it (Ne.symm hne)).trans q, hne, ha1, ha2⟩, fun b hb => ?_⟩
    · have e1 : ((i + 1 : Nat) : Int) = (i : Int) + 1 := by omega
      rw [e1]; exact he'
    · have hb' : b < s.heap.objs.size := by
        have e' : b = e ∨ b = it := by simpa using hb
        rcases e' with z | z
        · rw [z]; exact hel
        · rw [z]; exact hil
      rw [upd_ne (Nat.ne_of_lt hb')]
      exact (hf b hb).1
  done := by
    intro X hP hw hK hc i pins s σ H E I hf st hg
    subst hP hw hK
    obtain ⟨⟨old, he⟩, hit, hne, ha1, ha2⟩ := st
    obtain ⟨xs, hq, hx⟩ := hg
    obtain ⟨its, rv, p, hz⟩ := I.tuple hq
    obtain ⟨f0, f1, f2, f3, f4, f5⟩ := hf it (by simp)
    have hl := rv.length
    have hT : s.TypeIs (.ref e) "enumerate" := ⟨_, he, rfl⟩
    unfold pyNext
    refine wpAny_bind (wpAny_attempt (wpAny_callSpecial?_slot (name := Str.ofString "__next__") hT PySem.F.slot_enumerate_next
      (wpAny_call_entry PySem.F.slot_enumerate_next hT PySem.F.entry_enumerate_next ?_ (PySem.F.args_enumerate_next_1 _))))
    show wpAny _ _ (field (.ref e) 2 >>= _) _ _ _
    refine wpAny_bind (wpAny_field he rfl (x := .ref it) rfl ?_)
    refine wpAny_bind (wpAny_nextOf_tuple_end (I.ok.hd hc) hit p (by simp; omega) fun h' x he' hx' => ?_)
    obtain ⟨o, ho, hcl⟩ := hx'
    refine wpAny_bind (wpAny_isInstance (T := "StopIteration") (b := true) ⟨o, ho, hcl⟩ isSubtype_stop ?_)
    exact wpAny_pure ⟨rfl, I.turned (t' := s.toks) (fun b o hb q => he' b o hb q) f0 f1 f3 f4 f5⟩
  self := fun A i s Q E st h => let ⟨⟨_, he⟩, _⟩ := st; wpAny_pyIter_enum he h
theorem meets_enumerate_newT (l : Addr) (items : Array Value) (n : Nat) (dct : Option Addr) (sl : Array (Option Value)) :
    Meets (Builtin.«enumerate.__new__» ⟨[.type "enumerate", .ref l], []⟩) (fun _ R s => s.heap.get? l = some { cls := .type "tuple", dict := dct, data := .seq items n, slots := sl } ∧
      R (.ok (.ret (.ref (s.heap.push { cls := .type "tuple_iterator", data := .fields #[.ref l, .int 0 0] }).objs.size)))
        { s with heap := (s.heap.push { cls := .type "tuple_iterator", data := .fields #[.ref l, .int 0 0] }).push { cls := .type "enumerate", data := .fields #[.none, .bool false, .ref s.heap.objs.size, rawInt 0, .none, .none] } }) :=
  .of_wp fun prog w A R s h => by
    obtain ⟨hp, g, d, tk, os⟩ := s; obtain ⟨hl, h⟩ := h
    have hsub := sub_enumerate
    have hL : Heap.IsTuple (Shared.heap ⟨hp, g, d, tk, os⟩) l items := ⟨_, hl, rfl, n, rfl⟩
    wp_walk using wpAny_loadPart' hl
    refine wpAny_stack_any fun st => wpAny_pure ?_
    split
    · rename_i c _ _ _ _ _
      cases (c == Value.type "enumerate")
      · wp_walk using wpAny_loadPart' hl, wpAny_pyIter_tuple hL
        exact ⟨_, rfl, h⟩
      · wp_walk using wpAny_loadPart' hl, wpAny_pyIter_tuple hL
        exact ⟨_, rfl, h⟩
    · wp_walk using wpAny_loadPart' hl, wpAny_pyIter_tuple hL
      exact ⟨_, rfl, h⟩
section
variable {prog : Program} {w : World} {A : Around} {E : Value → Shared → Prop} {s : Shared}
theorem call_enumerate_tuple {l : Addr} {items : Array Value} {Q : Value → Shared → Prop} (hL : s.heap.IsTuple l items)
    (h : ∀ h', IsEnum h' (s.heap.objs.size + 1) s.heap.objs.size 0 .none → h'.IsTupleIter s.heap.objs.size l 0 → h'.objs.size = s.heap.objs.size + 2 →
      (∀ b o, s.heap.get? b = some o → h'.get? b = some o) → Q (.ref (s.heap.objs.size + 1)) { s with heap := h' }) :
    wpAny (model prog w) A (call (.type "enumerate") [.ref l]) Q E s := by
  obtain ⟨⟨c, dct, dt, sl⟩, hl, hc, n, hd⟩ := hL
  replace hc : c = .type "tuple" := hc
  replace hd : dt = .seq items n := hd
  subst hc hd
  refine callType_new PySem.F.called_enumerate (by decide) (PySem.F.typeCall_enumerate_1 _) (PySem.F.newCall_enumerate_1 _) (fun obj => PySem.F.args_object_init_2 obj _) PySem.F.entry_enumerate_new
    (meets_enumerate_newT l items n dct sl) ⟨hl, ?_⟩
  have hz : (s.heap.push { cls := .type "tuple_iterator", data := .fields #[.ref l, .int 0 0] }).objs.size = s.heap.objs.size + 1 := Heap.size_push ..
  show _ ∧ _
  rw [hz]
  have he : IsEnum ((s.heap.push { cls := .type "tuple_iterator", data := .fields #[.ref l, .int 0 0] }).push
      { cls := .type "enumerate", data := .fields #[.none, .bool false, .ref s.heap.objs.size, rawInt 0, .none, .none] }) (s.heap.objs.size + 1) s.heap.objs.size 0 .none := by
    have := Heap.get?_push_size (s.heap.push { cls := .type "tuple_iterator", data := .fields #[.ref l, .int 0 0] })
      (o := { cls := .type "enumerate", data := .fields #[.none, .bool false, .ref s.heap.objs.size, rawInt 0, .none, .none] }) rfl
    rw [hz] at this; exact this
  refine ⟨⟨_, he, rfl⟩, h _ he ⟨_, Heap.get?_push_of_some _ (Heap.get?_push_size _ rfl), rfl, rfl⟩ (by rw [Heap.size_push, hz]) fun b o x => Heap.get?_push_of_some _ (Heap.get?_push_of_some _ x)⟩
end
def iEnumU (K : PySem.W.Frag) (ta : TA) : TI := fun σ H R => ta σ H fun vs H1 => (∃ a xs, vs = [.ref a] ∧ SqL K H1 a xs ∧ R (Ite K a) H1) ∨ ∃ a xs, vs = [.ref a] ∧ SqT K H1 a xs ∧ R (IteT K a) H1
theorem pi_enumU {X : Cx} {e : Expr} {ta : TA} {p pos tpos : Pos} {elts : List Expr} {kk : Nat} (hg : Gl X "enumerate") (hm : X.mg "enumerate" = none) (ha : PA X [e] ta) (hs : starEach [e] X.env = [(false, eval e X.env)] := by rfl) :
    PI X (.Tuple elts kk tpos) (.Call (.Name "enumerate" p) [e] [] pos) (iEnumU X.K ta) := by
  refine ⟨fun pins s σ H R I h => ?_⟩
  refine Call_ (ld_blt I hg hm boot_enumerate (PyProof.Rows.callWith_type1 (thn (ha.run pos pins s σ H _ I h) fun us s1 ⟨vs, H1, I1, r1, q1⟩ => ?_) hs rfl))
  rcases q1 with q1 | q1
  · obtain ⟨a, xs, ex, hq, q⟩ := q1
    subst ex
    cases r1 with
    | cons r rr =>
      cases rr
      cases r
      obtain ⟨its, rv, p', hz⟩ := I1.list hq
      refine call_enumerate_list p'.isList fun h' he hit hsz hk => wpAny_pyIter_enum he ?_
      have I2 : Inv X pins σ H1 { s1 with heap := h' } := I1.kept (t' := s1.toks) hk
      refine ⟨s1.heap.objs.size + 1, [s1.heap.objs.size + 1, s1.heap.objs.size], _, _, H1, rfl, I2, turn_enum a (s1.heap.objs.size + 1) s1.heap.objs.size, ⟨⟨.none, he⟩, hit, Nat.succ_ne_self _⟩, fun b hb => ?_, q⟩
      have e' : b = s1.heap.objs.size + 1 ∨ b = s1.heap.objs.size := by simpa using hb
      have hle : s1.heap.objs.size ≤ b := by
        rcases e' with z | z
        · rw [z]; exact Nat.le_add_right _ _
        · rw [z]; exact Nat.le_refl _
      exact I1.fpOk hle (I1.hok.fresh hle)
  · obtain ⟨a, xs, ex, hq, q⟩ := q1
    subst ex
    cases r1 with
    | cons r rr =>
      cases rr
      cases r
      obtain ⟨its, rv, p', hz⟩ := I1.tuple hq
      have hal : a < s1.heap.objs.size := by obtain ⟨_, z, _⟩ := p'; exact Heap.lt_size z
      refine call_enumerate_tuple p' fun h' he hit hsz hk => wpAny_pyIter_enum he ?_
      have I2 : Inv X pins σ H1 { s1 with heap := h' } := I1.kept (t' := s1.toks) hk
      refine ⟨s1.heap.objs.size + 1, [s1.heap.objs.size + 1, s1.heap.objs.size], _, _, H1, rfl, I2, turn_enumT a (s1.heap.objs.size + 1) s1.heap.objs.size, ⟨⟨.none, he⟩, hit, Nat.succ_ne_self _, Nat.ne_of_lt hal, Nat.ne_of_lt (Nat.lt_succ_of_lt hal)⟩, fun b hb => ?_, q⟩
      have e' : b = s1.heap.objs.size + 1 ∨ b = s1.heap.objs.size := by simpa using hb
      have hle : s1.heap.objs.size ≤ b := by
        rcases e' with z | z
        · rw [z]; exact Nat.le_add_right _ _
        · rw [z]; exact Nat.le_refl _
      exact I1.fpOk hle (I1.hok.fresh hle)
end Y

namespace Y
open PySem PySem.Spec PyProof.Rows L2 Z

section
variable {G : KC} {Θ : List Md} {E : EK} {ta tr : TA} {fs : Env → Rs (List D)} {O : Addr → Prop} {U U1 H F : Hp} {ds : List D} {X : Cx} {K : PySem.W.Frag}
theorem it_enumT {a : Addr} {vs : List V} (h : SqT G.K U1 a vs) (r : RA G (Fz O U1) vs ds) : ItD G O U1 .fz (IteT G.K a) (enD ds) := fun U H s1 rg i => by
  have hs : SqT G.K H a vs := same_t rg.s (same_t s1 h)
  have hl : (enD ds).length = vs.length := by unfold enD; rw [List.length_map, List.length_zipIdx, r.len]
  rw [hl]
  refine ⟨fun hi => ⟨vs, vs[i], hs, List.getElem?_eq_getElem hi⟩, fun hi => ⟨vs, hs, hi⟩, fun x H' d hy hd => ?_⟩
  obtain ⟨T, y, rfl, hT, rfl, f⟩ := hy
  unfold enD at hd
  rw [List.getElem?_map, List.getElem?_zipIdx] at hd
  cases e : ds[i]? with
  | none => rw [e] at hd; cases hd
  | some d0 =>
    rw [e] at hd
    simp only [Option.map_some, Nat.zero_add, Option.some.injEq] at hd
    subst hd
    obtain ⟨v, hv, rv⟩ := r.get i d0 e
    rw [f _ hs] at hv
    cases hv
    have g : Gr U H (upd U T (.tup [.int (i : Nat), y])) (upd H T (.tup [.int (i : Nat), y])) := (Gr.refl rg.s).new hT
    exact ⟨_, g, .fr (.tup (Or.inl (Or.inl (fz_of (rg.no hT) upd_same))) (.cons (.int _) (.cons (rv.mono (fz_mono (s1.trans g.f))) .nil)))⟩
def itEnumU : List D → Rs (List D)
  | [x] => (ofO (itemsD x)).bind fun ds => .ok (enD ds)
  | _ => .no
theorem ei_enumU (h : EvA G Θ E [.lst .fz] ta fs) : EvI G Θ E .fz (iEnumU G.K ta) (pIt itEnumU fs) := fun O U H σ Γ a Q q =>
  h O U H σ Γ a _ (q.bind fun x v U1 H1 g1 r1 q => by
    have a1 := a.grow g1
    match x, q with
    | [x], q =>
      obtain ⟨t, v, et, rfl, r⟩ := r1.one
      cases et
      cases hx : itemsD x with
      | none => simp only [itEnumU, hx] at q; exact q.elim
      | some ds =>
        simp only [itEnumU, hx] at q
        obtain ⟨b, vs, rfl, e, rr⟩ := items_fz r fz_le hx
        rcases e with e | e
        · exact Or.inl ⟨b, vs, rfl, Or.inl (Or.inl (a1.g.s _ _ e)), q _ U1 H1 (.refl a1.g.s) (it_enum e rr)⟩
        · have e' := same_t (fz_le (O := O) (U := U1)) e
          exact Or.inr ⟨b, vs, rfl, same_t a1.g.s e', q _ U1 H1 (.refl a1.g.s) (it_enumT e' rr)⟩
    | [], q => exact q.elim
    | _ :: _ :: _, q => exact q.elim)
theorem fi_enumU {f : Env → Ou (List D)} (h : EfA G Θ E tr f) : EfI G Θ E (iEnumU G.K tr) (eIt itEnumU f) := fun B F H σ Γ fps e Q q =>
  h B F H σ Γ fps e _ (q.bind fun ds Γ1 vs F1 H1 fps1 fp1 e1 s1 r1 n1 m1 q => by
    have z0 : Fz (fun _ => False) F1 = F1 := by funext a; unfold Fz; simp
    match ds, q with
    | [x], q =>
      obtain ⟨v, rfl, rv⟩ := r1.1.one
      cases hx : itemsD x with
      | none => simp only [itEnumU, hx] at q; exact q.elim
      | some ds =>
        simp only [itEnumU, hx] at q
        obtain ⟨b, vs, rfl, hb, rr⟩ := itemsD_R rv hx
        have q' : EQ G Θ B (E σ) F1 σ (eI G B) Q (.ok (enD ds) Γ1) := q
        rcases hb with hb | hb
        · exact Or.inl ⟨b, vs, rfl, Or.inl (Or.inl (e1.fr _ _ hb)), q'.fin e1 ⟨iter_fz (U := F1) (it_enum hb (by rw [z0]; exact rr)), rfl⟩⟩
        · exact Or.inr ⟨b, vs, rfl, same_t e1.fr hb, q'.fin e1 ⟨iter_fz (U := F1) (it_enumT hb (by rw [z0]; exact rr)), rfl⟩⟩
    | [], q => exact q.elim
    | _ :: _ :: _, q => exact q.elim)
theorem pi_enumUK {e : Expr} {ta : TA} {p pos tpos : Pos} {elts : List Expr} {kk : Nat} (h : X.K = K) (hg : Gl X "enumerate") (hm : X.mg "enumerate" = none) (ha : PA X [e] ta) (hs : starEach [e] X.env = [(false, eval e X.env)] := by rfl) :
    PI X (.Tuple elts kk tpos) (.Call (.Name "enumerate" p) [e] [] pos) (iEnumU K ta) := h ▸ pi_enumU hg hm ha hs
end
section
variable {X : XR0} {QL : List D → Prop} {xs : List D}
theorem vw_enumL : vR (P := ⟨QL, X⟩) (itEnumU [.lst xs]) ↔ QL (enD xs) := by
  simp only [vR_iff]
  exact Iff.rfl
theorem vw_enumT : vR (P := ⟨QL, X⟩) (itEnumU [.tup xs]) ↔ QL (enD xs) := by
  simp only [vR_iff]
  exact Iff.rfl
end
end Y

namespace Y
open PySem PySem.Spec PyProof.Rows L2 Z

/-! ## texts by their methods -/
def opStr : D → Rs D
  | .str s => .ok (.str s)
  | _ => .no
section
variable {G : KC} {Θ : List Md} {E : EK} {ta tb : TE} {t t1 t2 t3 : T} {f g : Env → Rs D} {op : D → D → Rs D} {r : V → List V → Hp → VK → Prop}
theorem opStr_bind {β δ : Type} {O : Addr → Prop} {Ex : XK} {U H : Hp} {rel : Rel δ β} {Q : δ → Hp → Prop} {x : D} {k : D → Rs β} (q : PQ G O Ex U H rel Q ((opStr x).bind k)) : ∃ s, x = .str s ∧ PQ G O Ex U H rel Q (k (.str s)) := by
  cases x <;> first | exact ⟨_, rfl, q⟩ | exact q.elim
theorem m1_eq (f g : Env → Rs D) (op : D → D → Rs D) (Γ : Env) : pOp op (pUn opStr f) g Γ = (f Γ).bind fun x => (opStr x).bind fun z => (g Γ).bind fun y => op z y := by
  unfold pOp pUn
  cases f Γ <;> rfl
theorem ev_m1 (ha : EvV G Θ E t1 ta f) (hb : EvV G Θ E t2 tb g) (ho : O2 G .fz t2 t3 (fun x y => r x [y]) op) : EvV G Θ E t3 (tM1 r ta tb) (pOp op (pUn opStr f) g) := fun O U H σ Γ a Q q => by
  rw [m1_eq] at q
  exact ha O U H σ Γ a _ (q.bind fun x v U1 H1 g1 r1 q => by
    obtain ⟨s, rfl, q1⟩ := opStr_bind q
    obtain rfl := str_of r1
    exact ⟨⟨s, rfl⟩, hb O U1 H1 σ Γ (a.grow g1) _ (q1.bind fun y w U2 H2 g2 r2 q => ho O U2 H2 (.str s) w (.str s) y ((a.grow g1).grow g2).g (.fr (.str s)) r2 Q _ q)⟩)
theorem en_m1 (ha : EvV G Θ E t1 ta f) (hb : EvV G Θ E t2 tb g) (ho : O2N G .fz t2 t3 (fun x y => r x [y]) op) : EvN G Θ E t3 (tM1 r ta tb) (pOp op (pUn opStr f) g) := fun O U H σ Γ a Q q => by
  rw [m1_eq] at q
  exact ha O U H σ Γ a _ (q.bind fun x v U1 H1 g1 r1 q => by
    obtain ⟨s, rfl, q1⟩ := opStr_bind q
    obtain rfl := str_of r1
    exact ⟨⟨s, rfl⟩, hb O U1 H1 σ Γ (a.grow g1) _ (q1.bind fun y w U2 H2 g2 r2 q => ho O U2 H2 (.str s) w (.str s) y ((a.grow g1).grow g2).g (.fr (.str s)) r2 Q _ q)⟩)
end
section
variable {G : KC} {Θ : List Md} {E : EK} {ta tb : TE} {t2 : T} {f g : Env → Ou D} {op : D → D → Rs D} {r : V → List V → Hp → VK → Prop}
theorem opStr_ou {α β : Type} {B : Bs} {Ex : XK} {F : Hp} {σ : L2.St} {rel : RelE β α} {W : β → Hp → Prop} {Γ : Env} {x : D} {k : D → Env → Ou α} (q : EQ G Θ B Ex F σ rel W (((opStr x).ou Γ).bind k)) : ∃ b, x = .str b ∧ EQ G Θ B Ex F σ rel W (k (.str b) Γ) := by
  cases x <;> first | exact ⟨_, rfl, q⟩ | exact q.elim
theorem e1_eq (f g : Env → Ou D) (op : D → D → Rs D) (Γ : Env) : eOp op (eUn opStr f) g Γ = (f Γ).bind fun x Γ1 => ((opStr x).ou Γ1).bind fun z Γ1 => (g Γ1).bind fun y Γ2 => (op z y).ou Γ2 := by
  unfold eOp eUn
  cases f Γ <;> rfl
theorem ef_m1 (ha : EfV G Θ E .fz ta f) (hb : EfV G Θ E .fz tb g) (ho : O2 G .fz t2 .fz (fun x y => r x [y]) op) : EfV G Θ E .fz (tM1 r ta tb) (eOp op (eUn opStr f) g) := fun B F H σ Γ fps e Q q => by
  rw [e1_eq] at q
  exact ha B F H σ Γ fps e _ (q.bind fun x Γ1 v F1 H1 fps1 fp1 e1 s1 r1 n1 m1 q => by
    obtain ⟨s, rfl, q1⟩ := opStr_ou q
    have rs := (Own.fz_r r1).2
    cases rs
    exact ⟨⟨s, rfl⟩, hb B F1 H1 σ Γ1 fps1 e1 _ (q1.bind fun y Γ2 w F2 H2 fps2 fp2 e2 s2 r2 n2 m2 q => by
      have z2 := (Own.fz_r r2).2
      refine ho _ H2 H2 (.str s) w (.str s) y e2.reg (.fr (.str s)) (.fr (by rw [fz_OH e2.fr]; exact z2)) Q (E σ) ?_
      exact pq_of (rel0 := fun O => rV G O .fz) e2 q fun a b U' H' g r => ⟨[], .fz r.fz, List.nodup_nil, fun _ z => absurd z List.not_mem_nil⟩)⟩)
end
def rMJ (K : PySem.W.Frag) : V → List V → Hp → VK → Prop := fun x xs H Q => ∃ a p, ∃ ys : List Str, x = .str a ∧ xs = [.ref p] ∧ (SqL K H p (ys.map V.str) ∨ SqT K H p (ys.map V.str)) ∧ (ys.map (·.length)).sum + ys.length * a.length ≤ 16777216 ∧ Q (.str (Txt.join a ys)) H
def rSpl : V → List V → Hp → VK → Prop := fun x xs H Q => ∃ a b, x = .str a ∧ xs = [.str b] ∧ (b.length == 0) = false ∧ a.length + 2 ≤ sizeLine ∧ rNewStrs (Txt.split a b) H Q
theorem pe_joinK {X : Cx} {K : PySem.W.Frag} {o e : Expr} {to te : TE} {apos pos : Pos} (h : X.K = K) (ho : PE X o to) (he : PE X e te) (hs : starEach [e] X.env = [(false, eval e X.env)] := by rfl) (hbase : attributeBase o "join" X.env (eval o X.env) = eval o X.env := by rfl) (hline : (apos.endLine == pos.line) = true := by rfl) :
    PE X (.Call (.Attribute o "join" apos) [e] [] pos) (tM1 (rMJ K) to te) := h ▸ pe_join ho he hs hbase hline
theorem pe_splitK {X : Cx} {o e : Expr} {to te : TE} {apos pos : Pos} (ho : PE X o to) (he : PE X e te) (hs : starEach [e] X.env = [(false, eval e X.env)] := by rfl) (hbase : attributeBase o "split" X.env (eval o X.env) = eval o X.env := by rfl) (hline : (apos.endLine == pos.line) = true := by rfl) :
    PE X (.Call (.Attribute o "split" apos) [e] [] pos) (tM1 rSpl to te) := pe_split ho he hs hbase hline
def opJoin (x y : D) : Rs D := match x with
  | .str a => match (itemsD y).bind strs? with
    | some ys => if (ys.map (·.length)).sum + ys.length * a.length ≤ 1000000 then .ok (.str (Txt.join a ys)) else .no
    | none => .no
  | _ => .no
def opSplit (x y : D) : Rs D := match x with
  | .str a => match y with
    | .str b => if b.length ≠ 0 ∧ a.length ≤ 100000 then .ok (.lst ((Txt.split a b).map D.str)) else .no
    | _ => .no
  | _ => .no
section
variable {G : KC} {t1 t2 t3 : T}
theorem o2_join : O2 G t1 t2 t3 (fun x y => rMJ G.K x [y]) opJoin := fun O U H v w x y a r1 r2 Q E q => by
  unfold opJoin at q
  cases x with
  | str s =>
    obtain rfl := str_of r1
    dsimp only at q
    cases h : itemsD y with
    | none => rw [h] at q; exact q.elim
    | some es =>
      rw [h, Option.bind_some] at q
      cases h2 : strs? es with
      | none => rw [h2] at q; exact q.elim
      | some ss =>
        rw [h2] at q
        have e := strs?_eq h2
        subst e
        obtain ⟨p, us, rfl, hp, rr⟩ := itemsD_R (r2.r fz_le) h
        rw [RA.of_str rr] at hp
        obtain ⟨hz, q⟩ := ite_ok q
        refine ⟨s, p, ss, rfl, rfl, ?_, by omega, q.fin a.s (.fr (.str _))⟩
        rcases hp with hp | hp
        · exact Or.inl (Or.inl (Or.inl (a.s _ _ hp)))
        · exact Or.inr (same_t a.s hp)
  | _ => exact q.elim
theorem o2n_split : O2N G t1 t2 (.lst .fz) (fun x y => rSpl x [y]) opSplit := fun O U H v w x y a r1 r2 Q E q => by
  unfold opSplit at q
  cases x with
  | str s =>
    cases y with
    | str b =>
      obtain rfl := str_of r1
      obtain rfl := str_of r2
      obtain ⟨hz, q⟩ := ite_ok q
      refine ⟨s, b, rfl, rfl, by simpa using hz.1, Nat.le_trans (Nat.add_le_add_right hz.2 2) (by decide), fun p hp => ?_⟩
      exact q _ U _ ((Gr.refl a.s).newH hp) (new_lst (a := a) hp (RA.strs _))
    | _ => exact q.elim
  | _ => exact q.elim
end
/-! ## str(n) -/
def rStrN : List V → Hp → VK → Prop := fun xs H Q => ∃ i, xs = [.int i] ∧ i.natAbs.log2 < 1920 ∧ Q (.str (toString i)) H
theorem zc_strN {X : Cx} : CallR X (.type "str") rStrN := call_str_int
def strI (i : Int) : Str := (toString i : String)
def opStrN : List D → Rs D
  | [.int i] => if Bd i then .ok (.str (strI i)) else .no
  | _ => .no
theorem bd_log {i : Int} (h : Bd i) : i.natAbs.log2 < 1920 := by
  by_cases z : i.natAbs = 0
  · rw [z]; decide
  · exact (Nat.log2_lt z).mpr (Nat.lt_of_lt_of_le h.lt (Nat.pow_le_pow_right (by decide) (by decide)))
theorem oc_strN {G : KC} {t1 t3 : T} : OC G [t1] t3 rStrN opStrN := fun O U H vs xs a r Q E q => by
  unfold opStrN at q
  split at q
  · obtain ⟨h, q⟩ := ite_ok q
    obtain ⟨_, v, _, rfl, r1⟩ := r.one
    exact ⟨_, by rw [int_of r1], bd_log h, q.fin a.s (.fr (.str _))⟩
  · exact q.elim
section
variable {X : XR0} {Q : D → Prop} {s a b : Str} {i : Int} {ys : List Str}
theorem vw_opStr : vR (P := ⟨Q, X⟩) (opStr (.str s)) ↔ Q (.str s) := by
  simp only [vR_iff]
  exact Iff.rfl
theorem vw_strN : vR (P := ⟨Q, X⟩) (opStrN [.int i]) ↔ Bd i ∧ Q (.str (strI i)) := by
  simp only [vR_iff]
  show wR Q X (if Bd i then .ok (.str (strI i)) else .no) ↔ _
  by_cases h : Bd i
  · rw [if_pos h]; exact ⟨fun q => ⟨h, q⟩, fun q => q.2⟩
  · rw [if_neg h]; exact ⟨fun q => q.elim, fun q => absurd q.1 h⟩
theorem vw_joinL : vR (P := ⟨Q, X⟩) (opJoin (.str a) (.lst (ys.map D.str))) ↔ (ys.map (·.length)).sum + ys.length * a.length ≤ 1000000 ∧ Q (.str (Txt.join a ys)) := by
  simp only [vR_iff]
  unfold opJoin itemsD un
  simp only [Option.bind_some, strs?_map]
  by_cases h : (ys.map (·.length)).sum + ys.length * a.length ≤ 1000000
  · rw [if_pos h]; exact ⟨fun q => ⟨h, q⟩, fun q => q.2⟩
  · rw [if_neg h]; exact ⟨fun q => q.elim, fun q => absurd q.1 h⟩
theorem vw_split : vR (P := ⟨Q, X⟩) (opSplit (.str a) (.str b)) ↔ (b.length ≠ 0 ∧ a.length ≤ 100000) ∧ Q (.lst ((Txt.split a b).map D.str)) := by
  simp only [vR_iff]
  unfold opSplit
  dsimp only
  by_cases h : b.length ≠ 0 ∧ a.length ≤ 100000
  · rw [if_pos h]; exact ⟨fun q => ⟨h, q⟩, fun q => q.2⟩
  · rw [if_neg h]; exact ⟨fun q => q.elim, fun q => absurd q.1 h⟩
theorem vw_ixS {z : Str} : vR (P := ⟨Q, X⟩) (opIx (.str z) (.int i)) ↔ z.length ≤ 1000000 ∧ vF (P := ⟨fun c => Q (.str ⟨#[c]⟩)⟩) (atI z.cps.toList i) := by
  simp only [vR_iff, vF_iff]
  unfold opIx un
  dsimp only
  by_cases h : z.length ≤ 1000000
  · rw [if_pos h]
    cases hc : atI z.cps.toList i with
    | none => exact ⟨fun q => q.elim, fun q => q.2.elim⟩
    | some c => exact ⟨fun q => ⟨h, q⟩, fun q => q.2⟩
  · rw [if_neg h]; exact ⟨fun q => q.elim, fun q => absurd q.1 h⟩
theorem vw_slS {z : Str} {lo hi : Option Int} : vR (P := ⟨Q, X⟩) (opSl (.str z) lo hi) ↔ z.length ≤ 1000000 ∧ Q (.str (cutS z lo hi)) := by
  simp only [vR_iff]
  unfold opSl un
  dsimp only
  by_cases h : z.length ≤ 1000000
  · rw [if_pos h]; exact ⟨fun q => ⟨h, q⟩, fun q => q.2⟩
  · rw [if_neg h]; exact ⟨fun q => q.elim, fun q => absurd q.1 h⟩
theorem vw_seqS {QL : List D → Prop} {z : Str} : vR (P := ⟨QL, X⟩) (seqD (.str z)) ↔ QL (charsD z) := by
  simp only [vR_iff]
  exact Iff.rfl
end
end Y

namespace Y
open PySem PySem.Spec PyProof.Rows L2 Z

/-! ## objects: their fields -/
def rFld (K : PySem.W.Frag) (f : Str) : V → Hp → VK → Prop := fun x H1 Q => ∃ a C dx fs v, x = .ref a ∧ H1 a = some (.ins C dx fs) ∧ Cls K C ∧ NoAttr K C f ∧ fs.lookup f = some v ∧ Q v H1
theorem pe_fldK {X : Cx} {K : PySem.W.Frag} {e : Expr} {te : TE} {f : Str} {pos : Pos} (h : X.K = K) (he : PE X e te) (hb : attributeBase e f X.env (eval e X.env) = eval e X.env := by rfl) : PE X (.Attribute e f pos) (tUn (rFld K f) te) := h ▸ pe_fld he hb
theorem pe_cls {X : Cx} {x : Str} {C : Addr} {p : Pos} (hg : Gl X x) (hm : X.mg x = some (.ref C)) (hdb : (x == ("__debug__" : Str)) = false := by decide +kernel) : PE X (.Name x p) (tC (.ref C)) :=
  ⟨fun _ _ _ H _ I h => ld_glob I hg hm ⟨.ref C, H, I, rfl, h⟩ hdb⟩
def opFld (f : Str) : D → Rs D
  | .obj _ fs => ofO (fs.lookup f)
  | _ => .no
def putD (f : Str) (v : D) : List (Str × D) → List (Str × D)
  | [] => [(f, v)]
  | (g, x) :: r => if g = f then (g, v) :: r else (g, x) :: putD f v r
theorem putD_key {f : Str} {v : D} : ∀ {fs : List (Str × D)} {p : Str × D}, p ∈ putD f v fs → p.1 = f ∨ ∃ q ∈ fs, q.1 = p.1
  | [], p, h => by
    cases List.mem_singleton.mp h
    exact Or.inl rfl
  | (g, x) :: r, p, h => by
    unfold putD at h
    split at h
    · rename_i e
      rcases List.mem_cons.mp h with rfl | h
      · exact Or.inl e
      · exact Or.inr ⟨p, List.mem_cons_of_mem _ h, rfl⟩
    · rcases List.mem_cons.mp h with rfl | h
      · exact Or.inr ⟨_, List.mem_cons_self, rfl⟩
      · rcases putD_key h with z | ⟨q, h1, h2⟩
        · exact Or.inl z
        · exact Or.inr ⟨q, List.mem_cons_of_mem _ h1, h2⟩
theorem lookup_mem {β : Type} {f : Str} {d : β} : ∀ {fs : List (Str × β)}, fs.lookup f = some d → ∃ p ∈ fs, p.1 = f
  | [], h => by cases h
  | (g, x) :: r, h => by
    by_cases e : f = g
    · exact ⟨_, List.mem_cons_self, e.symm⟩
    · have e' : (f == g) = false := by simpa using e
      simp only [List.lookup, e'] at h
      obtain ⟨p, h1, h2⟩ := lookup_mem h
      exact ⟨p, List.mem_cons_of_mem _ h1, h2⟩
section
variable {G : KC} {F H F' H' U : Hp} {fts : List (Str × T)}
theorem RTS.look {f : Str} : ∀ {vs : List (Str × V)} {ds : List (Str × D)}, RTS G F U fts vs ds → ∀ d, ds.lookup f = some d → ∃ v, vs.lookup f = some v ∧ RT G F U (fty fts f) v d
  | _, _, .nil, d, h => by cases h
  | _, _, .cons (k := k) (vs := vs) (ds := ds) h r, d, z => by
    by_cases e : f = k
    · subst e
      simp only [List.lookup, beq_self_eq_true, Option.some.injEq] at z
      subst z
      exact ⟨_, by simp [List.lookup], h⟩
    · have e' : (f == k) = false := by simpa using e
      simp only [List.lookup, e'] at z ⊢
      exact RTS.look r d z
theorem o1_fld {f : Str} (hk : KOk G) : O1 G (.obj fts) (fty fts f) (rFld G.K f) (opFld f) := fun O U H v x a r Q E q => by
  cases r with
  | fr r =>
    cases r with
    | @obj b dx c vs ds h z r =>
      obtain ⟨d, hd, q⟩ := PQ_ofO q
      obtain ⟨v, hv, rv⟩ := (RS.lookup r).2 d hd
      obtain ⟨p, hp, e⟩ := lookup_mem hd
      exact ⟨b, _, dx, vs, v, rfl, a.s _ _ (fz_le _ _ h), hk.cls _ z.1, e ▸ z.2 p hp, hv, q.fin a.s (.fr rv)⟩
    | _ => exact q.elim
  | @obj _ b dx c vs ds h z r =>
    obtain ⟨d, hd, q⟩ := PQ_ofO q
    obtain ⟨v, hv, rv⟩ := r.look d hd
    obtain ⟨p, hp, e⟩ := lookup_mem hd
    exact ⟨b, _, dx, vs, v, rfl, a.s _ _ h, hk.cls _ z.1, e ▸ z.2 p hp, hv, q.fin a.s rv⟩
theorem o1_fldz {f : Str} (hk : KOk G) : O1 G .fz .fz (rFld G.K f) (opFld f) := fun O U H v x a r Q E q => by
  have r0 := r.fz
  clear r
  cases r0 with
  | @obj b dx c vs ds h z rr =>
    obtain ⟨d, hd, q⟩ := PQ_ofO q
    obtain ⟨v, hv, rv⟩ := (RS.lookup rr).2 d hd
    obtain ⟨p, hp, e⟩ := lookup_mem hd
    exact ⟨b, _, dx, vs, v, rfl, a.s _ _ (fz_le _ _ h), hk.cls _ z.1, e ▸ z.2 p hp, hv, q.fin a.s (.fr rv)⟩
  | _ => exact q.elim
theorem OwnS.fz_r : ∀ {vs : List (Str × V)} {ds : List (Str × D)} {fp : List Addr}, OwnS G F H [] vs ds fp → fp = [] ∧ RS G F vs ds
  | _, _, _, .nil => ⟨rfl, .nil⟩
  | _, _, _, .cons h r => by
    obtain ⟨rfl, x⟩ := Own.fz_r (show Own G F H .fz _ _ _ from h)
    obtain ⟨rfl, y⟩ := OwnS.fz_r r
    exact ⟨rfl, .cons x y⟩
theorem OwnS.of_r : ∀ {vs : List (Str × V)} {ds : List (Str × D)}, RS G F vs ds → OwnS G F H [] vs ds []
  | _, _, .nil => .nil
  | _, _, .cons h r => .cons (fp := []) (fq := []) (.fz h) (OwnS.of_r r)
theorem RS.put {f : Str} {v : V} {d : D} (h : R G F v d) : ∀ {vs : List (Str × V)} {ds : List (Str × D)}, RS G F vs ds → RS G F (putF f v vs) (putD f d ds)
  | _, _, .nil => .cons h .nil
  | _, _, .cons (k := k) a r => by
    unfold putF putD
    by_cases e : k = f
    · rw [if_pos e, if_pos e]; exact .cons h r
    · rw [if_neg e, if_neg e]; exact .cons a (RS.put h r)
theorem RS.len : ∀ {vs : List (Str × V)} {ds : List (Str × D)}, RS G F vs ds → vs.length = ds.length
  | _, _, .nil => rfl
  | _, _, .cons _ r => congrArg Nat.succ (RS.len r)
end
section
variable {G : KC} {Θ : List Md} {E : EK} {B : Bs} {F H F' H' W : Hp} {σ : L2.St} {Γ Γ' : Env} {fps fps' : List (List Addr)} {te ta tb : TE} {tr : TA} {t t1 rt : T} {ds es : List D} {v : V} {d : D} {k n i : Nat} {f g : Env → Ou D} {fs : Env → Ou (List D)} {Q : VK} {pn : List Nat} {vs : List V} {fp fpx : List Addr} {fts : List (Str × T)}
theorem EnvR.rootO {c : Nat} {ds : List (Str × D)} (e : EnvR G Θ B F H σ Γ fps) (hm : Θ[i]? = some (.own (.obj fts))) (hd : Γ[i]? = some (some (.obj c ds))) : ∃ p dx vs fp, σ[i]? = some (some (.ref p)) ∧ fps[i]? = some (p :: fp) ∧ H p = some (.ins (G.cl c) dx vs) ∧ (c < G.nc ∧ ∀ p ∈ ds, NoAttr G.K (G.cl c) p.1) ∧ OwnS G F H fts vs ds fp ∧ (p :: fp).Nodup ∧ F p = none := by
  obtain ⟨o, fp, h1, h2⟩ := e.fpAt hm
  obtain ⟨v, h3, ow⟩ := e.slot i _ _ fp hm hd h2
  have hn : fp.Nodup := by
    have : ∀ (l : List (List Addr)) (i : Nat), l.flatten.Nodup → l[i]? = some fp → fp.Nodup := by
      intro l
      induction l with
      | nil => intro i _ h; simp at h
      | cons a l ih =>
        intro i n h
        rw [List.flatten_cons, List.nodup_append] at n
        cases i with
        | zero => simp at h; subst h; exact n.1
        | succ i => simp at h; exact ih i n.2.1 h
    exact this fps i e.nd h2
  cases ow with
  | no r z => cases z
  | @obj _ p dx _ vs _ fp hh z r => exact ⟨p, dx, vs, fp, h3, h2, hh, z, r, hn, e.out p (flat_mem h2 List.mem_cons_self)⟩
theorem EnvR.rerootO {p dx : Addr} {c : Nat} {fq : List Addr} {vs ws : List (Str × V)} {es : List (Str × D)} (e : EnvR G Θ B F H σ Γ fps) (hm : Θ[i]? = some (.own (.obj fts))) (hv : σ[i]? = some (some (.ref p))) (hf : fps[i]? = some (p :: fp)) (hp : H p = some (.ins (G.cl c) dx vs))
    (hc : c < G.nc ∧ ∀ p ∈ es, NoAttr G.K (G.cl c) p.1) (r : OwnS G F H fts ws es fq) (nd : (p :: fq).Nodup)
    (dj : ∀ a ∈ fq, a ∈ fp ∨ a ∉ fps.flatten) (k : ∀ a ∈ fq, F a = none ∧ (a ∈ B.M ∨ B.H0 a = none)) : EnvR G Θ B F (upd H p (.ins (G.cl c) dx ws)) σ (Γ.set i (some (.obj c es))) (fps.set i (p :: fq)) := by
  have hp0 := flat_mem hf (List.mem_cons_self (a := p) (l := fp))
  refine e.put (v := none) hm hf (fun _ _ => rfl) rfl ?_ nd (fun a ha j q hj hq z => ?_) (fun a ha => ?_) (fun a ha => ?_) (fun q hq z => by rw [← z]; exact e.pin q hq) (fun a u h n => ?_) fun a h => ?_
  · refine ⟨_, hv, .obj upd_same hc ?_⟩
    refine r.mono (.refl _) fun a ha o h => upd_keep h fun z => ?_
    subst z
    exact (List.nodup_cons.mp nd).1 ha
  · rcases List.mem_cons.mp ha with rfl | ha
    · exact flat_old e.nd hf hq (Ne.symm hj) List.mem_cons_self z
    · rcases dj a ha with y | y
      · exact flat_old e.nd hf hq (Ne.symm hj) (List.mem_cons_of_mem _ y) z
      · exact y (flat_mem hq z)
  · rcases List.mem_cons.mp ha with rfl | ha
    · exact e.out _ hp0
    · exact (k a ha).1
  · rcases List.mem_cons.mp ha with rfl | ha
    · exact e.mine _ hp0
    · exact (k a ha).2
  · exact upd_keep h fun z => n (by rw [z]; exact List.mem_cons_self)
  · by_cases z : a = p
    · subst z; rw [upd_same] at h; cases h
    · rw [upd_ne z] at h; exact h
/-- self.f = e -/
def sSetF (i c : Nat) (nm : Str) (f : Env → Ou D) : Env → So := fun Γ => (f Γ).so fun d Γ1 => match Γ1[i]? with
  | some (some (.obj k fs)) => if k = c ∧ fs.length < 100 then .nx (Γ1.set i (some (.obj k (putD nm d fs)))) else .no
  | _ => .no
theorem es_setF {c : Nat} {nm : Str} (hk : KOk G) (hm : Θ[i]? = some (.own (.obj []))) (hn : NoAttr G.K (G.cl c) nm) (h : EfV G Θ E .fz te f) : Es G Θ E pn rt (sFld G.K (tVar i) te nm) (sSetF i c nm f) := fun B F H σ Γ fps Dn hp en q =>
  h B F H σ Γ fps en _ (q.exp fun d Γ1 v F1 H1 fps1 fp1 e1 s1 ow n1 m1 q => by
    split at q
    · rename_i k fs hd
      obtain ⟨⟨rfl, hl⟩, q1⟩ := SQ.ite q
      obtain ⟨p, dx, vs, fp, hv, hf, hh, z, r, nd, hF⟩ := e1.rootO hm hd
      obtain ⟨rfl, rs⟩ := r.fz_r
      refine ⟨_, hv, p, _, dx, vs, rfl, hh, hk.cls _ z.1, hn, by rw [rs.len]; omega, ?_⟩
      refine q1 F1 _ σ _ (e1.rerootO hm hv hf hh ⟨z.1, fun q hq => ?_⟩ (OwnS.of_r (RS.put ow.fz_r.2 rs)) (by simp) (fun a ha => absurd ha List.not_mem_nil) fun a ha => absurd ha List.not_mem_nil) (.refl _)
      rcases putD_key hq with y | ⟨q', h1, h2⟩
      · rw [y]; exact hn
      · rw [← h2]; exact z.2 q' h1
    · exact q.elim)
end
/-! ## objects: made -/
def mkR : Ou D → Rs D
  | .ok .non (some d :: _) => .ok d
  | .ok _ _ => .no
  | .ex c fs _ => .ex c fs
  | .no => .no
def pMake (c : Nat) (dds : List D) (sf : List D → Ou D) (fs : Env → Rs (List D)) : Env → Rs D := fun Γ => (fs Γ).bind fun ds => mkR (sf (.obj c [] :: (ds ++ dds)))
section
variable {G : KC} {Θ : List Md} {E : EK} {tr : TA} {fts : List (Str × T)} {O : Addr → Prop} {U H : Hp} {ms dms : List Md} {vs dvs : List V} {ds dds : List D} {sf : List D → Ou D} {pfs : Env → Rs (List D)} {c : Nat}
theorem FQ.make {E : XK} {Q : VK} {x dx : Addr} (rg : Reg G O U H) (nx : H x = none) (ndx : H dx = none) (ne : dx ≠ x) (q : PQ G O E U H (rN G O (.obj fts)) Q (mkR (sf ds))) :
    FQ G (.own (.obj fts) :: ms) .fz E (Fz O U) (upd (upd H dx (.own x)) x (.ins (G.cl c) dx [])) (.ref x :: vs) [x] (fun v H2 => v = .non ∧ Q (.ref x) H2) (sf ds) := by
  have hnone : ∀ a, (upd (upd H dx (.own x)) x (.ins (G.cl c) dx [])) a = none → H a = none := fun a h => by
    by_cases e : a = x
    · subst e; exact nx
    · rw [upd_ne e] at h
      by_cases e2 : a = dx
      · subst e2; exact ndx
      · rw [upd_ne e2] at h; exact h
  have hsame : ∀ a o, H a = some o → a ≠ x ∧ (upd (upd H dx (.own x)) x (.ins (G.cl c) dx [])) a = some o := fun a o h => by
    have e := ne_of_none h nx
    exact ⟨e, by rw [upd_ne e, upd_ne (ne_of_none h ndx)]; exact h⟩
  have hh : ∀ {F' H' : Hp}, Post (Fz O U) (upd (upd H dx (.own x)) x (.ins (G.cl c) dx [])) F' H' [x] → Same H H' := fun p a o h => p.k a o (hsame a o h).2 fun z => (hsame a o h).1 (List.mem_singleton.mp z)
  have hn : ∀ {F' H' : Hp}, Post (Fz O U) (upd (upd H dx (.own x)) x (.ins (G.cl c) dx [])) F' H' [x] → ∀ a o, F' a = some o → Fz O U a = some o ∨ H a = none := fun p a o h => by
    rcases p.n a o h with z | z | z
    · exact Or.inl z
    · exact Or.inr (hnone a z)
    · rw [List.mem_singleton.mp z]; exact Or.inr nx
  have fF : ∀ {F' H' : Hp}, Post (Fz O U) (upd (upd H dx (.own x)) x (.ins (G.cl c) dx [])) F' H' [x] → Same F' (Fz O (uniW U F')) := fun p a o h => by
    rcases hn p a o h with z | z
    · refine fz_of (fz_in z).1 ?_
      have := p.f a o z
      rw [h] at this
      cases this
      exact uniW_l a o (fz_in z).2
    · refine fz_of (rg.no z) ?_
      unfold uniW
      rw [rg.s.free z]
      exact h
  have gr : ∀ {F' H' : Hp}, Post (Fz O U) (upd (upd H dx (.own x)) x (.ins (G.cl c) dx [])) F' H' [x] → Gr U H (uniW U F') H' := fun p => by
    refine ⟨uniW_l, hh p, fun a o h => ?_, fun a o h => ?_⟩
    · unfold uniW at h
      cases y : U a with
      | some u => rw [y] at h; cases h; exact hh p a _ (rg.s a _ y)
      | none => rw [y] at h; exact p.s a o h
    · unfold uniW at h
      cases y : U a with
      | some u => rw [y] at h; cases h; exact Or.inl rfl
      | none =>
        rw [y] at h
        rcases hn p a o h with z | z
        · rw [(fz_in z).2] at y; cases y
        · exact Or.inr z
  cases z : sf ds with
  | no => rw [z] at q; exact q.elim
  | ex k fs Γ =>
    rw [z] at q
    intro dd F' H' fps p xr outs nd k
    obtain ⟨d, ws, h1, h2, h3⟩ := xr
    exact q dd (uniW U F') H' (gr p) ⟨d, ws, h1, h2, h3.mono (fF p)⟩
  | ok r Γ =>
    rw [z] at q
    intro v F' H' fpr fps p ow outs nd k
    cases outs with
    | @own _ _ _ _ d Γ' fp fps' ow1 outs1 =>
      cases r with
      | non =>
        have ev := ow.fz_r.2
        cases ev
        refine ⟨rfl, q (.ref x) (uniW U F') H' (gr p) ⟨fp, ow1.mono (fF p) fun _ _ _ z => z, ?_, fun a ha => ?_⟩⟩
        · rw [List.flatten_cons] at nd
          exact (List.nodup_append.mp (List.nodup_append.mp nd).2.1).1
        · obtain ⟨h1, h2⟩ := k a (List.mem_append_right _ (by rw [List.flatten_cons]; exact List.mem_append_left _ ha))
          have h3 : H a = none := h2.elim (fun z => by rw [List.mem_singleton.mp z]; exact nx) fun z => hnone a z
          refine ⟨h3, ?_⟩
          unfold uniW
          rw [rg.s.free h3]
          exact h1
      | _ => exact q.elim
theorem make_pure (hc : c < G.nc) (hn : noOwn ms = true) {E : XK} {Q : VK} (rg : Reg G O U H) (r : RLm G (Fz O U) U ms vs ds) (q : PQ G O E U H (rN G O (.obj fts)) Q (mkR (sf (.obj c [] :: ds)))) :
    ∀ x dx, H x = none → H dx = none → dx ≠ x → spF G (.own (.obj fts) :: ms) .fz sf (.ref x :: vs) (upd (upd H dx (.own x)) x (.ins (G.cl c) dx [])) (fun v H2 => v = .non ∧ Q (.ref x) H2) E := fun x dx nx ndx ne => by
  have sH : Same H (upd (upd H dx (.own x)) x (.ins (G.cl c) dx [])) := fun a o h => by rw [upd_ne (ne_of_none h nx), upd_ne (ne_of_none h ndx)]; exact h
  have e1 : (([x] : List Addr) :: ms.map fun _ => ([] : List Addr)).flatten = [x] := by rw [List.flatten_cons, flat_nil]; rfl
  refine ⟨Fz O U, U, .obj c [] :: ds, [x] :: ms.map fun _ => [], .cons ⟨.ref x, rfl, .obj upd_same ⟨hc, fun p hp => absurd hp List.not_mem_nil⟩ .nil⟩ (r.args hn), by rw [e1]; simp, fun a ha => ?_, fz_le.trans (rg.s.trans sH), rg.s.trans sH, fun a n h => ?_, ?_⟩
  · rw [e1] at ha
    rw [List.mem_singleton.mp ha]
    exact ⟨fz_none (rg.s.free nx), rg.s.free nx⟩
  · obtain ⟨u, z⟩ := rg.t a n h
    exact ⟨u, sH _ _ z⟩
  · rw [e1]
    exact FQ.make rg nx ndx ne q
theorem en_mk (hc : c < G.nc) (ha : EvM G Θ E ms tr pfs) (hd : DvR G dms dvs dds) (hn : noOwn (ms ++ dms) = true) : EvN G Θ E (.obj fts) (tMk (G.cl c) (spF G (.own (.obj fts) :: (ms ++ dms)) .fz sf) dvs E tr) (pMake c dds sf pfs) := fun O U H σ Γ a Q q =>
  ha O U H σ Γ a _ (q.bind fun ds vs U1 H1 g1 r1 q => make_pure hc hn (a.grow g1).g (r1.append (hd.r _ _)) q)
end
section
variable {X : XR0} {Q : D → Prop} {c : Nat} {nm : Str} {fs : List (Str × D)}
theorem vw_fld : vR (P := ⟨Q, X⟩) (opFld nm (.obj c fs)) ↔ vF (P := ⟨Q⟩) (fs.lookup nm) := by
  simp only [vR_iff, vF_iff]
  show wR Q X (ofO _) ↔ _
  exact w_ofO
end
end Y

namespace Y
open PySem PySem.Spec PyProof.Rows L2 Z

section
variable {X : XR0} {Q : D → Prop} {a b s : Str}
theorem vw_inSS : vR (P := ⟨Q, X⟩) (opInX (.str a) (.str b)) ↔ Q (.bl (strIn a b)) := by
  simp only [vR_iff]
  exact Iff.rfl
theorem vw_ninSS : vR (P := ⟨Q, X⟩) (opNotIn (.str a) (.str b)) ↔ Q (.bl (!strIn a b)) := by
  simp only [vR_iff]
  exact Iff.rfl
theorem vw_lenS : vR (P := ⟨Q, X⟩) (opLen [.str s]) ↔ s.length ≤ 1000000 ∧ Q (.int s.length) := by
  simp only [vR_iff]
  show wR Q X (if s.length ≤ 1000000 then .ok (.int s.length) else .no) ↔ _
  by_cases h : s.length ≤ 1000000
  · rw [if_pos h]; exact ⟨fun q => ⟨h, q⟩, fun q => q.2⟩
  · rw [if_neg h]; exact ⟨fun q => q.elim, fun q => absurd q.1 h⟩
end
/-! ## objects -/
theorem ps_fldK {X : Cx} {K : PySem.W.Frag} {o value : Expr} {f : Str} {pos pos' : Pos} {ta tv : TE} (h : X.K = K) (ha : PE X o ta) (hv : PE X value tv) (hs : swapsWith value (some (.Attribute o f pos')) pos.line X.env = pure false := by rfl) : PS X (.Assign [.Attribute o f pos'] value pos) (sFld K ta tv f) := h ▸ ps_fld ha hv hs
def lookD (f : Str) : List (Str × D) → Option D
  | [] => none
  | (g, x) :: r => if g = f then some x else lookD f r
theorem lookD_eq (f : Str) : ∀ fs : List (Str × D), fs.lookup f = lookD f fs
  | [] => rfl
  | (g, x) :: r => by
    unfold lookD
    by_cases e : g = f
    · subst e; simp [List.lookup]
    · have e' : (f == g) = false := by simpa using fun z => e z.symm
      rw [if_neg e]
      simp only [List.lookup, e']
      exact lookD_eq f r
def noKey (m : Str) : List (Str × D) → Prop
  | [] => True
  | (g, _) :: r => ¬ g = m ∧ noKey m r
theorem noKey_look {m : Str} : ∀ fs : List (Str × D), fs.lookup m = none ↔ noKey m fs
  | [] => ⟨fun _ => trivial, fun _ => rfl⟩
  | (g, x) :: r => by
    rw [lookD_eq]
    unfold lookD noKey
    by_cases e : g = m
    · rw [if_pos e]; exact ⟨fun h => (by cases h), fun h => absurd e h.1⟩
    · rw [if_neg e, ← lookD_eq]; exact ⟨fun h => ⟨e, (noKey_look r).mp h⟩, fun h => (noKey_look r).mpr h.2⟩
def mk1 (Q : D → Prop) : D → Env → Prop
  | .non, some d :: _ => Q d
  | _, _ => False
section
variable {X : XR0} {Q : D → Prop} {c : Nat} {nm m : Str} {fs : List (Str × D)} {nx : Env → Prop} {rt : D → Env → Prop} {bk ct : Env → Prop} {XE : XE0} {Γ : Env} {i : Nat}
theorem vw_fldD : vR (P := ⟨Q, X⟩) (opFld nm (.obj c fs)) ↔ vF (P := ⟨Q⟩) (lookD nm fs) := by
  rw [vw_fld, lookD_eq]
def asO (c : Nat) : D → Rs (List (Str × D))
  | .obj k fs => if k = c then .ok fs else .no
  | _ => .no
theorem vw_asO {QF : List (Str × D) → Prop} {X : XR0} : vR (P := ⟨QF, X⟩) (asO c (.obj c fs)) ↔ QF fs := by
  simp only [vR_iff]
  show wR QF X (if c = c then .ok fs else .no) ↔ _
  rw [if_pos rfl]
  exact Iff.rfl
theorem vw_sSetF {f : Env → Ou D} : vS (P := ⟨nx, rt, bk, ct, XE⟩) (sSetF i c nm f Γ) ↔ vO (P := ⟨fun d Γ1 => vE (P := ⟨fun o => vR (P := ⟨fun fs => fs.length < 100 ∧ nx (Γ1.set i (some (.obj c (putD nm d fs)))), fun _ _ => False⟩) (asO c o)⟩) Γ1 i, XE⟩) (f Γ) := by
  simp only [vS_iff, vO_iff, vE_iff, vR_iff]
  unfold sSetF
  cases f Γ with
  | no => exact Iff.rfl
  | ex c fs Γ1 => exact Iff.rfl
  | ok d Γ1 =>
    show wS nx rt bk ct XE (match Γ1[i]? with | some (some (.obj k fs)) => if k = c ∧ fs.length < 100 then .nx (Γ1.set i (some (.obj k (putD nm d fs)))) else .no | _ => .no) ↔ gE _ Γ1 i
    unfold gE
    cases Γ1[i]? with
    | none => exact Iff.rfl
    | some o =>
      cases o with
      | none => exact Iff.rfl
      | some d2 =>
        cases d2 with
        | obj k fs =>
          show wS nx rt bk ct XE (if k = c ∧ fs.length < 100 then .nx (Γ1.set i (some (.obj k (putD nm d fs)))) else .no) ↔ wR _ _ (if k = c then .ok fs else .no)
          by_cases e : k = c
          · subst e
            rw [if_pos rfl]
            by_cases h : fs.length < 100
            · rw [if_pos ⟨rfl, h⟩]; exact ⟨fun q => ⟨h, q⟩, fun q => q.2⟩
            · rw [if_neg fun z => h z.2]; exact ⟨fun q => q.elim, fun q => absurd q.1 h⟩
          · rw [if_neg e, if_neg fun z => e z.1]
            exact Iff.rfl
        | _ => exact Iff.rfl
theorem vw_pMake {dds : List D} {sf : List D → Ou D} {fa : Env → Rs (List D)} : vR (P := ⟨Q, X⟩) (pMake c dds sf fa Γ) ↔ vR (P := ⟨fun ds => vO (P := ⟨fun r Γ1 => mk1 Q r Γ1, fun c f _ => X c f⟩) (sf (.obj c [] :: (ds ++ dds))), X⟩) (fa Γ) := by
  simp only [vR_iff, vO_iff]
  unfold pMake
  rw [wR_bind]
  have key : ∀ o : Ou D, wR Q X (mkR o) ↔ wO (fun r Γ1 => mk1 Q r Γ1) (fun c f _ => X c f) o := fun o => by
    cases o with
    | no => exact Iff.rfl
    | ex c fs Γ => exact Iff.rfl
    | ok d Γ =>
      cases d with
      | non =>
        cases Γ with
        | nil => exact Iff.rfl
        | cons o Γ => cases o <;> exact Iff.rfl
      | _ => exact Iff.rfl
  cases fa Γ with
  | no => exact Iff.rfl
  | ex c fs => exact Iff.rfl
  | ok ds => exact key _
theorem mk1_ok {d : D} : mk1 Q .non (some d :: Γ) ↔ Q d := Iff.rfl
theorem vw_pMeth {sf : List D → Ou D} {fo : Env → Rs D} {fa : Env → Rs (List D)} : vR (P := ⟨Q, X⟩) (pMeth c m sf fo fa Γ) ↔ vR (P := ⟨fun x => vR (P := ⟨fun _ => vR (P := ⟨fun ds => vO (P := ⟨fun r _ => Q r, fun c f _ => X c f⟩) (sf (x :: ds)), X⟩) (fa Γ), X⟩) (clsIs c m x), X⟩) (fo Γ) := by
  simp only [vR_iff, vO_iff]
  unfold pMeth
  simp only [wR_bind, wR_rs]
theorem vw_clsIs {QU : Unit → Prop} {X : XR0} : vR (P := ⟨QU, X⟩) (clsIs c m (.obj c fs)) ↔ noKey m fs ∧ QU () := by
  simp only [vR_iff]
  show wR QU X (if c = c ∧ fs.lookup m = none then .ok () else .no) ↔ _
  by_cases h : fs.lookup m = none
  · rw [if_pos ⟨rfl, h⟩]; exact ⟨fun q => ⟨(noKey_look fs).mp h, q⟩, fun q => q.2⟩
  · rw [if_neg fun z => h z.2]; exact ⟨fun q => q.elim, fun q => absurd ((noKey_look fs).mpr q.1) h⟩
end
end Y

namespace Y
open PySem PySem.Spec PyProof.Rows L2 Z

/-! ## what the top has written of the classes -/
def clL (l : List Addr) (c : Nat) : Addr := l.getD c 0
structure CF (K : PySem.W.Frag) (C : Addr) : Prop where
  cls : Cls K C
  cl : PySem.W.findIn K (.ref C) "__class__" = some (some (.builtin "object.__class__"))
  mro : PySem.W.mroIn K C (.type "object") = some true
  ko : ∀ t : Ty, PySem.W.kitOne K (.ref C) (.type (Ty.nm t)) = some false
  kn : ∀ n ∈ ["NoneType", "bool", "int", "str", "list", "tuple", "dict"], PySem.W.kitOne K (.type n) (.ref C) = some false
theorem kok_of {G : KC} (h : ∀ c, c < G.nc → CF G.K (G.cl c)) (sp : PySem.W.specialIn G.K (.builtin "object.__class__") "__get__" = some (some (.builtin "getset_descriptor.__get__"))) (tk : PySem.W.takesIn G.K (.builtin "object.__class__") = some true)
    (kk : ∀ c k, c < G.nc → k < G.nc → PySem.W.kitOne G.K (.ref (G.cl c)) (.ref (G.cl k)) = some (decide (c = k))) : KOk G :=
  ⟨fun c hc => (h c hc).cls, fun c hc => ⟨(h c hc).cl, sp, tk, (h c hc).mro⟩, fun c t hc => (h c hc).ko t, kk, fun c n hc hn => (h c hc).kn n hn⟩
theorem cf_of {K : PySem.W.Frag} {C : Addr} (pg : PySem.W.plainGet K C Str.empty = true) (hd : PySem.W.hasDictIn K C = true) (po : PySem.W.plainOver K C = true) (sa : PySem.W.findIn K (.ref C) "__setattr__" = some (some (.builtin "object.__setattr__")))
    (cl : PySem.W.findIn K (.ref C) "__class__" = some (some (.builtin "object.__class__"))) (mro : PySem.W.mroIn K C (.type "object") = some true)
    (o1 : PySem.W.kitOne K (.ref C) (.type "int") = some false) (o2 : PySem.W.kitOne K (.ref C) (.type "bool") = some false) (o3 : PySem.W.kitOne K (.ref C) (.type "str") = some false)
    (o4 : PySem.W.kitOne K (.ref C) (.type "list") = some false) (o5 : PySem.W.kitOne K (.ref C) (.type "tuple") = some false) (o6 : PySem.W.kitOne K (.ref C) (.type "dict") = some false)
    (n0 : PySem.W.kitOne K (.type "NoneType") (.ref C) = some false) (n1 : PySem.W.kitOne K (.type "bool") (.ref C) = some false) (n2 : PySem.W.kitOne K (.type "int") (.ref C) = some false) (n3 : PySem.W.kitOne K (.type "str") (.ref C) = some false)
    (n4 : PySem.W.kitOne K (.type "list") (.ref C) = some false) (n5 : PySem.W.kitOne K (.type "tuple") (.ref C) = some false) (n6 : PySem.W.kitOne K (.type "dict") (.ref C) = some false) : CF K C :=
  ⟨⟨pg, hd, po, sa⟩, cl, mro, fun t => (by cases t <;> first | exact o1 | exact o2 | exact o3 | exact o4 | exact o5 | exact o6), fun n hn => by
    simp only [List.mem_cons, List.not_mem_nil, or_false] at hn
    rcases hn with rfl | rfl | rfl | rfl | rfl | rfl | rfl <;> first | exact n0 | exact n1 | exact n2 | exact n3 | exact n4 | exact n5 | exact n6⟩
theorem binds_all {K : PySem.W.Frag} {fd : FuncData} {ps : List Str} (h : ∃ ds, Vals [] ds ∧ Binds K fd ps ds) : Binds K fd ps [] := by
  obtain ⟨ds, v, b⟩ := h
  cases v
  exact b
theorem funD_mk {K : PySem.W.Frag} {x qual : Str} {st : Stmt} {f T : Addr} {oc kV doc pm cdv ct tc : Value} {od an td : Option Addr} {osl ts : Array (Option Value)} {n : Nat} {dvs : List V} {its : List Value} (hd : dvs ≠ [])
    (l : K.lookup f = some ⟨oc, od, .func (PySem.W.fnOf x qual (defArgs st) (defBody st) (defScope st) (.ref T) kV doc pm an cdv ct), osl⟩) (c : PySem.W.codeIn K cdv qual = true) (k : PySem.W.keepIn K (.ref f) = true)
    (t : K.lookup T = some ⟨tc, td, .seq its.toArray n, ts⟩) (v : Vals dvs its) : FunD K x qual (defArgs st) (defBody st) (defScope st) dvs [] f (PySem.W.fnOf x qual (defArgs st) (defBody st) (defScope st) (.ref T) kV doc pm an cdv ct) :=
  ⟨⟨oc, od, .ref T, kV, doc, pm, an, cdv, ct, osl, rfl, l, c, .inr ⟨hd, T, _, its, n, rfl, t, rfl, v⟩, .inl rfl⟩, k⟩
end Y

namespace Y
open PySem PySem.Spec PyProof.Rows L2 Z

/-! ## calls that leave the defaults, calls with keywords -/
def tClN (n m : Nat) (sp : Sp) (E : L2.St → XK) (t tk : TA) : TE := fun σ H Q => t σ H fun vs H1 => tk σ H1 fun zs H2 => vs.length = n ∧ zs.length = m ∧ sp (vs ++ zs) H2 Q (E σ)
theorem kbinds1 {K : PySem.W.Frag} {x qual : Str} {params : Arguments} {body : List Stmt} {scope : Scope} {dvs : List V} {f : Addr} {fd : FuncData} {ps : List Str} (F : FunD K x qual params body scope dvs [] f fd) (n : Nat) (ks : List Str) (hd : dvs ≠ [])
    (h : ∀ (T : Addr) (kV doc pm : Value) (an : Option Addr) (cdv ct : Value) (us its ws : List Value), us.length = n → its.length = dvs.length → ws.length = ks.length →
      ∃ k, bindArgs (PySem.W.fnOf x qual params body scope (.ref T) kV doc pm an cdv ct) ⟨us, ks.zip ws⟩ = seqItems? (.ref T) >>= k ∧ k (some its.toArray) = pure (ps.zip (us ++ ws))) : KBn K fd ps n ks (fun us ws => us ++ ws) (fun vs zs => vs ++ zs) := by
  obtain ⟨oc, od, dV, kV, doc, pm, an, cdv, ct, osl, rfl, lk, hcd, hD, hK⟩ := F.ex
  rcases hD with ⟨e, _⟩ | ⟨_, T, o, its, m, rfl, lT, oT, rT⟩
  · exact absurd e hd
  · refine ⟨fun s us ws X l1 l2 => ?_, fun r1 r2 => r1.append r2⟩
    obtain ⟨k, e1, e2⟩ := h T kV doc pm an cdv ct us its ws l1 rT.length.symm l2
    refine BindsTo.of_looks fun M => ?_
    rw [e1]
    exact looks_items X lT oT (.of_pure e2)
section
variable {X : Cx} {CX : CXT} {k n : Nat} {f : Addr} {fd : FuncData} {ps ks : List Str} {sp : Sp} {dvs : List V} {E : L2.St → XK} {x : Str} {p pos : Pos} {e : Expr} {es : List Expr} {kws : List Keyword} {t tk : TA}
theorem run_fGN {pins : List (Addr × Obj)} {σ : L2.St} {H : Hp} {s : Shared} {Q : VK} {us ws : List Value} {vs zs : List V} (F : FnG X.prog X.w X.K X.mg X.base CX k f fd ps sp) (hr : Room k X.A) (hG : X.A.guards = some []) (hb : KBn X.K fd ps n ks (fun us ws => us ++ ws) (fun vs zs => vs ++ zs)) (hx : PassesAt CX X σ (E σ))
    (I : Inv X pins σ H s) (r : Vals vs us) (rz : Vals zs ws) (l1 : vs.length = n) (l2 : zs.length = ks.length) (h : sp (vs ++ zs) H Q (E σ)) : wpAny (model X.prog X.w) X.A (call (.ref f) us (ks.zip ws)) (EP X pins σ Q) X.xe s := by
  have r2 := hb.rel r rz
  apply wpAny_call
  apply codeAny_mono (F.go X.A X.stack s H ⟨us, ks.zip ws⟩ (us ++ ws) (vs ++ zs) Q (E σ) hr hG I.env0 (hb.to s us ws I.kIn (r.length.symm.trans l1) (rz.length.symm.trans l2)) r2 h)
  intro res s' hq
  match res, hq with
  | .error e, hq => exact hx pins H s e s' I hq
  | .ok (.ret u), hq => exact I.after hq
theorem pe_clN (F : FnG X.prog X.w X.K X.mg X.base CX k f fd ps sp) (hr : Room k X.A) (hG : X.A.guards = some []) (hg : Gl X x) (hm : X.mg x = some (.ref f)) (hk : PySem.W.keepIn X.K (.ref f) = true) (hb : KBn X.K fd ps n ks (fun us ws => us ++ ws) (fun vs zs => vs ++ zs)) (hx : ∀ σ, PassesAt CX X σ (E σ))
    (ha : PA X (e :: es) t) (hkw : PK X kws tk) (hall : (backToKw pos (keywordEach kws X.env)).all (·.1.isSome) = true := by rfl) (hks : (backToKw pos (keywordEach kws X.env)).filterMap (·.1) = ks := by rfl)
    (hdb : (x == ("__debug__" : Str)) = false := by decide) (he : starEach (e :: es) X.env = (false, eval e X.env) :: starEach es X.env := by rfl)
    (hpl : ((backTo pos (starEach (e :: es) X.env)).any (·.1) || (backToKw pos (keywordEach kws X.env)).any (·.1.isNone)) = false := by rfl) :
    PE X (.Call (.Name x p) (e :: es) kws pos) (tClN n ks.length sp E t tk) := by
  refine ⟨fun pins s σ H Q I h => ?_⟩
  refine wpAny_Call_Name_kw (ld_glob I hg hm ?_ hdb)
  refine PySem.W.callWith_KW (h₀ := X.base) I.ok.mod.kin hk hall (thn (ha.run pos pins s σ H _ I h) fun us s1 ⟨vs, H1, I1, r, q⟩ => ?_) hpl he
  refine thn (hkw.run pos pins s1 σ H1 _ I1 q) fun ws s2 ⟨zs, H2, I2, rz, l1, l2, q2⟩ => ⟨I2.kIn, ?_⟩
  rw [hks]
  exact run_fGN F hr hG hb (hx σ) I2 r rz l1 l2 q2
theorem pe_clX (F : FnG X.prog X.w X.K X.mg X.base CX k f fd ps sp) (hr : Room k X.A) (hG : X.A.guards = some []) (hg : Gl X x) (hm : X.mg x = some (.ref f)) (hk : PySem.W.keepIn X.K (.ref f) = true)
    (hb : ∃ ds, Vals dvs ds ∧ Binds X.K fd ps ds) (hx : ∀ σ, PassesAt CX X σ (E σ)) (ha : PA X (e :: es) t) (hdb : (x == ("__debug__" : Str)) = false := by decide)
    (he : starEach (e :: es) X.env = (false, eval e X.env) :: starEach es X.env := by rfl) (hpl : (backTo pos (starEach es X.env)).any (·.1) = false := by rfl) :
    PE X (.Call (.Name x p) (e :: es) [] pos) (tCl sp dvs E t) := by
  obtain ⟨ds, hd, hb⟩ := hb
  exact pe_cl F hr hG hg hm hk hb hd hx ha hdb he hpl
end
def pApp (f g : Env → Rs (List D)) : Env → Rs (List D) := fun Γ => (f Γ).bind fun a => (g Γ).bind fun b => .ok (a ++ b)
section
variable {G : KC} {Θ : List Md} {E : EK} {tr tk : TA} {ms ns : List Md} {rt : T} {sf : List D → Ou D} {pf pg : Env → Rs (List D)} {n m : Nat}
theorem RLm.len {F U : Hp} {vs : List V} {ds : List D} (h : RLm G F U ms vs ds) : vs.length = ms.length := by
  induction h with
  | nil => rfl
  | cons _ _ ih => exact congrArg Nat.succ ih
theorem RLm.mono {F F' U U' : Hp} {vs : List V} {ds : List D} (e : Same F F') (g : Same U U') (h : RLm G F U ms vs ds) : RLm G F' U' ms vs ds := by
  induction h with
  | nil => exact .nil
  | cons h r ih => exact .cons (RM.mono e g h) ih
theorem en_clN (ha : EvM G Θ E ms tr pf) (hk : EvM G Θ E ns tk pg) (h1 : ms.length = n) (h2 : ns.length = m) (hn : noOwn (ms ++ ns) = true) : EvN G Θ E rt (tClN n m (spF G (ms ++ ns) rt sf) E tr tk) (pCall [] sf (pApp pf pg)) := fun O U H σ Γ a Q q => by
  have e : pCall [] sf (pApp pf pg) Γ = (pf Γ).bind fun x => (pg Γ).bind fun y => (sf (x ++ y ++ [])).rs := by
    unfold pCall pApp
    cases pf Γ with
    | ok x => cases pg Γ <;> rfl
    | ex c fs => rfl
    | no => rfl
  rw [e] at q
  exact ha O U H σ Γ a _ (q.bind fun x v U1 H1 g1 r1 q => hk O U1 H1 σ Γ (a.grow g1) _ (q.bind fun y w U2 H2 g2 r2 q => by
    have r1' : RLm G (Fz O U1) U1 ms v x := r1
    have r2' : RLm G (Fz O U2) U2 ns w y := r2
    rw [List.append_nil] at q
    exact ⟨r1'.len.trans h1, r2'.len.trans h2, call_pure hn ((a.grow g1).grow g2).g ((r1'.mono (fz_mono g2.f) g2.f).append r2') q⟩))
end
theorem vw_pApp {QL : List D → Prop} {X : XR0} {f g : Env → Rs (List D)} {Γ : Env} : vR (P := ⟨QL, X⟩) (pApp f g Γ) ↔ vR (P := ⟨fun a => vR (P := ⟨fun b => QL (a ++ b), X⟩) (g Γ), X⟩) (f Γ) := by
  simp only [vR_iff]
  unfold pApp
  simp only [wR_bind, wR_ok]
end Y

namespace Y
open PySem PySem.Spec PyProof.Rows L2 Z

/-! ## a, b, .. = a tuple or a list -/
def gTU (K : PySem.W.Frag) (n : Nat) (t : TGs) : TG := fun v σ H Q => gTup K n t v σ H Q ∨ gLst K n t v σ H Q
theorem pg_or {X : Cx} {e : Expr} {g1 g2 : TG} (h1 : PG X e g1) (h2 : PG X e g2) : PG X e (fun v σ H Q => g1 v σ H Q ∨ g2 v σ H Q) :=
  ⟨fun pins s σ H v u Q I r hw => hw.elim (h1.run pins s σ H v u Q I r) (h2.run pins s σ H v u Q I r)⟩
theorem pg_tuK {X : Cx} {K : PySem.W.Frag} {es : List Expr} {k : Nat} {t : TGs} {n : Nat} {pos : Pos} (h : X.K = K) (hc : X.calm = true) (hs : PGs X es t)
    (hn : (assignEach es X.env).length = n := by rfl) (hst : (assignEach es X.env).findIdx? (·.1) = none := by rfl) : PG X (.Tuple es k pos) (gTU K n t) := h ▸ pg_or (pg_tup hc hs hn hst) (pg_lst hc hs hn hst)
def tgTU (gs : List D → Env → Option Env) : GF := fun d Γ => match d with
  | .tup ds => gs ds Γ
  | .lst ds => gs ds Γ
  | _ => none
section
variable {G : KC} {Θ : List Md} {vs : List Nat} {pn : List Nat} {gs : TGs} {gfs : List D → Env → Option Env}
theorem eg_tu {n : Nat} (hn : ∀ (ds : List D) (Γ Γ' : Env), gfs ds Γ = some Γ' → ds.length = n) (h : EvGs G Θ vs gs gfs) : EvG G Θ vs .fz (gTU G.K n gs) (tgTU gfs) := fun O U H σ Γ v d a r QQ ⟨Γ', e, k⟩ => by
  have r' := r.fz
  cases d with
  | tup ds =>
    obtain ⟨b, us, rfl, h1, r1⟩ := R_tup r' rfl
    exact Or.inl ⟨b, us, rfl, same_t (fz_le.trans a.g.s) h1, by rw [r1.len]; exact hn ds Γ Γ' e, h O U H σ Γ us ds a r1 QQ ⟨Γ', e, k⟩⟩
  | lst ds =>
    obtain ⟨b, us, rfl, h1, r1⟩ := R_lst r' rfl
    exact Or.inr ⟨b, us, rfl, Or.inl (Or.inl (a.g.s _ _ (fz_le _ _ h1))), by rw [r1.len]; exact hn ds Γ Γ' e, h O U H σ Γ us ds a r1 QQ ⟨Γ', e, k⟩⟩
  | _ => cases e
theorem et_tu {n : Nat} (hn : tgLen n gfs) (h : Ets G Θ pn gs gfs) : Et G Θ pn (gTU G.K n gs) (tgTU gfs) := fun B F H σ Γ fps v d hp e r QQ ⟨Γ', z, k⟩ => by
  cases d with
  | tup ds =>
    obtain ⟨b, us, rfl, h1, r1⟩ := R_tup r rfl
    exact Or.inl ⟨b, us, rfl, same_t e.fr h1, by rw [r1.len]; exact hn ds Γ Γ' z, h B F H σ Γ fps us ds hp e r1 QQ ⟨Γ', z, k⟩⟩
  | lst ds =>
    obtain ⟨b, us, rfl, h1, r1⟩ := R_lst r rfl
    exact Or.inr ⟨b, us, rfl, Or.inl (Or.inl (e.fr _ _ h1)), by rw [r1.len]; exact hn ds Γ Γ' z, h B F H σ Γ fps us ds hp e r1 QQ ⟨Γ', z, k⟩⟩
  | _ => cases z
theorem eta_tu {n : Nat} (hn : tgLen n gfs) (h : EtsA G Θ vs gs gfs) : EtA G Θ vs (gTU G.K n gs) (tgTU gfs) := fun B F H σ Γ fps v d hp e r QQ ⟨Γ', z, k⟩ => by
  cases d with
  | tup ds =>
    obtain ⟨b, us, rfl, h1, r1⟩ := R_tup r rfl
    exact Or.inl ⟨b, us, rfl, same_t e.fr h1, by rw [r1.len]; exact hn ds Γ Γ' z, h B F H σ Γ fps us ds hp e r1 QQ ⟨Γ', z, k⟩⟩
  | lst ds =>
    obtain ⟨b, us, rfl, h1, r1⟩ := R_lst r rfl
    exact Or.inr ⟨b, us, rfl, Or.inl (Or.inl (e.fr _ _ h1)), by rw [r1.len]; exact hn ds Γ Γ' z, h B F H σ Γ fps us ds hp e r1 QQ ⟨Γ', z, k⟩⟩
  | _ => cases z
end
section
variable {nx : Env → Prop} {gs : List D → Env → Option Env} {ds : List D} {Γ : Env}
theorem vw_tgTUt : vF (P := ⟨nx⟩) (tgTU gs (.tup ds) Γ) ↔ vF (P := ⟨nx⟩) (gs ds Γ) := by
  simp only [vF_iff]
  exact Iff.rfl
theorem vw_tgTUl : vF (P := ⟨nx⟩) (tgTU gs (.lst ds) Γ) ↔ vF (P := ⟨nx⟩) (gs ds Γ) := by
  simp only [vF_iff]
  exact Iff.rfl
end
/-! ## a list display that is read only -/
section
variable {G : KC} {Θ : List Md} {E : EK} {F U : Hp} {t : T} {ts : List T} {te : TE} {tr : TA} {f : Env → Rs D} {fs : Env → Rs (List D)}
theorem RL.rta {vs : List V} {ds : List D} (hf : ∀ t' ∈ ts, t' = t) (h : RL G F U ts vs ds) : RTA G F U t vs ds := by
  induction h with
  | nil => exact .nil
  | cons r rs ih =>
    obtain rfl := hf _ List.mem_cons_self
    exact .cons r (ih fun x hx => hf x (List.mem_cons_of_mem _ hx))
theorem ev_lstR (ha : EvA G Θ E ts tr fs) (hf : ∀ t' ∈ ts, t' = t) : EvV G Θ E (.lst t) (tLst tr) (pArg opLst fs) := fun O U H σ Γ a Q q =>
  ha O U H σ Γ a _ (q.bind fun x v U1 H1 g1 r1 q => by
    obtain ⟨hz, q⟩ := ite_ok q
    have a1 := a.grow g1
    have rr := RL.rta hf r1
    refine ⟨big (by rw [rr.len]; exact hz), fun p hp => ?_⟩
    have gn : Gr U1 H1 (upd U1 p (.lst v)) (upd H1 p (.lst v)) := (Gr.refl a1.g.s).new hp
    exact q (.ref p) _ _ gn (.lst upd_same (a1.g.tn hp) (RTA.mono (fz_mono gn.f) gn.f rr)))
theorem RT.lift {v : V} {d : D} (h : RT G F U (.lst .fz) v d) : RT G F U (.lst t) v d := by
  cases h with
  | fr r => exact .fr r
  | lst h z r => exact .lst h z (RTA.fr r.fz)
theorem ev_lift (h : EvV G Θ E (.lst .fz) te f) : EvV G Θ E (.lst t) te f := fun O U H σ Γ a Q q => h O U H σ Γ a Q (by
  revert q
  cases f Γ with
  | ok d => exact fun q v U' H' g r => q v U' H' g (RT.lift r)
  | ex c fs => exact fun q => q
  | no => exact fun q => q)
end
end Y

namespace Y
open PySem PySem.Spec PyProof.Rows L2 Z

/-! ## a, b = e1, e2 by a tuple (a or b is a cell) -/
section
variable {G : KC} {Θ : List Md} {E : EK} {B : Bs} {F H : Hp} {σ : L2.St} {Γ : Env} {fps : List (List Addr)} {ta tb tc : TE} {t1 t2 t3 rt : T} {f g h : Env → Ou D} {i j l : Nat} {pn : List Nat} {v : V} {d : D} {fp : List Addr} {m m1 m2 m3 : Md}
theorem es_parT (hi : i ∉ pn) (hj : j ∉ pn) (hm1 : Θ[i]? = some m1) (hm2 : Θ[j]? = some m2) (k1 : Tk m1 t1) (k2 : Tk m2 t2) (ha : EfV G Θ E t1 ta f) (hb : EfV G Θ E t2 tb g) : Es G Θ E pn rt (tAsg (tTup (tCons ta (tCons tb tNil))) (gTU G.K 2 (gCons (gName i) (gCons (gName j) gNil)))) (sPar i j f g) := fun B F H σ Γ fps Dn hp en q =>
  ha B F H σ Γ fps en _ (q.exp fun d1 Γ1 v1 F1 H1 fps1 fp1 e1 s1 r1 n1 x1 q => by
    refine hb _ F1 H1 σ Γ1 fps1 e1.base _ ?_
    revert q
    cases g Γ1 with
    | no => exact fun q => q
    | ex c fs Γ2 => exact fun q dd F2 H2 fps2 e2 s2 xr => q dd F2 H2 σ fps2 (e1.back e2) s2 xr
    | ok d2 Γ2 =>
      intro q v2 F2 H2 fps2 fp2 e2 s2 r2 n2 x2
      have e2' := e1.back e2
      have nn1 := List.nodup_append.mp n1
      have nn2 := List.nodup_append.mp n2
      have keep1 : ∀ a ∈ fp1, ∀ o, H1 a = some o → H2 a = some o := fun a ha o ho => e2.keep a o ho fun z => nn1.2.2 a ha a z rfl
      have r1' := r1.mono s2 keep1
      have st1 : ∀ a ∈ fp1, ∃ o, H1 a = some o := r1.at
      have off1 : ∀ a ∈ fp1, a ∉ fps2.flatten ∧ a ∉ fp2 ∧ F2 a = none := fun a ha => by
        obtain ⟨o, ho⟩ := st1 a ha
        have na : a ∉ fps1.flatten := fun z => nn1.2.2 a ha a z rfl
        refine ⟨fun z => ?_, fun z => ?_, ?_⟩
        · rcases e2.mine a z with y | y
          · exact na y
          · have : H1 a = none := y
            rw [ho] at this; cases this
        · rcases (x2 a z).2 with y | y
          · exact na y
          · have : H1 a = none := y
            rw [ho] at this; cases this
        · cases z : F2 a with
          | none => rfl
          | some u =>
            rcases e2.new a u z with y | y | y
            · have : F1 a = some u := y
              rw [(x1 a ha).1] at this; cases this
            · have : H1 a = none := y
              rw [ho] at this; cases this
            · exact absurd y na
      have x2' : ∀ a ∈ fp2, F2 a = none ∧ (a ∈ B.M ∨ B.H0 a = none) := fun a ha => ⟨(x2 a ha).1, (x2 a ha).2.elim (fun z => e1.mine a z) fun z => Or.inr (e1.there a z)⟩
      have e3 := e2'.setV (v := v1) (d := d1) hp hi hm1 (k1.slot r1') (List.nodup_append.mpr ⟨nn1.1, e2'.nd, fun a ha b hb z => by subst z; exact (off1 a ha).1 hb⟩) (fun a ha => ⟨(off1 a ha).2.2, (x1 a ha).2⟩)
      have e4 := e3.setV (v := v2) (d := d2) hp hj hm2 (k2.slot r2) (List.nodup_append.mpr ⟨nn2.1, e3.nd, fun a ha b hb z => by
        subst z
        rcases set_fl hb with y | y
        · exact (off1 a y).2.1 ha
        · exact nn2.2.2 a ha a y rfl⟩) x2'
      refine ⟨by show 2 ≤ sizeLine; decide, fun p hp2 => Or.inl ⟨p, [v1, v2], rfl, SqT.of upd_same, rfl, ?_⟩⟩
      have e5 := e4.grow (.refl _) (same_new (o := .tup [v1, v2]) hp2) (e4.fr.trans (same_new hp2)) fun a o z => Or.inl z
      exact ⟨v1, [v2], rfl, v2, [], rfl, rfl, q F2 _ _ _ e5 s2⟩)
end
end Y

namespace Y
open PySem PySem.Spec PyProof.Rows L2 Z

/-! ## s.index(t) of a text -/
def rSIx : V → List V → Hp → VK → Prop := fun x xs H Q => ∃ a b i rest, x = .str a ∧ xs = [.str b] ∧ Builtin.Str.occurrences a b 0 a.length 1 = i :: rest ∧ Q (.int (i : Nat)) H
theorem pe_sindexK {X : Cx} {o e : Expr} {to te : TE} {apos pos : Pos} (ho : PE X o to) (he : PE X e te) (hs : starEach [e] X.env = [(false, eval e X.env)] := by rfl) (hbase : attributeBase o "index" X.env (eval o X.env) = eval o X.env := by rfl) (hline : (apos.endLine == pos.line) = true := by rfl) :
    PE X (.Call (.Attribute o "index" apos) [e] [] pos) (tM1 rSIx to te) := pe_m1 F.slot_str_index F.type_str_index mt_sindex ho he hs hbase hline
def opSIx (x y : D) : Rs D := match x with
  | .str a => match y with
    | .str b => match Builtin.Str.occurrences a b 0 a.length 1 with
      | i :: _ => .ok (.int (i : Nat))
      | [] => .no
    | _ => .no
  | _ => .no
theorem o2_six {G : KC} {t1 t2 t3 : T} : O2 G t1 t2 t3 (fun x y => rSIx x [y]) opSIx := fun O U H v w x y a r1 r2 Q E q => by
  unfold opSIx at q
  cases x with
  | str s =>
    cases y with
    | str b =>
      obtain rfl := str_of r1
      obtain rfl := str_of r2
      dsimp only at q
      cases h : Builtin.Str.occurrences s b 0 s.length 1 with
      | nil => rw [h] at q; exact q.elim
      | cons i rest =>
        rw [h] at q
        exact ⟨s, b, i, rest, rfl, rfl, h, q.fin a.s (.fr (.int _))⟩
    | _ => exact q.elim
  | _ => exact q.elim
/-! ## keywords among defaults -/
def tClM (n m : Nat) (mid post : List V) (sp : Sp) (E : L2.St → XK) (t tk : TA) : TE := fun σ H Q => t σ H fun vs H1 => tk σ H1 fun zs H2 => vs.length = n ∧ zs.length = m ∧ sp (vs ++ (mid ++ (zs ++ post))) H2 Q (E σ)
def KBm (K : PySem.W.Frag) (fd : FuncData) (ps : List Str) (n : Nat) (ks : List Str) (mid post : List V) : Prop := ∃ us0 us1 : List Value, KBn K fd ps n ks (fun us ws => us ++ (us0 ++ (ws ++ us1))) (fun vs zs => vs ++ (mid ++ (zs ++ post)))
theorem kbindsM {K : PySem.W.Frag} {x qual : Str} {params : Arguments} {body : List Stmt} {scope : Scope} {dvs : List V} {f : Addr} {fd : FuncData} {ps : List Str} (F : FunD K x qual params body scope dvs [] f fd) (n : Nat) (ks : List Str) (a b c : Nat) (hd : dvs ≠ [])
    (h : ∀ (T : Addr) (kV doc pm : Value) (an : Option Addr) (cdv ct : Value) (us its ws : List Value), us.length = n → its.length = dvs.length → ws.length = ks.length →
      ∃ k, bindArgs (PySem.W.fnOf x qual params body scope (.ref T) kV doc pm an cdv ct) ⟨us, ks.zip ws⟩ = seqItems? (.ref T) >>= k ∧ k (some its.toArray) = pure (ps.zip (us ++ (((its.drop a).take b) ++ (ws ++ its.drop c))))) : KBm K fd ps n ks ((dvs.drop a).take b) (dvs.drop c) := by
  obtain ⟨oc, od, dV, kV, doc, pm, an, cdv, ct, osl, rfl, lk, hcd, hD, hK⟩ := F.ex
  rcases hD with ⟨e, _⟩ | ⟨_, T, o, its, m, rfl, lT, oT, rT⟩
  · exact absurd e hd
  · refine ⟨(its.drop a).take b, its.drop c, ⟨fun s us ws X l1 l2 => ?_, fun r1 r2 => r1.append (((rT.drop a).take b).append (r2.append (rT.drop c)))⟩⟩
    obtain ⟨k, e1, e2⟩ := h T kV doc pm an cdv ct us its ws l1 rT.length.symm l2
    refine BindsTo.of_looks fun M => ?_
    rw [e1]
    exact looks_items X lT oT (.of_pure e2)
section
variable {X : Cx} {CX : CXT} {k n : Nat} {f : Addr} {fd : FuncData} {ps ks : List Str} {sp : Sp} {mid post : List V} {E : L2.St → XK} {x : Str} {p pos : Pos} {e : Expr} {es : List Expr} {kws : List Keyword} {t tk : TA}
theorem pe_clM (F : FnG X.prog X.w X.K X.mg X.base CX k f fd ps sp) (hr : Room k X.A) (hG : X.A.guards = some []) (hg : Gl X x) (hm : X.mg x = some (.ref f)) (hk : PySem.W.keepIn X.K (.ref f) = true) (hb : KBm X.K fd ps n ks mid post) (hx : ∀ σ, PassesAt CX X σ (E σ))
    (ha : PA X (e :: es) t) (hkw : PK X kws tk) (hall : (backToKw pos (keywordEach kws X.env)).all (·.1.isSome) = true := by rfl) (hks : (backToKw pos (keywordEach kws X.env)).filterMap (·.1) = ks := by rfl)
    (hdb : (x == ("__debug__" : Str)) = false := by decide) (he : starEach (e :: es) X.env = (false, eval e X.env) :: starEach es X.env := by rfl)
    (hpl : ((backTo pos (starEach (e :: es) X.env)).any (·.1) || (backToKw pos (keywordEach kws X.env)).any (·.1.isNone)) = false := by rfl) :
    PE X (.Call (.Name x p) (e :: es) kws pos) (tClM n ks.length mid post sp E t tk) := by
  obtain ⟨u0, u1, hb⟩ := hb
  refine ⟨fun pins s σ H Q I h => ?_⟩
  refine wpAny_Call_Name_kw (ld_glob I hg hm ?_ hdb)
  refine PySem.W.callWith_KW (h₀ := X.base) I.ok.mod.kin hk hall (thn (ha.run pos pins s σ H _ I h) fun us s1 ⟨vs, H1, I1, r, q⟩ => ?_) hpl he
  refine thn (hkw.run pos pins s1 σ H1 _ I1 q) fun ws s2 ⟨zs, H2, I2, rz, l1, l2, q2⟩ => ⟨I2.kIn, ?_⟩
  rw [hks]
  have r2 := hb.rel r rz
  apply wpAny_call
  apply codeAny_mono (F.go X.A X.stack s2 H2 ⟨us, ks.zip ws⟩ _ _ Q (E σ) hr hG I2.env0 (hb.to s2 us ws I2.kIn (r.length.symm.trans l1) (rz.length.symm.trans l2)) r2 q2)
  intro res s' hq
  match res, hq with
  | .error e, hq => exact hx σ pins H2 s2 e s' I2 hq
  | .ok (.ret u), hq => exact I2.after hq
end
section
variable {G : KC} {Θ : List Md} {E : EK} {tr tk : TA} {ms ns m0 m1 : List Md} {rt : T} {sf : List D → Ou D} {pf pg : Env → Rs (List D)} {n m : Nat} {mid post : List V} {d0 d1 : List D}
theorem en_clM (ha : EvM G Θ E ms tr pf) (hk : EvM G Θ E ns tk pg) (h0 : DvR G m0 mid d0) (h1' : DvR G m1 post d1) (h1 : ms.length = n) (h2 : ns.length = m) (hn : noOwn (ms ++ (m0 ++ (ns ++ m1))) = true) : EvN G Θ E rt (tClM n m mid post (spF G (ms ++ (m0 ++ (ns ++ m1))) rt sf) E tr tk) (pCall [] sf (pApp pf (pApp (fun _ => .ok d0) (pApp pg (fun _ => .ok d1))))) := fun O U H σ Γ a Q q => by
  have e : pCall [] sf (pApp pf (pApp (fun _ => .ok d0) (pApp pg (fun _ => .ok d1)))) Γ = (pf Γ).bind fun x => (pg Γ).bind fun y => (sf (x ++ (d0 ++ (y ++ d1)) ++ [])).rs := by
    unfold pCall pApp
    cases pf Γ with
    | ok x => cases pg Γ <;> rfl
    | ex c fs => rfl
    | no => rfl
  rw [e] at q
  exact ha O U H σ Γ a _ (q.bind fun x v U1 H1 g1 r1 q => hk O U1 H1 σ Γ (a.grow g1) _ (q.bind fun y w U2 H2 g2 r2 q => by
    have r1' : RLm G (Fz O U1) U1 ms v x := r1
    have r2' : RLm G (Fz O U2) U2 ns w y := r2
    rw [List.append_nil] at q
    exact ⟨r1'.len.trans h1, r2'.len.trans h2, call_pure hn ((a.grow g1).grow g2).g ((r1'.mono (fz_mono g2.f) g2.f).append ((h0.r _ _).append (r2'.append (h1'.r _ _)))) q⟩))
end
theorem vw_okL {QL : List D → Prop} {X : XR0} {ds : List D} {Γ : Env} : vR (P := ⟨QL, X⟩) ((fun _ => Rs.ok ds : Env → Rs (List D)) Γ) ↔ QL ds := by
  simp only [vR_iff]
  exact Iff.rfl
end Y

namespace Y
open PySem PySem.Spec PyProof.Rows L2 Z

def topS (i : Nat) : Stmt := PySem.Challenge.pw_stacksaw_k02_numbers_and_words.main.body.getD i (.Pass ⟨0, 0, 0, 0⟩)
abbrev st_is_digits : Stmt := topS 4
theorem sc_is_digits : FnScope ["text", "sign"] ["text"] (defScope st_is_digits) := ⟨rfl, rfl, rfl, by decide +kernel, rfl, by decide +kernel, by decide +kernel⟩
abbrev st_words_of : Stmt := topS 6
theorem sc_words_of : FnScope ["text", "words"] ["text"] (defScope st_words_of) := ⟨rfl, rfl, rfl, by decide +kernel, rfl, by decide +kernel, by decide +kernel⟩
abbrev st__law_cell : Stmt := topS 8
theorem sc__law_cell : FnScope ["script", "k"] ["script", "k"] (defScope st__law_cell) := ⟨rfl, rfl, rfl, by decide +kernel, rfl, by decide +kernel, by decide +kernel⟩
abbrev st__law_box : Stmt := topS 9
theorem sc__law_box : FnScope ["cell"] ["cell"] (defScope st__law_box) := ⟨rfl, rfl, rfl, by decide +kernel, rfl, by decide +kernel, by decide +kernel⟩
abbrev st__law_take : Stmt := topS 10
theorem sc__law_take : FnScope ["box", "many", "digit", "one", "two"] ["box", "many"] (defScope st__law_take) := ⟨rfl, rfl, rfl, by decide +kernel, rfl, by decide +kernel, by decide +kernel⟩
abbrev st__law_equal : Stmt := topS 11
theorem sc__law_equal : FnScope ["result", "expected"] ["result", "expected"] (defScope st__law_equal) := ⟨rfl, rfl, rfl, by decide +kernel, rfl, by decide +kernel, by decide +kernel⟩
abbrev st__law_number_expected : Stmt := topS 13
theorem sc__law_number_expected : FnScope ["text", "floor", "top", "number", "sign"] ["text", "floor", "top"] (defScope st__law_number_expected) := ⟨rfl, rfl, rfl, by decide +kernel, rfl, by decide +kernel, by decide +kernel⟩
abbrev st__law_words_expected : Stmt := topS 14
theorem sc__law_words_expected : FnScope ["text", "words", "word", "sign"] ["text"] (defScope st__law_words_expected) := ⟨rfl, rfl, rfl, by decide +kernel, rfl, by decide +kernel, by decide +kernel⟩
abbrev st_read_number : Stmt := topS 5
theorem sc_read_number : FnScope ["text", "low", "high", "number"] ["text", "low", "high"] (defScope st_read_number) := ⟨rfl, rfl, rfl, by decide +kernel, rfl, by decide +kernel, by decide +kernel⟩
abbrev st__law_any_value : Stmt := topS 12
theorem sc__law_any_value : FnScope ["box", "some"] ["box"] (defScope st__law_any_value) := ⟨rfl, rfl, rfl, by decide +kernel, rfl, by decide +kernel, by decide +kernel⟩
abbrev st__law_numbers_right : Stmt := topS 15
theorem sc__law_numbers_right : FnScope ["text", "least", "most", "result", "expected"] ["text", "least", "most"] (defScope st__law_numbers_right) := ⟨rfl, rfl, rfl, by decide +kernel, rfl, by decide +kernel, by decide +kernel⟩
abbrev st_law : Stmt := topS 16
theorem sc_law : FnScope ["script", "k", "box", "number", "text", "at", "some", "least", "most", "value", "signs", "words", "turn", "line", "bad"] ["script"] (defScope st_law) := ⟨rfl, rfl, rfl, by decide +kernel, rfl, by decide +kernel, by decide +kernel⟩
structure Tx (G : KC) (mg : Str → Option Value) where
  hk : KOk G
  a_is_digits : Addr
  d_is_digits : FuncData
  F_is_digits : Fun G.K "is_digits" "is_digits" st_is_digits a_is_digits d_is_digits
  b_is_digits : Binds G.K d_is_digits ["text"] []
  m_is_digits : mg "is_digits" = some (.ref a_is_digits)
  a_words_of : Addr
  d_words_of : FuncData
  F_words_of : Fun G.K "words_of" "words_of" st_words_of a_words_of d_words_of
  b_words_of : Binds G.K d_words_of ["text"] []
  m_words_of : mg "words_of" = some (.ref a_words_of)
  a__law_cell : Addr
  d__law_cell : FuncData
  F__law_cell : Fun G.K "_law_cell" "_law_cell" st__law_cell a__law_cell d__law_cell
  b__law_cell : Binds G.K d__law_cell ["script", "k"] []
  m__law_cell : mg "_law_cell" = some (.ref a__law_cell)
  a__law_box : Addr
  d__law_box : FuncData
  F__law_box : Fun G.K "_law_box" "_law_box" st__law_box a__law_box d__law_box
  b__law_box : Binds G.K d__law_box ["cell"] []
  m__law_box : mg "_law_box" = some (.ref a__law_box)
  a__law_take : Addr
  d__law_take : FuncData
  F__law_take : Fun G.K "_law_take" "_law_take" st__law_take a__law_take d__law_take
  b__law_take : Binds G.K d__law_take ["box", "many"] []
  m__law_take : mg "_law_take" = some (.ref a__law_take)
  a__law_equal : Addr
  d__law_equal : FuncData
  F__law_equal : Fun G.K "_law_equal" "_law_equal" st__law_equal a__law_equal d__law_equal
  b__law_equal : Binds G.K d__law_equal ["result", "expected"] []
  m__law_equal : mg "_law_equal" = some (.ref a__law_equal)
  a__law_number_expected : Addr
  d__law_number_expected : FuncData
  F__law_number_expected : Fun G.K "_law_number_expected" "_law_number_expected" st__law_number_expected a__law_number_expected d__law_number_expected
  b__law_number_expected : Binds G.K d__law_number_expected ["text", "floor", "top"] []
  m__law_number_expected : mg "_law_number_expected" = some (.ref a__law_number_expected)
  a__law_words_expected : Addr
  d__law_words_expected : FuncData
  F__law_words_expected : Fun G.K "_law_words_expected" "_law_words_expected" st__law_words_expected a__law_words_expected d__law_words_expected
  b__law_words_expected : Binds G.K d__law_words_expected ["text"] []
  m__law_words_expected : mg "_law_words_expected" = some (.ref a__law_words_expected)
  a_read_number : Addr
  d_read_number : FuncData
  F_read_number : FunD G.K "read_number" "read_number" (defArgs st_read_number) (defBody st_read_number) (defScope st_read_number) [.int 0, .int 1000000] [] a_read_number d_read_number
  b_read_number : Binds G.K d_read_number ["text", "low", "high"] []
  bd_read_number_1 : ∃ ds, Vals [.int 0, .int 1000000] ds ∧ Binds G.K d_read_number ["text", "low", "high"] ds
  bd_read_number_2 : ∃ ds, Vals [.int 1000000] ds ∧ Binds G.K d_read_number ["text", "low", "high"] ds
  km_read_number_high : KBm G.K d_read_number ["text", "low", "high"] 1 ["high"] [.int 0] []
  km_read_number_low : KBm G.K d_read_number ["text", "low", "high"] 1 ["low"] [] [.int 1000000]
  m_read_number : mg "read_number" = some (.ref a_read_number)
  a__law_any_value : Addr
  d__law_any_value : FuncData
  F__law_any_value : Fun G.K "_law_any_value" "_law_any_value" st__law_any_value a__law_any_value d__law_any_value
  b__law_any_value : Binds G.K d__law_any_value ["box"] []
  m__law_any_value : mg "_law_any_value" = some (.ref a__law_any_value)
  a__law_numbers_right : Addr
  d__law_numbers_right : FuncData
  F__law_numbers_right : Fun G.K "_law_numbers_right" "_law_numbers_right" st__law_numbers_right a__law_numbers_right d__law_numbers_right
  b__law_numbers_right : Binds G.K d__law_numbers_right ["text", "least", "most"] []
  m__law_numbers_right : mg "_law_numbers_right" = some (.ref a__law_numbers_right)
  a_law : Addr
  d_law : FuncData
  F_law : Fun G.K "law" "law" st_law a_law d_law
  b_law : Binds G.K d_law ["script"] []
  m_law : mg "law" = some (.ref a_law)
  n_all : mg "all" = none
  n_int : mg "int" = none
  n_isinstance : mg "isinstance" = none
  n_len : mg "len" = none
  n_max : mg "max" = none
  n_min : mg "min" = none
  n_range : mg "range" = none
  n_repr : mg "repr" = none
  n_str : mg "str" = none
  c_BLANK : ∃ t, mg "BLANK" = some (.str " " t)
  c_DIGITS : ∃ t, mg "DIGITS" = some (.str "0123456789" t)
  c_LINE_FEED : ∃ t, mg "LINE_FEED" = some (.str "\n" t)
abbrev th_is_digits : List Md := [(.bor .fz), (.bor .fz)]
def b_is_digits : Env → So :=
      (sRet (pE (pAnd (pOp opGt (pArg opLen (pCons (pVar 0) pNil)) (pC (.int 0))) (pArg opAll (pCons (pLc (pSeq (pVar 0)) (tgN 1) bYes (pOp opInX (pVar 1) (pC (.str "0123456789"))) [1]) pNil)))))
def s_is_digits : List D → Ou D := fun ds => fnO [(.bor .fz)] (b_is_digits (envE 2 ds))
theorem e_is_digits (x0 : D) : s_is_digits [x0] = fnO [(.bor .fz)] (b_is_digits [some x0, none]) := rfl
abbrev th_words_of : List Md := [(.bor .fz), (.bor .fz)]
def b_words_of : Env → So :=
      (sSeq (sIf (pE (bOr (bNot (pTst (pUn (opIsi [.ty .str]) (pVar 0)))) (pTst (pOp opInX (pC (.str "\n")) (pVar 0))))) (sRet (pE (pC .non))) sNext) 
      (sSeq (sAsg 1 (pE (pOp opSplit (pUn opStr (pVar 0)) (pC (.str " "))))) 
      (sRet (pE (pIf (pTst (pOp opInX (pC (.str "")) (pVar 1))) (pC .non) (pVar 1))))))
def s_words_of : List D → Ou D := fun ds => fnO [(.bor .fz)] (b_words_of (envE 2 ds))
theorem e_words_of (x0 : D) : s_words_of [x0] = fnO [(.bor .fz)] (b_words_of [some x0, none]) := rfl
abbrev th__law_cell : List Md := [.scr, (.bor .fz)]
def b__law_cell : Env → So :=
      (sSeq (sIf (pE (pTst (pOp opLt (pVar 1) (pArg opLen (pCons (pVar 0) pNil))))) (sRet (pE (pOp opIx (pVar 0) (pVar 1)))) sNext) 
      (sRet (pE (pOp opAdd (pOp opMul (pC (.int 49979687)) (pVar 1)) (pC (.int 17))))))
def s__law_cell : List D → Ou D := fun ds => fnO [.scr, (.bor .fz)] (b__law_cell (envE 2 ds))
theorem e__law_cell (x0 : D) (x1 : D) : s__law_cell [x0, x1] = fnO [.scr, (.bor .fz)] (b__law_cell [some x0, some x1]) := rfl
abbrev th__law_box : List Md := [(.bor .fz)]
def b__law_box : Env → So :=
      (sRet (pE (pArg opLst (pCons (pArg opMax2 (pCons (pC (.int 0)) (pCons (pOp opSub (pVar 0) (pOp opPow (pC (.int 10)) (pC (.int 18)))) pNil))) (pCons (pOp opMod (pVar 0) (pC (.int 2147483629))) (pCons (pC (.int 0)) pNil))))))
def s__law_box : List D → Ou D := fun ds => fnO [(.bor .fz)] (b__law_box (envE 1 ds))
theorem e__law_box (x0 : D) : s__law_box [x0] = fnO [(.bor .fz)] (b__law_box [some x0]) := rfl
abbrev th__law_take : List Md := [(.own (.lst .fz)), (.bor .fz), (.bor .fz), (.bor .fz), (.bor .fz)]
def b__law_take : Env → So :=
      (sSeq (sIf (pE (pTst (pOp opGt (pOp opIx (pVar 0) (pC (.int 0))) (pC (.int 0))))) (sSeq (sAsg 2 (pE (pOp opMod (pOp opIx (pVar 0) (pC (.int 0))) (pVar 1)))) 
      (sSeq (sSetI 0 (pE (pC (.int 0))) (pE (pOp opDiv (pOp opIx (pVar 0) (pC (.int 0))) (pVar 1)))) 
      (sRet (pE (pVar 2))))) sNext) 
      (sSeq (sSetI 0 (pE (pC (.int 2))) (pE (pOp opAdd (pOp opIx (pVar 0) (pC (.int 2))) (pC (.int 1))))) 
      (sSeq (sAsg 3 (pE (pOp opMod (pOp opPow (pOp opAdd (pOp opAdd (pOp opIx (pVar 0) (pC (.int 1))) (pOp opMul (pC (.int 7919)) (pOp opIx (pVar 0) (pC (.int 2))))) (pC (.int 17))) (pC (.int 5))) (pC (.int 2147483647))))) 
      (sSeq (sAsg 4 (pE (pOp opMod (pOp opPow (pOp opAdd (pOp opAdd (pOp opDiv (pVar 3) (pC (.int 8))) (pOp opMul (pOp opMul (pC (.int 104729)) (pOp opIx (pVar 0) (pC (.int 2)))) (pOp opIx (pVar 0) (pC (.int 2))))) (pC (.int 11))) (pC (.int 3))) (pC (.int 2147483587))))) 
      (sRet (pE (pOp opMod (pOp opAdd (pOp opDiv (pVar 3) (pC (.int 4))) (pOp opMul (pC (.int 536870909)) (pOp opDiv (pVar 4) (pC (.int 4))))) (pVar 1))))))))
def s__law_take : List D → Ou D := fun ds => fnO [(.own (.lst .fz)), (.bor .fz)] (b__law_take (envE 5 ds))
theorem e__law_take (x0 : D) (x1 : D) : s__law_take [x0, x1] = fnO [(.own (.lst .fz)), (.bor .fz)] (b__law_take [some x0, some x1, none, none, none]) := rfl
abbrev th__law_equal : List Md := [(.bor (.lst .fz)), (.bor .fz)]
def b__law_equal : Env → So :=
      (sRet (pE (pAnd (pOp opEq (pVar 0) (pVar 1)) (pOp opEq (pArg opRepr (pCons (pVar 0) pNil)) (pArg opRepr (pCons (pVar 1) pNil))))))
def s__law_equal : List D → Ou D := fun ds => fnO [(.bor (.lst .fz)), (.bor .fz)] (b__law_equal (envE 2 ds))
theorem e__law_equal (x0 : D) (x1 : D) : s__law_equal [x0, x1] = fnO [(.bor (.lst .fz)), (.bor .fz)] (b__law_equal [some x0, some x1]) := rfl
abbrev th__law_number_expected : List Md := [(.bor .fz), (.bor .fz), (.bor .fz), (.bor .fz), (.bor .fz)]
def b__law_number_expected : Env → So :=
      (sSeq (sIf (pE (bOr (bNot (pTst (pUn (opIsi [.ty .str]) (pVar 0)))) (bOr (pTst (pOp opEq (pVar 0) (pC (.str "")))) (pTst (pOp opGt (pArg opLen (pCons (pVar 0) pNil)) (pC (.int 40))))))) (sRet (pE (pC .non))) sNext) 
      (sSeq (sAsg 3 (pE (pC (.int 0)))) 
      (sSeq (sFor (pI th__law_number_expected (pSeq (pVar 0))) (tgN 4) (sSeq (sIf (pE (pTst (pOp opNotIn (pVar 4) (pC (.str "0123456789"))))) (sRet (pE (pC .non))) sNext) 
      (sAsg 3 (pE (pOp opAdd (pOp opMul (pC (.int 10)) (pVar 3)) (pOp opSIx (pUn opStr (pC (.str "0123456789"))) (pVar 4))))))) 
      (sSeq (sIf (pE (bAnd (pTst (pOp opEq (pOp opIx (pVar 0) (pC (.int 0))) (pC (.str "0")))) (pTst (pOp opNe (pVar 0) (pC (.str "0")))))) (sRet (pE (pC .non))) sNext) 
      (sRet (pE (pIf (pTst (pChain opLe opLe (pVar 1) (pVar 3) (pVar 2))) (pVar 3) (pC .non))))))))
def s__law_number_expected : List D → Ou D := fun ds => fnO [(.bor .fz), (.bor .fz), (.bor .fz)] (b__law_number_expected (envE 5 ds))
theorem e__law_number_expected (x0 : D) (x1 : D) (x2 : D) : s__law_number_expected [x0, x1, x2] = fnO [(.bor .fz), (.bor .fz), (.bor .fz)] (b__law_number_expected [some x0, some x1, some x2, none, none]) := rfl
abbrev th__law_words_expected : List Md := [(.bor .fz), (.own (.lst .fz)), (.bor .fz), (.bor .fz)]
def b__law_words_expected : Env → So :=
      (sSeq (sIf (pE (bNot (pTst (pUn (opIsi [.ty .str]) (pVar 0))))) (sRet (pE (pC .non))) sNext) 
      (sSeq (sPar 1 2 (pE (pArg opLst pNil)) (pE (pC (.str "")))) 
      (sSeq (sFor (pI th__law_words_expected (pSeq (pOp opAdd (pVar 0) (pC (.str " "))))) (tgN 3) (sSeq (sIf (pE (bOr (pTst (pOp opEq (pVar 3) (pC (.str "\n")))) (bAnd (pTst (pOp opEq (pVar 3) (pC (.str " ")))) (pTst (pOp opEq (pVar 2) (pC (.str ""))))))) (sRet (pE (pC .non))) sNext) 
      (sIf (pE (pTst (pOp opEq (pVar 3) (pC (.str " "))))) (sSeq (sApp 1 (pE (pVar 2))) 
      (sAsg 2 (pE (pC (.str ""))))) (sAsg 2 (pE (pOp opAdd (pVar 2) (pVar 3))))))) 
      (sRet (eTake 1)))))
def s__law_words_expected : List D → Ou D := fun ds => fnO [(.bor .fz)] (b__law_words_expected (envE 4 ds))
theorem e__law_words_expected (x0 : D) : s__law_words_expected [x0] = fnO [(.bor .fz)] (b__law_words_expected [some x0, none, none, none]) := rfl
abbrev th_read_number : List Md := [(.bor .fz), (.bor .fz), (.bor .fz), (.bor .fz)]
def b_read_number : Env → So :=
      (sSeq (sIf (pE (bOr (bNot (pTst (pUn (opIsi [.ty .str]) (pVar 0)))) (bNot (pTst (pChain opLe opLe (pC (.int 1)) (pArg opLen (pCons (pVar 0) pNil)) (pC (.int 40))))))) (sRet (pE (pC .non))) sNext) 
      (sSeq (sIf (pE (bOr (bNot (pTst (pCall [] s_is_digits (pCons (pVar 0) pNil)))) (bAnd (pTst (pOp opEq (pOp opIx (pVar 0) (pC (.int 0))) (pC (.str "0")))) (pTst (pOp opGt (pArg opLen (pCons (pVar 0) pNil)) (pC (.int 1))))))) (sRet (pE (pC .non))) sNext) 
      (sSeq (sAsg 3 (pE (pArg opInt (pCons (pVar 0) pNil)))) 
      (sRet (pE (pIf (pTst (pChain opLe opLe (pVar 1) (pVar 3) (pVar 2))) (pVar 3) (pC .non)))))))
def s_read_number : List D → Ou D := fun ds => fnO [(.bor .fz), (.bor .fz), (.bor .fz)] (b_read_number (envE 4 ds))
theorem e_read_number (x0 : D) (x1 : D) (x2 : D) : s_read_number [x0, x1, x2] = fnO [(.bor .fz), (.bor .fz), (.bor .fz)] (b_read_number [some x0, some x1, some x2, none]) := rfl
abbrev th__law_any_value : List Md := [(.own (.lst .fz)), (.bor .fz)]
def b__law_any_value : Env → So :=
      (sSeq (sAsg 1 (pE (pArg opLst (pCons (pC .non) (pCons (pC (.bl true)) (pCons (pC (.bl false)) (pCons (pC (.int 0)) (pCons (pUn opNeg (pC (.int 1))) (pCons (pC (.int 1)) (pCons (pC (.int 51)) (pCons (pC (.int 101)) (pCons (pC (.int 301)) (pCons (pOp opPow (pC (.int 10)) (pC (.int 39))) (pCons (pOp opSub (pC (.int 0)) (pOp opPow (pC (.int 10)) (pC (.int 39)))) (pCons (pC (.str "")) (pCons (pC (.str "rail")) (pCons (pC (.str "Rail")) (pCons (pC (.str "rail 9 9")) (pCons (pC (.str "ok")) (pCons (pC (.str "7")) pNil)))))))))))))))))))) 
      (sSeq (sAsg 1 (pE (pOp opAdd (pVar 1) (pArg opLst (pCons (pArg opLst pNil) (pCons (pArg opLst (pCons (pC (.int 1)) pNil)) (pCons (pArg opLst (pCons (pArg opLst (pCons (pC (.int 1)) pNil)) pNil)) (pCons (pArg opLst (pCons (pC (.int 0)) pNil)) (pCons (pArg opLst (pCons (pC (.bl true)) pNil)) (pCons (pArg opLst (pCons (pArg opTup (pCons (pC (.str "rail")) (pCons (pC (.int 1)) pNil))) pNil)) (pCons (pArg opLst (pCons (pArg opLst (pCons (pArg opTup (pCons (pC (.str "rail")) (pCons (pC (.int 1)) pNil))) pNil)) pNil)) (pCons (pArg opLst (pCons (pC .non) pNil)) (pCons (pArg opTup pNil) (pCons (pArg opTup (pCons (pC (.int 1)) pNil)) (pCons (pArg opTup (pCons (pC (.str "rail")) (pCons (pC (.int 1)) pNil))) (pCons (pArg opTup (pCons (pC (.str "can")) (pCons (pC (.int 1)) pNil))) pNil)))))))))))))))) 
      (sSeq (sAsg 1 (pE (pOp opAdd (pVar 1) (pArg opLst (pCons (pArg opTup (pCons (pC (.str "rail")) pNil)) (pCons (pArg opTup (pCons (pArg opTup pNil) pNil)) (pCons (pC (.dic [])) (pCons (pDic1 (.inr "rail") (pC (.int 1))) (pCons (pDic1 (.inl 3) (pArg opLst pNil)) (pCons (pOp opMul (pC (.str "a")) (pC (.int 9))) (pCons (pC (.str "rail:1")) (pCons (pArg opLst (pCons (pC (.int 100001)) pNil)) (pCons (pArg opTup (pCons (pC (.str "rail")) (pCons (pC (.int 1)) (pCons (pArg opLst (pCons (pC (.int 2)) pNil)) pNil)))) pNil))))))))))))) 
      (sRet (eOp opIx (pE (pVar 1)) (eCall [.own 0, .fz] [] s__law_take (xSlot 0 (eCons (pE (pArg opLen (pCons (pVar 1) pNil))) xNil))))))))
def s__law_any_value : List D → Ou D := fun ds => fnO [(.own (.lst .fz))] (b__law_any_value (envE 2 ds))
theorem e__law_any_value (x0 : D) : s__law_any_value [x0] = fnO [(.own (.lst .fz))] (b__law_any_value [some x0, none]) := rfl
abbrev th__law_numbers_right : List Md := [(.bor .fz), (.bor .fz), (.bor .fz), (.own (.lst .fz)), (.bor .fz)]
def b__law_numbers_right : Env → So :=
      (sSeq (sAsg 3 (pE (pArg opLst (pCons (pCall [.int 0, .int 1000000] s_read_number (pCons (pVar 0) pNil)) (pCons (pCall [.int 1000000] s_read_number (pCons (pVar 0) (pCons (pVar 1) pNil))) (pCons (pCall [] s_read_number (pCons (pVar 0) (pCons (pVar 1) (pCons (pVar 2) pNil)))) (pCons (pCall [] s_read_number (pApp (pCons (pVar 0) pNil) (pApp (fun _ => .ok [.int 0]) (pApp (pCons (pVar 2) pNil) (fun _ => .ok []))))) pNil))))))) 
      (sSeq (sApp 3 (pE (pCall [] s_read_number (pApp (pCons (pVar 0) pNil) (pApp (fun _ => .ok []) (pApp (pCons (pVar 1) pNil) (fun _ => .ok [.int 1000000]))))))) 
      (sSeq (sAsg 4 (pE (pArg opLst (pCons (pCall [] s__law_number_expected (pCons (pVar 0) (pCons (pC (.int 0)) (pCons (pC (.int 1000000)) pNil)))) (pCons (pCall [] s__law_number_expected (pCons (pVar 0) (pCons (pVar 1) (pCons (pC (.int 1000000)) pNil)))) (pCons (pCall [] s__law_number_expected (pCons (pVar 0) (pCons (pVar 1) (pCons (pVar 2) pNil)))) pNil)))))) 
      (sSeq (sAsg 4 (pE (pOp opAdd (pVar 4) (pArg opLst (pCons (pCall [] s__law_number_expected (pCons (pVar 0) (pCons (pC (.int 0)) (pCons (pVar 2) pNil)))) (pCons (pCall [] s__law_number_expected (pCons (pVar 0) (pCons (pVar 1) (pCons (pC (.int 1000000)) pNil)))) pNil)))))) 
      (sRet (pE (pCall [] s__law_equal (pCons (pVar 3) (pCons (pVar 4) pNil)))))))))
def s__law_numbers_right : List D → Ou D := fun ds => fnO [(.bor .fz), (.bor .fz), (.bor .fz)] (b__law_numbers_right (envE 5 ds))
theorem e__law_numbers_right (x0 : D) (x1 : D) (x2 : D) : s__law_numbers_right [x0, x1, x2] = fnO [(.bor .fz), (.bor .fz), (.bor .fz)] (b__law_numbers_right [some x0, some x1, some x2, none, none]) := rfl
abbrev th_law : List Md := [.scr, (.bor .fz), (.own (.lst .fz)), (.bor .fz), (.bor .fz), (.bor .fz), (.bor .fz), (.bor .fz), (.bor .fz), (.bor .fz), (.bor .fz), (.own (.lst .fz)), (.bor .fz), (.bor .fz), (.bor .fz)]
def b_law : Env → So :=
      (sSeq (sFor (pI th_law (pIt itRange (pCons (pArg opMax2 (pCons (pC (.int 2)) (pCons (pArg opMin2 (pCons (pC (.int 20)) (pCons (pArg opLen (pCons (pVar 0) pNil)) pNil))) pNil))) pNil))) (tgN 1) (sSeq (sAsg 2 (pE (pCall [] s__law_box (pCons (pCall [] s__law_cell (pCons (pVar 0) (pCons (pVar 1) pNil))) pNil)))) 
      (sSeq (sAsg 3 (eOp opIx (eArg opLst (eCons (eCall [.own 2, .fz] [] s__law_take (xSlot 2 (eCons (pE (pC (.int 20))) xNil))) (eCons (eOp opAdd (pE (pOp opSub (pC (.int 1000000)) (pC (.int 2)))) (eCall [.own 2, .fz] [] s__law_take (xSlot 2 (eCons (pE (pC (.int 5))) xNil)))) (eCons (eCall [.own 2, .fz] [] s__law_take (xSlot 2 (eCons (pE (pOp opPow (pC (.int 10)) (pC (.int 30)))) xNil))) (eCons (pE (pOp opSub (pOp opPow (pC (.int 10)) (pC (.int 40))) (pC (.int 3)))) (pE pNil)))))) (eCall [.own 2, .fz] [] s__law_take (xSlot 2 (eCons (pE (pC (.int 4))) xNil))))) 
      (sSeq (sPar 4 5 (pE (pArg opStrN (pCons (pVar 3) pNil))) (eCall [.own 2, .fz] [] s__law_take (xSlot 2 (eCons (pE (pOp opAdd (pArg opLen (pCons (pArg opStrN (pCons (pVar 3) pNil)) pNil)) (pC (.int 1)))) xNil)))) 
      (sSeq (sAsg 6 (pE (pArg opLst (pCons (pVar 4) (pCons (pOp opAdd (pC (.str "0")) (pVar 4)) (pCons (pOp opAdd (pC (.str " ")) (pVar 4)) (pCons (pOp opAdd (pVar 4) (pC (.str " "))) (pCons (pOp opAdd (pC (.str "-")) (pVar 4)) (pCons (pOp opAdd (pC (.str "+")) (pVar 4)) (pCons (pOp opAdd (pOp opAdd (pSl (pVar 4) pNone (pSome (pVar 5))) (pC (.str "_"))) (pSl (pVar 4) (pSome (pVar 5)) pNone)) (pCons (pSl (pVar 4) pNone (pSome (pVar 5))) pNil))))))))))) 
      (sSeq (sAsg 6 (eOp opAdd (pE (pVar 6)) (eArg opLst (eCons (pE (pOp opAdd (pOp opAdd (pSl (pVar 4) pNone (pSome (pVar 5))) (pC (.str "x"))) (pSl (pVar 4) (pSome (pVar 5)) pNone))) (eCons (pE (pOp opAdd (pVar 4) (pC (.str "\n")))) (eCons (pE (pC (.str ""))) (eCons (pE (pC (.str "0"))) (eCons (pE (pC (.str "00"))) (eCons (pE (pOp opAdd (pVar 4) (pC (.str ".0")))) (eCons (pE (pVar 3)) (eCons (pE (pOp opMul (pC (.str "9")) (pC (.int 41)))) (eCons (eCall [.own 2] [] s__law_any_value (xSlot 2 xNil)) (pE pNil))))))))))))) 
      (sSeq (sPar 7 8 (eOp opAdd (pE (pOp opSub (pVar 3) (pC (.int 1)))) (eCall [.own 2, .fz] [] s__law_take (xSlot 2 (eCons (pE (pC (.int 3))) xNil)))) (eOp opAdd (pE (pOp opSub (pVar 3) (pC (.int 1)))) (eCall [.own 2, .fz] [] s__law_take (xSlot 2 (eCons (pE (pC (.int 3))) xNil))))) 
      (sSeq (sFor (pI th_law (pSeq (pVar 6))) (tgN 9) (sIf (pE (bOr (bNot (pTst (pCall [] s__law_numbers_right (pCons (pVar 9) (pCons (pVar 7) (pCons (pVar 8) pNil)))))) (bNot (pTst (pCall [] s__law_numbers_right (pCons (pVar 9) (pCons (pC (.int 0)) (pCons (pOp opSub (pOp opPow (pC (.int 10)) (pC (.int 40))) (pC (.int 1))) pNil)))))))) (sRet (pE (pC (.bl false)))) sNext)) 
      (sSeq (sAsg 10 (pE (pC (.str "abyzAB019:-/.,~!")))) 
      (sSeq (sAsg 11 (pE (pArg opLst pNil))) 
      (sSeq (sFor (eIt (fun ds => if ds.length = 1 then itRange ds else .no) (eCons (eOp opAdd (pE (pC (.int 1))) (eCall [.own 2, .fz] [] s__law_take (xSlot 2 (eCons (pE (pC (.int 5))) xNil)))) (pE pNil))) (tgN 12) (sApp 11 (eOp opJoin (eUn opStr (pE (pC (.str "")))) (eLc (eIt (fun ds => if ds.length = 1 then itRange ds else .no) (eCons (eOp opAdd (pE (pC (.int 1))) (eCall [.own 2, .fz] [] s__law_take (xSlot 2 (eCons (pE (pC (.int 4))) xNil)))) (pE pNil))) (tgN 5) (pE bYes) (eOp opIx (pE (pVar 10)) (eCall [.own 2, .fz] [] s__law_take (xSlot 2 (eCons (pE (pC (.int 16))) xNil)))) [5])))) 
      (sSeq (sPar 13 14 (pE (pOp opJoin (pUn opStr (pC (.str " "))) (pVar 11))) (eOp opIx (pE (pArg opLst (pCons (pC (.str "  ")) (pCons (pC (.str "\n")) (pCons (pC (.str " \n")) (pCons (pC (.str "")) pNil)))))) (eCall [.own 2, .fz] [] s__law_take (xSlot 2 (eCons (pE (pC (.int 4))) xNil))))) 
      (sFor (eSeq (eArg opLst (eCons (pE (pVar 13)) (eCons (pE (pOp opAdd (pVar 13) (pC (.str " ")))) (eCons (pE (pOp opAdd (pC (.str " ")) (pVar 13))) (eCons (pE (pOp opJoin (pUn opStr (pVar 14)) (pVar 11))) (eCons (pE (pOp opAdd (pVar 13) (pVar 14))) (eCons (pE (pC (.str ""))) (eCons (pE (pC (.str " "))) (eCons (eCall [.own 2] [] s__law_any_value (xSlot 2 xNil)) (eCons (eTake 11) (pE pNil)))))))))))) (tgN 9) (sIf (pE (bNot (pTst (pCall [] s__law_equal (pCons (pCall [] s_words_of (pCons (pVar 9) pNil)) (pCons (pCall [] s__law_words_expected (pCons (pVar 9) pNil)) pNil)))))) (sRet (pE (pC (.bl false)))) sNext)))))))))))))) 
      (sRet (pE (pC (.bl true)))))
def s_law : List D → Ou D := fun ds => fnO [.scr] (b_law (envE 15 ds))
theorem e_law (x0 : D) : s_law [x0] = fnO [.scr] (b_law [some x0, none, none, none, none, none, none, none, none, none, none, none, none, none, none]) := rfl
section
variable {P : Program} {w : World} {G : KC} {mg : Str → Option Value} {base : Heap}
set_option maxHeartbeats 4000000 in
theorem ok_is_digits (T : Tx G mg) : FnG P w G.K mg base (L2.CX P w) 1 T.a_is_digits T.d_is_digits ["text"] (spF G [(.bor .fz)] .fz s_is_digits) := by
  refine okG (N := ["text", "sign"]) T.F_is_digits sc_is_digits (fun vs H Q E h => (show vs.length = 1 from len_F h)) (fun cdv A outer s H vs Q E hr hG h => ?_)
  have ev : Es G th_is_digits (fun _ => E) [] .fz _ b_is_digits := (es_ret (ef_p (ev_and (ev_op (ev_cb (ea_cons (ev_bor (i := 0) rfl) ea_nil) (oc_len (t3 := .fz))) ev_int (o2_gt (t3 := .fz))) (ev_cb (ea_cons (ev_new (en_lc (vs := [1]) (ei_seq (ev_bor (i := 0) rfl)) (eg_name (i := 1) (by decide) rfl) eb_yes (ev_op (ev_bor (i := 1) rfl) ev_str (o2_inX (t3 := .fz))))) ea_nil) (oc_all (t3 := .fz))))))
  exact ⟨_, (pss_one (ps_ret (pe_and (pe_cmpR zo_gt (pe_callB (cK (K := G.K) rLenU rfl zc_len) (by rfl) T.n_len (by decide +kernel) (pa_cons (pv 0) pa_nil)) pe_int (nomark _)) (pe_one (pe_callB (cK (K := G.K) rAll rfl (cr_all rfl)) (by rfl) T.n_all (by decide +kernel) (pa_cons (pe_lc (own := [("sign", 1)]) rfl sc_is_digits.nd (pi_seqK (K := G.K) rfl (pv 0)) (blkOk_by (N := ["text", "sign"]) (sc := defScope st_is_digits) (by decide +kernel)) (fun _ _ _ _ _ => (pg_name (i := 1) sc_is_digits.nd rfl (Or.inl rfl))) (fun _ _ _ _ _ => pts_nil) (fun _ _ _ _ _ => (pe_cmpR (oK (K := G.K) rInX rfl (zo_inX (hu65 hr))) (pv 1) (pe_gs (by rfl) T.c_DIGITS) rfl))) pa_nil)))))), fin_F (N := ["text", "sign"]) h rfl rfl (fun _ _ => rfl) (.fz .non) rfl ev⟩

set_option maxHeartbeats 4000000 in
theorem ok_words_of (T : Tx G mg) : FnG P w G.K mg base (L2.CX P w) 1 T.a_words_of T.d_words_of ["text"] (spF G [(.bor .fz)] .fz s_words_of) := by
  refine okG (N := ["text", "words"]) T.F_words_of sc_words_of (fun vs H Q E h => (show vs.length = 1 from len_F h)) (fun cdv A outer s H vs Q E hr hG h => ?_)
  have ev : Es G th_words_of (fun _ => E) [] .fz _ b_words_of := (es_seq (es_if (ef_b (eb_or (eb_not (eb_B (ev_isi T.hk (.ty .str) (ev_bor (i := 0) rfl)))) (eb_test (ev_op ev_str (ev_bor (i := 0) rfl) (o2_inX (t3 := .fz)))))) (es_ret (ef_p ev_non)) es_next) 
      (es_seq (es_asg (i := 1) (t1 := .fz) (by decide) rfl (ef_p (ev_frz (en_m1 (ev_bor (i := 0) rfl) ev_str o2n_split)))) 
      (es_ret (ef_p (ev_if (eb_test (ev_op ev_str (ev_bor (i := 1) rfl) (o2_inX (t3 := .fz)))) ev_non (ev_bor (i := 1) rfl))))))
  exact ⟨_, (pss_cons (ps_if (PW.pt (pw_or (pt_not (pt_val (pe_callB (cK (K := G.K) rIsi rfl call_isi) (by rfl) T.n_isinstance (by decide +kernel) (pa_cons (pv 0) (pa_cons (pe_bltn (v := .ty "str") (by rfl) T.n_str (by decide +kernel) rfl) pa_nil))))) (pw_or1 (pt_cmpR (oK (K := G.K) rInX rfl (zo_inX (hu65 hr))) (pe_gs (by rfl) T.c_LINE_FEED) (pv 0) rfl)))) (pss_one (ps_ret pe_non)) pss_nil) 
      (pss_cons (ps_set (i := 1) sc_words_of.nd rfl (Or.inl rfl) (pe_splitK (pv 0) (pe_gs (by rfl) T.c_BLANK))) 
      (pss_one (ps_ret (pe_ifExp (pt_cmpR (oK (K := G.K) rInX rfl (zo_inX (hu65 hr))) pe_str (pv 1) rfl) pe_non (pv 1)))))), fin_F (N := ["text", "words"]) h rfl rfl (fun _ _ => rfl) (.fz .non) rfl ev⟩

set_option maxHeartbeats 4000000 in
theorem ok__law_cell (T : Tx G mg) : FnG P w G.K mg base (L2.CX P w) 1 T.a__law_cell T.d__law_cell ["script", "k"] (spF G [.scr, (.bor .fz)] .fz s__law_cell) := by
  refine okG (N := ["script", "k"]) T.F__law_cell sc__law_cell (fun vs H Q E h => (show vs.length = 2 from len_F h)) (fun cdv A outer s H vs Q E hr hG h => ?_)
  have ev : Es G th__law_cell (fun _ => E) [] .fz _ b__law_cell := (es_seq (es_if (ef_b (eb_test (ev_op (ev_bor (i := 1) rfl) (ev_lenS (i := 0) rfl) (o2_lt (t3 := .fz))))) (es_ret (ef_p (ev_ixS (i := 0) rfl (ev_bor (i := 1) rfl)))) es_next) 
      (es_ret (ef_p (ev_op (ev_op ev_int (ev_bor (i := 1) rfl) o2_mul) ev_int o2_add))))
  exact ⟨_, (pss_cons (ps_if (pt_cmpR zo_lt (pv 1) (pe_callB (cK (K := G.K) rLenU rfl zc_len) (by rfl) T.n_len (by decide +kernel) (pa_cons (pv 0) pa_nil)) (nomark _)) (pss_one (ps_ret (pe_ix (ixK (K := G.K) rfl (hu1 hr)) (pv 0) (pv 1) (fun _ _ => rfl)))) pss_nil) 
      (pss_one (ps_ret (pe_op (oK (K := G.K) rAddU rfl zo_add) (pe_op zo_mul pe_int (pv 1)) pe_int)))), fin_F (N := ["script", "k"]) h rfl rfl (fun _ _ => rfl) (.fz .non) rfl ev⟩

set_option maxHeartbeats 4000000 in
theorem ok__law_box (T : Tx G mg) : FnG P w G.K mg base (L2.CX P w) 1 T.a__law_box T.d__law_box ["cell"] (spF G [(.bor .fz)] (.lst .fz) s__law_box) := by
  refine okG (N := ["cell"]) T.F__law_box sc__law_box (fun vs H Q E h => (show vs.length = 1 from len_F h)) (fun cdv A outer s H vs Q E hr hG h => ?_)
  have ev : Es G th__law_box (fun _ => E) [] (.lst .fz) _ b__law_box := (es_ret (ef_n (en_lst (ea_cons (ev_cb (ea_cons ev_int (ea_cons (ev_op (ev_bor (i := 0) rfl) (ev_op ev_int ev_int (o2_pow (t3 := .fz))) (o2_sub (t3 := .fz))) ea_nil)) (oc_max2 (t3 := .fz))) (ea_cons (ev_op (ev_bor (i := 0) rfl) ev_int (o2_mod (t3 := .fz))) (ea_cons ev_int ea_nil))) rfl)))
  exact ⟨_, (pss_one (ps_ret (pe_lst (pa_cons (pe_callB (zc_max2 rfl) (by rfl) T.n_max (by decide +kernel) (pa_cons pe_int (pa_cons (pe_op zo_sub (pv 0) (pe_op zo_pow pe_int pe_int)) pa_nil))) (pa_cons (pe_op zo_mod (pv 0) pe_int) (pa_cons pe_int pa_nil)))))), fin_F (N := ["cell"]) h rfl rfl (fun _ _ => rfl) (.nl .non rfl) rfl ev⟩

set_option maxHeartbeats 4000000 in
theorem ok__law_take (T : Tx G mg) : FnG P w G.K mg base (L2.CX P w) 1 T.a__law_take T.d__law_take ["box", "many"] (spF G [(.own (.lst .fz)), (.bor .fz)] .fz s__law_take) := by
  refine okG (N := ["box", "many", "digit", "one", "two"]) T.F__law_take sc__law_take (fun vs H Q E h => (show vs.length = 2 from len_F h)) (fun cdv A outer s H vs Q E hr hG h => ?_)
  have ev : Es G th__law_take (fun _ => E) [0] .fz _ b__law_take := (es_seq (es_if (ef_b (eb_test (ev_op (ev_op (ev_own (i := 0) rfl) ev_int o2_ixL) ev_int (o2_gt (t3 := .fz))))) (es_seq (es_asg (i := 2) (t1 := .fz) (by decide) rfl (ef_p (ev_op (ev_op (ev_own (i := 0) rfl) ev_int o2_ixL) (ev_bor (i := 1) rfl) (o2_mod (t3 := .fz))))) 
      (es_seq (es_setI (i := 0) rfl (ef_p ev_int) (ef_p (ev_op (ev_op (ev_own (i := 0) rfl) ev_int o2_ixL) (ev_bor (i := 1) rfl) (o2_div (t3 := .fz))))) 
      (es_ret (ef_p (ev_bor (i := 2) rfl))))) es_next) 
      (es_seq (es_setI (i := 0) rfl (ef_p ev_int) (ef_p (ev_op (ev_op (ev_own (i := 0) rfl) ev_int o2_ixL) ev_int o2_add))) 
      (es_seq (es_asg (i := 3) (t1 := .fz) (by decide) rfl (ef_p (ev_op (ev_op (ev_op (ev_op (ev_op (ev_own (i := 0) rfl) ev_int o2_ixL) (ev_op ev_int (ev_op (ev_own (i := 0) rfl) ev_int o2_ixL) o2_mul) o2_add) ev_int o2_add) ev_int (o2_pow (t3 := .fz))) ev_int (o2_mod (t3 := .fz))))) 
      (es_seq (es_asg (i := 4) (t1 := .fz) (by decide) rfl (ef_p (ev_op (ev_op (ev_op (ev_op (ev_op (ev_bor (i := 3) rfl) ev_int (o2_div (t3 := .fz))) (ev_op (ev_op ev_int (ev_op (ev_own (i := 0) rfl) ev_int o2_ixL) o2_mul) (ev_op (ev_own (i := 0) rfl) ev_int o2_ixL) o2_mul) o2_add) ev_int o2_add) ev_int (o2_pow (t3 := .fz))) ev_int (o2_mod (t3 := .fz))))) 
      (es_ret (ef_p (ev_op (ev_op (ev_op (ev_bor (i := 3) rfl) ev_int (o2_div (t3 := .fz))) (ev_op ev_int (ev_op (ev_bor (i := 4) rfl) ev_int (o2_div (t3 := .fz))) o2_mul) o2_add) (ev_bor (i := 1) rfl) (o2_mod (t3 := .fz)))))))))
  exact ⟨_, (pss_cons (ps_if (pt_cmpR zo_gt (pe_ix (ixK (K := G.K) rfl (hu1 hr)) (pv 0) pe_int (fun _ _ => rfl)) pe_int (nomark _)) (pss_cons (ps_set (i := 2) sc__law_take.nd rfl (Or.inl rfl) (pe_op zo_mod (pe_ix (ixK (K := G.K) rfl (hu1 hr)) (pv 0) pe_int (fun _ _ => rfl)) (pv 1))) 
      (pss_cons (ps_asg (pe_op zo_fdiv (pe_ix (ixK (K := G.K) rfl (hu1 hr)) (pv 0) pe_int (fun _ _ => rfl)) (pv 1)) (pg_sub (pv 0) pe_int set_list)) 
      (pss_one (ps_ret (pv 2))))) pss_nil) 
      (pss_cons (ps_asg (pe_op (oK (K := G.K) rAddU rfl zo_add) (pe_ix (ixK (K := G.K) rfl (hu1 hr)) (pv 0) pe_int (fun _ _ => rfl)) pe_int) (pg_sub (pv 0) pe_int set_list)) 
      (pss_cons (ps_set (i := 3) sc__law_take.nd rfl (Or.inl rfl) (pe_op zo_mod (pe_op zo_pow (pe_op (oK (K := G.K) rAddU rfl zo_add) (pe_op (oK (K := G.K) rAddU rfl zo_add) (pe_ix (ixK (K := G.K) rfl (hu1 hr)) (pv 0) pe_int (fun _ _ => rfl)) (pe_op zo_mul pe_int (pe_ix (ixK (K := G.K) rfl (hu1 hr)) (pv 0) pe_int (fun _ _ => rfl)))) pe_int) pe_int) pe_int)) 
      (pss_cons (ps_set (i := 4) sc__law_take.nd rfl (Or.inl rfl) (pe_op zo_mod (pe_op zo_pow (pe_op (oK (K := G.K) rAddU rfl zo_add) (pe_op (oK (K := G.K) rAddU rfl zo_add) (pe_op zo_fdiv (pv 3) pe_int) (pe_op zo_mul (pe_op zo_mul pe_int (pe_ix (ixK (K := G.K) rfl (hu1 hr)) (pv 0) pe_int (fun _ _ => rfl))) (pe_ix (ixK (K := G.K) rfl (hu1 hr)) (pv 0) pe_int (fun _ _ => rfl)))) pe_int) pe_int) pe_int)) 
      (pss_one (ps_ret (pe_op zo_mod (pe_op (oK (K := G.K) rAddU rfl zo_add) (pe_op zo_fdiv (pv 3) pe_int) (pe_op zo_mul pe_int (pe_op zo_fdiv (pv 4) pe_int))) (pv 1)))))))), fin_F (N := ["box", "many", "digit", "one", "two"]) h rfl rfl (fun _ _ => rfl) (.fz .non) rfl ev⟩

set_option maxHeartbeats 4000000 in
theorem ok__law_equal (T : Tx G mg) : FnG P w G.K mg base (L2.CX P w) 1 T.a__law_equal T.d__law_equal ["result", "expected"] (spF G [(.bor (.lst .fz)), (.bor .fz)] .fz s__law_equal) := by
  refine okG (N := ["result", "expected"]) T.F__law_equal sc__law_equal (fun vs H Q E h => (show vs.length = 2 from len_F h)) (fun cdv A outer s H vs Q E hr hG h => ?_)
  have ev : Es G th__law_equal (fun _ => E) [] .fz _ b__law_equal := (es_ret (ef_p (ev_and (ev_op (ev_bor (i := 0) rfl) (ev_bor (i := 1) rfl) (o2_eq (t3 := .fz))) (ev_op (ev_cb (ea_cons (ev_bor (i := 0) rfl) ea_nil) (oc_repr (t3 := .fz))) (ev_cb (ea_cons (ev_bor (i := 1) rfl) ea_nil) (oc_repr (t3 := .fz))) (o2_eq (t3 := .fz))))))
  exact ⟨_, (pss_one (ps_ret (pe_and (pe_cmpR (oK (K := G.K) rEqY rfl (zo_eqY (hu64 hr))) (pv 0) (pv 1) (nomark _)) (pe_one (pe_cmpR (oK (K := G.K) rEqY rfl (zo_eqY (hu64 hr))) (pe_callB (cK (K := G.K) rRepr rfl (zc_repr hG (hu70 hr))) (by rfl) T.n_repr (by decide +kernel) (pa_cons (pv 0) pa_nil)) (pe_callB (cK (K := G.K) rRepr rfl (zc_repr hG (hu70 hr))) (by rfl) T.n_repr (by decide +kernel) (pa_cons (pv 1) pa_nil)) (nomark _)))))), fin_F (N := ["result", "expected"]) h rfl rfl (fun _ _ => rfl) (.fz .non) rfl ev⟩

set_option maxHeartbeats 4000000 in
theorem ok__law_number_expected (T : Tx G mg) : FnG P w G.K mg base (L2.CX P w) 1 T.a__law_number_expected T.d__law_number_expected ["text", "floor", "top"] (spF G [(.bor .fz), (.bor .fz), (.bor .fz)] .fz s__law_number_expected) := by
  refine okG (N := ["text", "floor", "top", "number", "sign"]) T.F__law_number_expected sc__law_number_expected (fun vs H Q E h => (show vs.length = 3 from len_F h)) (fun cdv A outer s H vs Q E hr hG h => ?_)
  have ev : Es G th__law_number_expected (fun _ => E) [] .fz _ b__law_number_expected := (es_seq (es_if (ef_b (eb_or (eb_not (eb_B (ev_isi T.hk (.ty .str) (ev_bor (i := 0) rfl)))) (eb_or (eb_test (ev_op (ev_bor (i := 0) rfl) ev_str (o2_eq (t3 := .fz)))) (eb_test (ev_op (ev_cb (ea_cons (ev_bor (i := 0) rfl) ea_nil) (oc_len (t3 := .fz))) ev_int (o2_gt (t3 := .fz))))))) (es_ret (ef_p ev_non)) es_next) 
      (es_seq (es_asg (i := 3) (t1 := .fz) (by decide) rfl (ef_p ev_int)) 
      (es_seq (es_for (fi_p (ei_seq (ev_bor (i := 0) rfl))) (et_name (i := 4) (by decide) rfl) (es_seq (es_if (ef_b (eb_test (ev_op (ev_bor (i := 4) rfl) ev_str (o2_notIn (t3 := .fz))))) (es_ret (ef_p ev_non)) es_next) 
      (es_asg (i := 3) (t1 := .fz) (by decide) rfl (ef_p (ev_op (ev_op ev_int (ev_bor (i := 3) rfl) o2_mul) (ev_m1 ev_str (ev_bor (i := 4) rfl) (o2_six (t3 := .fz))) o2_add))))) 
      (es_seq (es_if (ef_b (eb_and (eb_test (ev_op (ev_op (ev_bor (i := 0) rfl) ev_int o2_ix) ev_str (o2_eq (t3 := .fz)))) (eb_test (ev_op (ev_bor (i := 0) rfl) ev_str (o2_ne (t3 := .fz)))))) (es_ret (ef_p ev_non)) es_next) 
      (es_ret (ef_p (ev_if (eb_test (ev_chain (ev_bor (i := 1) rfl) (ev_bor (i := 3) rfl) (ev_bor (i := 2) rfl) (o2_le (t3 := .fz)) (o2_le (t3 := .fz)))) (ev_bor (i := 3) rfl) ev_non)))))))
  exact ⟨_, (pss_cons (ps_if (PW.pt (pw_or (pt_not (pt_val (pe_callB (cK (K := G.K) rIsi rfl call_isi) (by rfl) T.n_isinstance (by decide +kernel) (pa_cons (pv 0) (pa_cons (pe_bltn (v := .ty "str") (by rfl) T.n_str (by decide +kernel) rfl) pa_nil))))) (pw_or (pt_cmpR (oK (K := G.K) rEqY rfl (zo_eqY (hu64 hr))) (pv 0) pe_str (nomark _)) (pw_or1 (pt_cmpR zo_gt (pe_callB (cK (K := G.K) rLenU rfl zc_len) (by rfl) T.n_len (by decide +kernel) (pa_cons (pv 0) pa_nil)) pe_int (nomark _)))))) (pss_one (ps_ret pe_non)) pss_nil) 
      (pss_cons (ps_set (i := 3) sc__law_number_expected.nd rfl (Or.inl rfl) pe_int) 
      (pss_cons (ps_for (passes_of rfl) rfl (pi_seqK (K := G.K) rfl (pv 0)) (pg_name (i := 4) sc__law_number_expected.nd rfl (Or.inl rfl)) (pss_cons (ps_if (pt_cmpR (oK (K := G.K) (fun K => rInU K true) rfl (zo_notin (hu65 hr))) (pv 4) pe_str rfl) (pss_one (ps_ret pe_non)) pss_nil) 
      (pss_one (ps_set (i := 3) sc__law_number_expected.nd rfl (Or.inl rfl) (pe_op (oK (K := G.K) rAddU rfl zo_add) (pe_op zo_mul pe_int (pv 3)) (pe_sindexK pe_str (pv 4))))))) 
      (pss_cons (ps_if (PW.pt (pw_and (pt_cmpR (oK (K := G.K) rEqY rfl (zo_eqY (hu64 hr))) (pe_ix (ixK (K := G.K) rfl (hu1 hr)) (pv 0) pe_int (fun _ _ => rfl)) pe_str (nomark _)) (pw_and1 (pt_cmpR (oK (K := G.K) rNeY rfl (zo_neY (hu64 hr))) (pv 0) pe_str (nomark _))))) (pss_one (ps_ret pe_non)) pss_nil) 
      (pss_one (ps_ret (pe_ifExp (pt_chain zo_le zo_le (pv 1) (pv 3) (pv 2)) (pv 3) pe_non))))))), fin_F (N := ["text", "floor", "top", "number", "sign"]) h rfl rfl (fun _ _ => rfl) (.fz .non) rfl ev⟩

set_option maxHeartbeats 4000000 in
theorem ok__law_words_expected (T : Tx G mg) : FnG P w G.K mg base (L2.CX P w) 1 T.a__law_words_expected T.d__law_words_expected ["text"] (spF G [(.bor .fz)] .fz s__law_words_expected) := by
  refine okG (N := ["text", "words", "word", "sign"]) T.F__law_words_expected sc__law_words_expected (fun vs H Q E h => (show vs.length = 1 from len_F h)) (fun cdv A outer s H vs Q E hr hG h => ?_)
  have ev : Es G th__law_words_expected (fun _ => E) [] .fz _ b__law_words_expected := (es_seq (es_if (ef_b (eb_not (eb_B (ev_isi T.hk (.ty .str) (ev_bor (i := 0) rfl))))) (es_ret (ef_p ev_non)) es_next) 
      (es_seq (es_par (i := 1) (j := 2) (by decide) (by decide) rfl rfl (.own _) (.fz _) (ef_n (en_lst ea_nil rfl)) (ef_p ev_str)) 
      (es_seq (es_for (fi_p (ei_seq (ev_op (ev_bor (i := 0) rfl) ev_str o2_add))) (et_name (i := 3) (by decide) rfl) (es_seq (es_if (ef_b (eb_or (eb_test (ev_op (ev_bor (i := 3) rfl) ev_str (o2_eq (t3 := .fz)))) (eb_and (eb_test (ev_op (ev_bor (i := 3) rfl) ev_str (o2_eq (t3 := .fz)))) (eb_test (ev_op (ev_bor (i := 2) rfl) ev_str (o2_eq (t3 := .fz))))))) (es_ret (ef_p ev_non)) es_next) 
      (es_if (ef_b (eb_test (ev_op (ev_bor (i := 3) rfl) ev_str (o2_eq (t3 := .fz))))) (es_seq (es_app (i := 1) (t1 := .fz) rfl (ef_p (ev_bor (i := 2) rfl))) 
      (es_asg (i := 2) (t1 := .fz) (by decide) rfl (ef_p ev_str))) (es_asg (i := 2) (t1 := .fz) (by decide) rfl (ef_p (ev_op (ev_bor (i := 2) rfl) (ev_bor (i := 3) rfl) o2_add)))))) 
      (es_ret (ef_frz (ef_take (i := 1) rfl))))))
  exact ⟨_, (pss_cons (ps_if (pt_not (pt_val (pe_callB (cK (K := G.K) rIsi rfl call_isi) (by rfl) T.n_isinstance (by decide +kernel) (pa_cons (pv 0) (pa_cons (pe_bltn (v := .ty "str") (by rfl) T.n_str (by decide +kernel) rfl) pa_nil))))) (pss_one (ps_ret pe_non)) pss_nil) 
      (pss_cons (ps_par (i := 1) (j := 2) (by rfl) sc__law_words_expected.nd rfl rfl (by decide) rfl rfl (pa_cons (pe_lst pa_nil) (pa_cons pe_str pa_nil)) (by rfl)) 
      (pss_cons (ps_for (passes_of rfl) rfl (pi_seqK (K := G.K) rfl (pe_op (oK (K := G.K) rAddU rfl zo_add) (pv 0) pe_str)) (pg_name (i := 3) sc__law_words_expected.nd rfl (Or.inl rfl)) (pss_cons (ps_if (PW.pt (pw_or (pt_cmpR (oK (K := G.K) rEqY rfl (zo_eqY (hu64 hr))) (pv 3) pe_str (nomark _)) (pw_or1 (PW.pt (pw_and (pt_cmpR (oK (K := G.K) rEqY rfl (zo_eqY (hu64 hr))) (pv 3) pe_str (nomark _)) (pw_and1 (pt_cmpR (oK (K := G.K) rEqY rfl (zo_eqY (hu64 hr))) (pv 2) pe_str (nomark _)))))))) (pss_one (ps_ret pe_non)) pss_nil) 
      (pss_one (ps_if (pt_cmpR (oK (K := G.K) rEqY rfl (zo_eqY (hu64 hr))) (pv 3) pe_str (nomark _)) (pss_cons (ps_expr (pe_bmK (a := "append") (K := G.K) rfl PySem.F.plainAttrs_list PySem.F.slot_list_append PySem.F.type_list_append mt_append (pv 1) (pa_cons (pv 2) pa_nil))) 
      (pss_one (ps_set (i := 2) sc__law_words_expected.nd rfl (Or.inl rfl) pe_str))) (pss_one (ps_set (i := 2) sc__law_words_expected.nd rfl (Or.inl rfl) (pe_op (oK (K := G.K) rAddU rfl zo_add) (pv 2) (pv 3)))))))) 
      (pss_one (ps_ret (pv 1)))))), fin_F (N := ["text", "words", "word", "sign"]) h rfl rfl (fun _ _ => rfl) (.fz .non) rfl ev⟩

set_option maxHeartbeats 4000000 in
theorem ok_read_number (T : Tx G mg) : FnG P w G.K mg base (L2.CX P w) 2 T.a_read_number T.d_read_number ["text", "low", "high"] (spF G [(.bor .fz), (.bor .fz), (.bor .fz)] .fz s_read_number) := by
  refine okGD (N := ["text", "low", "high", "number"]) T.F_read_number sc_read_number (fun vs H Q E h => (show vs.length = 3 from len_F h)) (fun cdv A outer s H vs Q E hr hG h => ?_)
  have ev : Es G th_read_number (fun _ => E) [] .fz _ b_read_number := (es_seq (es_if (ef_b (eb_or (eb_not (eb_B (ev_isi T.hk (.ty .str) (ev_bor (i := 0) rfl)))) (eb_not (eb_test (ev_chain ev_int (ev_cb (ea_cons (ev_bor (i := 0) rfl) ea_nil) (oc_len (t3 := .fz))) ev_int (o2_le (t3 := .fz)) (o2_le (t3 := .fz))))))) (es_ret (ef_p ev_non)) es_next) 
      (es_seq (es_if (ef_b (eb_or (eb_not (eb_B (ev_frz (en_cl (sf := s_is_digits) (ms := [(.bor .fz)]) (rt := .fz) (em_cons (ev_bor (i := 0) rfl) em_nil) dv_nil rfl)))) (eb_and (eb_test (ev_op (ev_op (ev_bor (i := 0) rfl) ev_int o2_ix) ev_str (o2_eq (t3 := .fz)))) (eb_test (ev_op (ev_cb (ea_cons (ev_bor (i := 0) rfl) ea_nil) (oc_len (t3 := .fz))) ev_int (o2_gt (t3 := .fz))))))) (es_ret (ef_p ev_non)) es_next) 
      (es_seq (es_asg (i := 3) (t1 := .fz) (by decide) rfl (ef_p (ev_cb (ea_cons (ev_bor (i := 0) rfl) ea_nil) (oc_int (t3 := .fz))))) 
      (es_ret (ef_p (ev_if (eb_test (ev_chain (ev_bor (i := 1) rfl) (ev_bor (i := 3) rfl) (ev_bor (i := 2) rfl) (o2_le (t3 := .fz)) (o2_le (t3 := .fz)))) (ev_bor (i := 3) rfl) ev_non))))))
  exact ⟨_, (pss_cons (ps_if (PW.pt (pw_or (pt_not (pt_val (pe_callB (cK (K := G.K) rIsi rfl call_isi) (by rfl) T.n_isinstance (by decide +kernel) (pa_cons (pv 0) (pa_cons (pe_bltn (v := .ty "str") (by rfl) T.n_str (by decide +kernel) rfl) pa_nil))))) (pw_or1 (pt_not (pt_chain zo_le zo_le pe_int (pe_callB (cK (K := G.K) rLenU rfl zc_len) (by rfl) T.n_len (by decide +kernel) (pa_cons (pv 0) pa_nil)) pe_int))))) (pss_one (ps_ret pe_non)) pss_nil) 
      (pss_cons (ps_if (PW.pt (pw_or (pt_not (pt_val (pe_cl (E := fun _ => E) (ok_is_digits T) (hr.mono (by decide)) hG (by rfl) T.m_is_digits T.F_is_digits.kp T.b_is_digits .nil (fun σ => passAt (takes_of rfl rfl rfl rfl) σ) (pa_cons (pv 0) pa_nil)))) (pw_or1 (PW.pt (pw_and (pt_cmpR (oK (K := G.K) rEqY rfl (zo_eqY (hu64 hr))) (pe_ix (ixK (K := G.K) rfl (hu1 hr)) (pv 0) pe_int (fun _ _ => rfl)) pe_str (nomark _)) (pw_and1 (pt_cmpR zo_gt (pe_callB (cK (K := G.K) rLenU rfl zc_len) (by rfl) T.n_len (by decide +kernel) (pa_cons (pv 0) pa_nil)) pe_int (nomark _)))))))) (pss_one (ps_ret pe_non)) pss_nil) 
      (pss_cons (ps_set (i := 3) sc_read_number.nd rfl (Or.inl rfl) (pe_callTy zc_int (by rfl) T.n_int (by decide +kernel) (pa_cons (pv 0) pa_nil))) 
      (pss_one (ps_ret (pe_ifExp (pt_chain zo_le zo_le (pv 1) (pv 3) (pv 2)) (pv 3) pe_non)))))), fin_F (N := ["text", "low", "high", "number"]) h rfl rfl (fun _ _ => rfl) (.fz .non) rfl ev⟩

set_option maxHeartbeats 4000000 in
theorem ok__law_any_value (T : Tx G mg) : FnG P w G.K mg base (L2.CX P w) 2 T.a__law_any_value T.d__law_any_value ["box"] (spF G [(.own (.lst .fz))] .fz s__law_any_value) := by
  refine okG (N := ["box", "some"]) T.F__law_any_value sc__law_any_value (fun vs H Q E h => (show vs.length = 1 from len_F h)) (fun cdv A outer s H vs Q E hr hG h => ?_)
  have ev : Es G th__law_any_value (fun _ => E) [0] .fz _ b__law_any_value := (es_seq (es_asg (i := 1) (t1 := .fz) (by decide) rfl (ef_p (ev_frz (en_lst (ea_cons ev_non (ea_cons ev_bl (ea_cons ev_bl (ea_cons ev_int (ea_cons (ev_un ev_int (o1_neg (t3 := .fz))) (ea_cons ev_int (ea_cons ev_int (ea_cons ev_int (ea_cons ev_int (ea_cons (ev_op ev_int ev_int (o2_pow (t3 := .fz))) (ea_cons (ev_op ev_int (ev_op ev_int ev_int (o2_pow (t3 := .fz))) (o2_sub (t3 := .fz))) (ea_cons ev_str (ea_cons ev_str (ea_cons ev_str (ea_cons ev_str (ea_cons ev_str (ea_cons ev_str ea_nil))))))))))))))))) rfl)))) 
      (es_seq (es_asg (i := 1) (t1 := .fz) (by decide) rfl (ef_p (ev_frz (en_op (ev_any (ev_bor (i := 1) rfl)) (ev_new (en_lst (ea_cons (ev_frz (en_lst ea_nil rfl)) (ea_cons (ev_frz (en_lst (ea_cons ev_int ea_nil) rfl)) (ea_cons (ev_frz (en_lst (ea_cons (ev_frz (en_lst (ea_cons ev_int ea_nil) rfl)) ea_nil) rfl)) (ea_cons (ev_frz (en_lst (ea_cons ev_int ea_nil) rfl)) (ea_cons (ev_frz (en_lst (ea_cons ev_bl ea_nil) rfl)) (ea_cons (ev_frz (en_lst (ea_cons (ev_tup (ea_cons ev_str (ea_cons ev_int ea_nil)) rfl) ea_nil) rfl)) (ea_cons (ev_frz (en_lst (ea_cons (ev_frz (en_lst (ea_cons (ev_tup (ea_cons ev_str (ea_cons ev_int ea_nil)) rfl) ea_nil) rfl)) ea_nil) rfl)) (ea_cons (ev_frz (en_lst (ea_cons ev_non ea_nil) rfl)) (ea_cons (ev_tup ea_nil rfl) (ea_cons (ev_tup (ea_cons ev_int ea_nil) rfl) (ea_cons (ev_tup (ea_cons ev_str (ea_cons ev_int ea_nil)) rfl) (ea_cons (ev_tup (ea_cons ev_str (ea_cons ev_int ea_nil)) rfl) ea_nil)))))))))))) rfl)) on_add)))) 
      (es_seq (es_asg (i := 1) (t1 := .fz) (by decide) rfl (ef_p (ev_frz (en_op (ev_any (ev_bor (i := 1) rfl)) (ev_new (en_lst (ea_cons (ev_tup (ea_cons ev_str ea_nil) rfl) (ea_cons (ev_tup (ea_cons (ev_tup ea_nil rfl) ea_nil) rfl) (ea_cons ev_dnew (ea_cons (ev_disp1 (k := (.inr "rail")) ev_int) (ea_cons (ev_disp1 (k := (.inl 3)) (ev_frz (en_lst ea_nil rfl))) (ea_cons (ev_op ev_str ev_int o2_mul) (ea_cons ev_str (ea_cons (ev_frz (en_lst (ea_cons ev_int ea_nil) rfl)) (ea_cons (ev_tup (ea_cons ev_str (ea_cons ev_int (ea_cons (ev_frz (en_lst (ea_cons ev_int ea_nil) rfl)) ea_nil))) rfl) ea_nil))))))))) rfl)) on_add)))) 
      (es_ret (ef_o2 (ef_p (ev_bor (i := 1) rfl)) (ef_cl (sf := s__law_take) (ms := [(.own (.lst .fz)), (.bor .fz)]) (rt := .fz) (aks := [.own 0, .fz]) (k := 0) (n := 1) (.own rfl (.fz .nil)) (by decide) dv_nil rfl (fx_own (i := 0) (by decide) (fx_fz (ef_p (ev_cb (ea_cons (ev_bor (i := 1) rfl) ea_nil) (oc_len (t3 := .fz)))) fx_nil))) (o2_ix (t2 := .fz)))))))
  exact ⟨_, (pss_cons (ps_set (i := 1) sc__law_any_value.nd rfl (Or.inl rfl) (pe_lst (pa_cons pe_non (pa_cons pe_bl (pa_cons pe_bl (pa_cons pe_int (pa_cons (pe_un zo_neg pe_int) (pa_cons pe_int (pa_cons pe_int (pa_cons pe_int (pa_cons pe_int (pa_cons (pe_op zo_pow pe_int pe_int) (pa_cons (pe_op zo_sub pe_int (pe_op zo_pow pe_int pe_int)) (pa_cons pe_str (pa_cons pe_str (pa_cons pe_str (pa_cons pe_str (pa_cons pe_str (pa_cons pe_str pa_nil))))))))))))))))))) 
      (pss_cons (ps_set (i := 1) sc__law_any_value.nd rfl (Or.inl rfl) (pe_op (oK (K := G.K) rAddU rfl zo_add) (pv 1) (pe_lst (pa_cons (pe_lst pa_nil) (pa_cons (pe_lst (pa_cons pe_int pa_nil)) (pa_cons (pe_lst (pa_cons (pe_lst (pa_cons pe_int pa_nil)) pa_nil)) (pa_cons (pe_lst (pa_cons pe_int pa_nil)) (pa_cons (pe_lst (pa_cons pe_bl pa_nil)) (pa_cons (pe_lst (pa_cons (pe_tup (pa_cons pe_str (pa_cons pe_int pa_nil))) pa_nil)) (pa_cons (pe_lst (pa_cons (pe_lst (pa_cons (pe_tup (pa_cons pe_str (pa_cons pe_int pa_nil))) pa_nil)) pa_nil)) (pa_cons (pe_lst (pa_cons pe_non pa_nil)) (pa_cons (pe_tup pa_nil) (pa_cons (pe_tup (pa_cons pe_int pa_nil)) (pa_cons (pe_tup (pa_cons pe_str (pa_cons pe_int pa_nil))) (pa_cons (pe_tup (pa_cons pe_str (pa_cons pe_int pa_nil))) pa_nil))))))))))))))) 
      (pss_cons (ps_set (i := 1) sc__law_any_value.nd rfl (Or.inl rfl) (pe_op (oK (K := G.K) rAddU rfl zo_add) (pv 1) (pe_lst (pa_cons (pe_tup (pa_cons pe_str pa_nil)) (pa_cons (pe_tup (pa_cons (pe_tup pa_nil) pa_nil)) (pa_cons pe_dnewK (pa_cons (pe_disp (pps_cons pe_str pe_int pps_nil) (by decide) (by decide) (by simp) (by decide)) (pa_cons (pe_disp (pps_cons pe_int (pe_lst pa_nil) pps_nil) (by decide) (by decide) (by simp) (by decide)) (pa_cons (pe_op zo_mul pe_str pe_int) (pa_cons pe_str (pa_cons (pe_lst (pa_cons pe_int pa_nil)) (pa_cons (pe_tup (pa_cons pe_str (pa_cons pe_int (pa_cons (pe_lst (pa_cons pe_int pa_nil)) pa_nil)))) pa_nil)))))))))))) 
      (pss_one (ps_ret (pe_ix (ixK (K := G.K) rfl (hu1 hr)) (pv 1) (pe_cl (E := fun _ => E) (ok__law_take T) (hr.mono (by decide)) hG (by rfl) T.m__law_take T.F__law_take.kp T.b__law_take .nil (fun σ => passAt (takes_of rfl rfl rfl rfl) σ) (pa_cons (pv 0) (pa_cons (pe_callB (cK (K := G.K) rLenU rfl zc_len) (by rfl) T.n_len (by decide +kernel) (pa_cons (pv 1) pa_nil)) pa_nil))) (fun _ _ => rfl))))))), fin_F (N := ["box", "some"]) h rfl rfl (fun _ _ => rfl) (.fz .non) rfl ev⟩

set_option maxHeartbeats 4000000 in
theorem ok__law_numbers_right (T : Tx G mg) : FnG P w G.K mg base (L2.CX P w) 3 T.a__law_numbers_right T.d__law_numbers_right ["text", "least", "most"] (spF G [(.bor .fz), (.bor .fz), (.bor .fz)] .fz s__law_numbers_right) := by
  refine okG (N := ["text", "least", "most", "result", "expected"]) T.F__law_numbers_right sc__law_numbers_right (fun vs H Q E h => (show vs.length = 3 from len_F h)) (fun cdv A outer s H vs Q E hr hG h => ?_)
  have ev : Es G th__law_numbers_right (fun _ => E) [] .fz _ b__law_numbers_right := (es_seq (es_asgO (i := 3) (t1 := (.lst .fz)) (by decide) rfl (ef_n (en_lst (ea_cons (ev_frz (en_cl (sf := s_read_number) (ms := [(.bor .fz)]) (rt := .fz) (em_cons (ev_bor (i := 0) rfl) em_nil) (dv_int (dv_int dv_nil)) rfl)) (ea_cons (ev_frz (en_cl (sf := s_read_number) (ms := [(.bor .fz), (.bor .fz)]) (rt := .fz) (em_cons (ev_bor (i := 0) rfl) (em_cons (ev_bor (i := 1) rfl) em_nil)) (dv_int dv_nil) rfl)) (ea_cons (ev_frz (en_cl (sf := s_read_number) (ms := [(.bor .fz), (.bor .fz), (.bor .fz)]) (rt := .fz) (em_cons (ev_bor (i := 0) rfl) (em_cons (ev_bor (i := 1) rfl) (em_cons (ev_bor (i := 2) rfl) em_nil))) dv_nil rfl)) (ea_cons (ev_frz (en_clM (sf := s_read_number) (ms := [(.bor .fz)]) (ns := [(.bor .fz)]) (rt := .fz) (em_cons (ev_bor (i := 0) rfl) em_nil) (em_cons (ev_bor (i := 2) rfl) em_nil) (dv_int dv_nil) dv_nil rfl rfl rfl)) ea_nil)))) rfl))) 
      (es_seq (es_app (i := 3) (t1 := .fz) rfl (ef_p (ev_frz (en_clM (sf := s_read_number) (ms := [(.bor .fz)]) (ns := [(.bor .fz)]) (rt := .fz) (em_cons (ev_bor (i := 0) rfl) em_nil) (em_cons (ev_bor (i := 1) rfl) em_nil) dv_nil (dv_int dv_nil) rfl rfl rfl)))) 
      (es_seq (es_asg (i := 4) (t1 := .fz) (by decide) rfl (ef_p (ev_frz (en_lst (ea_cons (ev_frz (en_cl (sf := s__law_number_expected) (ms := [(.bor .fz), (.bor .fz), (.bor .fz)]) (rt := .fz) (em_cons (ev_bor (i := 0) rfl) (em_cons ev_int (em_cons ev_int em_nil))) dv_nil rfl)) (ea_cons (ev_frz (en_cl (sf := s__law_number_expected) (ms := [(.bor .fz), (.bor .fz), (.bor .fz)]) (rt := .fz) (em_cons (ev_bor (i := 0) rfl) (em_cons (ev_bor (i := 1) rfl) (em_cons ev_int em_nil))) dv_nil rfl)) (ea_cons (ev_frz (en_cl (sf := s__law_number_expected) (ms := [(.bor .fz), (.bor .fz), (.bor .fz)]) (rt := .fz) (em_cons (ev_bor (i := 0) rfl) (em_cons (ev_bor (i := 1) rfl) (em_cons (ev_bor (i := 2) rfl) em_nil))) dv_nil rfl)) ea_nil))) rfl)))) 
      (es_seq (es_asg (i := 4) (t1 := .fz) (by decide) rfl (ef_p (ev_frz (en_op (ev_any (ev_bor (i := 4) rfl)) (ev_new (en_lst (ea_cons (ev_frz (en_cl (sf := s__law_number_expected) (ms := [(.bor .fz), (.bor .fz), (.bor .fz)]) (rt := .fz) (em_cons (ev_bor (i := 0) rfl) (em_cons ev_int (em_cons (ev_bor (i := 2) rfl) em_nil))) dv_nil rfl)) (ea_cons (ev_frz (en_cl (sf := s__law_number_expected) (ms := [(.bor .fz), (.bor .fz), (.bor .fz)]) (rt := .fz) (em_cons (ev_bor (i := 0) rfl) (em_cons (ev_bor (i := 1) rfl) (em_cons ev_int em_nil))) dv_nil rfl)) ea_nil)) rfl)) on_add)))) 
      (es_ret (ef_p (ev_frz (en_cl (sf := s__law_equal) (ms := [(.bor (.lst .fz)), (.bor .fz)]) (rt := .fz) (em_cons (ev_own (i := 3) rfl) (em_cons (ev_bor (i := 4) rfl) em_nil)) dv_nil rfl))))))))
  exact ⟨_, (pss_cons (ps_set (i := 3) sc__law_numbers_right.nd rfl (Or.inl rfl) (pe_lst (pa_cons (pe_clX (E := fun _ => E) (ok_read_number T) (hr.mono (by decide)) hG (by rfl) T.m_read_number T.F_read_number.kp T.bd_read_number_1 (fun σ => passAt (takes_of rfl rfl rfl rfl) σ) (pa_cons (pv 0) pa_nil)) (pa_cons (pe_clX (E := fun _ => E) (ok_read_number T) (hr.mono (by decide)) hG (by rfl) T.m_read_number T.F_read_number.kp T.bd_read_number_2 (fun σ => passAt (takes_of rfl rfl rfl rfl) σ) (pa_cons (pv 0) (pa_cons (pv 1) pa_nil))) (pa_cons (pe_cl (E := fun _ => E) (ok_read_number T) (hr.mono (by decide)) hG (by rfl) T.m_read_number T.F_read_number.kp T.b_read_number .nil (fun σ => passAt (takes_of rfl rfl rfl rfl) σ) (pa_cons (pv 0) (pa_cons (pv 1) (pa_cons (pv 2) pa_nil)))) (pa_cons (pe_clM (E := fun _ => E) (ok_read_number T) (hr.mono (by decide)) hG (by rfl) T.m_read_number T.F_read_number.kp T.km_read_number_high (fun σ => passAt (takes_of rfl rfl rfl rfl) σ) (pa_cons (pv 0) pa_nil) (pk_cons (pv 2) pk_nil)) pa_nil)))))) 
      (pss_cons (ps_expr (pe_bmK (a := "append") (K := G.K) rfl PySem.F.plainAttrs_list PySem.F.slot_list_append PySem.F.type_list_append mt_append (pv 3) (pa_cons (pe_clM (E := fun _ => E) (ok_read_number T) (hr.mono (by decide)) hG (by rfl) T.m_read_number T.F_read_number.kp T.km_read_number_low (fun σ => passAt (takes_of rfl rfl rfl rfl) σ) (pa_cons (pv 0) pa_nil) (pk_cons (pv 1) pk_nil)) pa_nil))) 
      (pss_cons (ps_set (i := 4) sc__law_numbers_right.nd rfl (Or.inl rfl) (pe_lst (pa_cons (pe_cl (E := fun _ => E) (ok__law_number_expected T) (hr.mono (by decide)) hG (by rfl) T.m__law_number_expected T.F__law_number_expected.kp T.b__law_number_expected .nil (fun σ => passAt (takes_of rfl rfl rfl rfl) σ) (pa_cons (pv 0) (pa_cons pe_int (pa_cons pe_int pa_nil)))) (pa_cons (pe_cl (E := fun _ => E) (ok__law_number_expected T) (hr.mono (by decide)) hG (by rfl) T.m__law_number_expected T.F__law_number_expected.kp T.b__law_number_expected .nil (fun σ => passAt (takes_of rfl rfl rfl rfl) σ) (pa_cons (pv 0) (pa_cons (pv 1) (pa_cons pe_int pa_nil)))) (pa_cons (pe_cl (E := fun _ => E) (ok__law_number_expected T) (hr.mono (by decide)) hG (by rfl) T.m__law_number_expected T.F__law_number_expected.kp T.b__law_number_expected .nil (fun σ => passAt (takes_of rfl rfl rfl rfl) σ) (pa_cons (pv 0) (pa_cons (pv 1) (pa_cons (pv 2) pa_nil)))) pa_nil))))) 
      (pss_cons (ps_set (i := 4) sc__law_numbers_right.nd rfl (Or.inl rfl) (pe_op (oK (K := G.K) rAddU rfl zo_add) (pv 4) (pe_lst (pa_cons (pe_cl (E := fun _ => E) (ok__law_number_expected T) (hr.mono (by decide)) hG (by rfl) T.m__law_number_expected T.F__law_number_expected.kp T.b__law_number_expected .nil (fun σ => passAt (takes_of rfl rfl rfl rfl) σ) (pa_cons (pv 0) (pa_cons pe_int (pa_cons (pv 2) pa_nil)))) (pa_cons (pe_cl (E := fun _ => E) (ok__law_number_expected T) (hr.mono (by decide)) hG (by rfl) T.m__law_number_expected T.F__law_number_expected.kp T.b__law_number_expected .nil (fun σ => passAt (takes_of rfl rfl rfl rfl) σ) (pa_cons (pv 0) (pa_cons (pv 1) (pa_cons pe_int pa_nil)))) pa_nil))))) 
      (pss_one (ps_ret (pe_cl (E := fun _ => E) (ok__law_equal T) (hr.mono (by decide)) hG (by rfl) T.m__law_equal T.F__law_equal.kp T.b__law_equal .nil (fun σ => passAt (takes_of rfl rfl rfl rfl) σ) (pa_cons (pv 3) (pa_cons (pv 4) pa_nil))))))))), fin_F (N := ["text", "least", "most", "result", "expected"]) h rfl rfl (fun _ _ => rfl) (.fz .non) rfl ev⟩

set_option maxHeartbeats 4000000 in
theorem ok_law (T : Tx G mg) : FnG P w G.K mg base (L2.CX P w) 4 T.a_law T.d_law ["script"] (spF G [.scr] .fz s_law) := by
  refine okG (N := ["script", "k", "box", "number", "text", "at", "some", "least", "most", "value", "signs", "words", "turn", "line", "bad"]) T.F_law sc_law (fun vs H Q E h => (show vs.length = 1 from len_F h)) (fun cdv A outer s H vs Q E hr hG h => ?_)
  have ev : Es G th_law (fun _ => E) [] .fz _ b_law := (es_seq (es_for (fi_p (ei_r1 (ea_cons (ev_cb (ea_cons ev_int (ea_cons (ev_cb (ea_cons ev_int (ea_cons (ev_lenS (i := 0) rfl) ea_nil)) (oc_min2 (t3 := .fz))) ea_nil)) (oc_max2 (t3 := .fz))) ea_nil))) (et_name (i := 1) (by decide) rfl) (es_seq (es_asgO (i := 2) (t1 := (.lst .fz)) (by decide) rfl (ef_n (en_cl (sf := s__law_box) (ms := [(.bor .fz)]) (rt := (.lst .fz)) (em_cons (ev_frz (en_cl (sf := s__law_cell) (ms := [.scr, (.bor .fz)]) (rt := .fz) (em_scr (i := 0) rfl (em_cons (ev_bor (i := 1) rfl) em_nil)) dv_nil rfl)) em_nil) dv_nil rfl))) 
      (es_seq (es_asg (i := 3) (t1 := .fz) (by decide) rfl (ef_o2 (ef_frz (ef_lst (fa_cons (ef_cl (sf := s__law_take) (ms := [(.own (.lst .fz)), (.bor .fz)]) (rt := .fz) (aks := [.own 2, .fz]) (k := 2) (n := 1) (.own rfl (.fz .nil)) (by decide) dv_nil rfl (fx_own (i := 2) (by decide) (fx_fz (ef_p ev_int) fx_nil))) (fa_cons (ef_o2 (ef_p (ev_op ev_int ev_int (o2_sub (t3 := .fz)))) (ef_cl (sf := s__law_take) (ms := [(.own (.lst .fz)), (.bor .fz)]) (rt := .fz) (aks := [.own 2, .fz]) (k := 2) (n := 1) (.own rfl (.fz .nil)) (by decide) dv_nil rfl (fx_own (i := 2) (by decide) (fx_fz (ef_p ev_int) fx_nil))) o2_add) (fa_cons (ef_cl (sf := s__law_take) (ms := [(.own (.lst .fz)), (.bor .fz)]) (rt := .fz) (aks := [.own 2, .fz]) (k := 2) (n := 1) (.own rfl (.fz .nil)) (by decide) dv_nil rfl (fx_own (i := 2) (by decide) (fx_fz (ef_p (ev_op ev_int ev_int (o2_pow (t3 := .fz)))) fx_nil))) (fa_cons (ef_p (ev_op (ev_op ev_int ev_int (o2_pow (t3 := .fz))) ev_int (o2_sub (t3 := .fz)))) fa_nil)))))) (ef_cl (sf := s__law_take) (ms := [(.own (.lst .fz)), (.bor .fz)]) (rt := .fz) (aks := [.own 2, .fz]) (k := 2) (n := 1) (.own rfl (.fz .nil)) (by decide) dv_nil rfl (fx_own (i := 2) (by decide) (fx_fz (ef_p ev_int) fx_nil))) (o2_ix (t2 := .fz)))) 
      (es_seq (es_par (i := 4) (j := 5) (by decide) (by decide) rfl rfl (.fz _) (.fz _) (ef_p (ev_cb (ea_cons (ev_bor (i := 3) rfl) ea_nil) (oc_strN (t3 := .fz)))) (ef_cl (sf := s__law_take) (ms := [(.own (.lst .fz)), (.bor .fz)]) (rt := .fz) (aks := [.own 2, .fz]) (k := 2) (n := 1) (.own rfl (.fz .nil)) (by decide) dv_nil rfl (fx_own (i := 2) (by decide) (fx_fz (ef_p (ev_op (ev_cb (ea_cons (ev_cb (ea_cons (ev_bor (i := 3) rfl) ea_nil) (oc_strN (t3 := .fz))) ea_nil) (oc_len (t3 := .fz))) ev_int o2_add)) fx_nil)))) 
      (es_seq (es_asg (i := 6) (t1 := .fz) (by decide) rfl (ef_p (ev_frz (en_lst (ea_cons (ev_bor (i := 4) rfl) (ea_cons (ev_op ev_str (ev_bor (i := 4) rfl) o2_add) (ea_cons (ev_op ev_str (ev_bor (i := 4) rfl) o2_add) (ea_cons (ev_op (ev_bor (i := 4) rfl) ev_str o2_add) (ea_cons (ev_op ev_str (ev_bor (i := 4) rfl) o2_add) (ea_cons (ev_op ev_str (ev_bor (i := 4) rfl) o2_add) (ea_cons (ev_frz (en_op (ev_new (en_op (ev_new (en_sl (ev_any (ev_bor (i := 4) rfl)) eo_none (eo_some (ev_bor (i := 5) rfl)))) (ev_any ev_str) on_add)) (ev_new (en_sl (ev_any (ev_bor (i := 4) rfl)) (eo_some (ev_bor (i := 5) rfl)) eo_none)) on_add)) (ea_cons (ev_frz (en_sl (ev_any (ev_bor (i := 4) rfl)) eo_none (eo_some (ev_bor (i := 5) rfl)))) ea_nil)))))))) rfl)))) 
      (es_seq (es_asg (i := 6) (t1 := .fz) (by decide) rfl (ef_o2 (ef_p (ev_bor (i := 6) rfl)) (ef_frz (ef_lst (fa_cons (ef_p (ev_frz (en_op (ev_new (en_op (ev_new (en_sl (ev_any (ev_bor (i := 4) rfl)) eo_none (eo_some (ev_bor (i := 5) rfl)))) (ev_any ev_str) on_add)) (ev_new (en_sl (ev_any (ev_bor (i := 4) rfl)) (eo_some (ev_bor (i := 5) rfl)) eo_none)) on_add))) (fa_cons (ef_p (ev_op (ev_bor (i := 4) rfl) ev_str o2_add)) (fa_cons (ef_p ev_str) (fa_cons (ef_p ev_str) (fa_cons (ef_p ev_str) (fa_cons (ef_p (ev_op (ev_bor (i := 4) rfl) ev_str o2_add)) (fa_cons (ef_p (ev_bor (i := 3) rfl)) (fa_cons (ef_p (ev_op ev_str ev_int o2_mul)) (fa_cons (ef_cl (sf := s__law_any_value) (ms := [(.own (.lst .fz))]) (rt := .fz) (aks := [.own 2]) (k := 2) (n := 1) (.own rfl .nil) (by decide) dv_nil rfl (fx_own (i := 2) (by decide) fx_nil)) fa_nil))))))))))) o2_add)) 
      (es_seq (es_par (i := 7) (j := 8) (by decide) (by decide) rfl rfl (.fz _) (.fz _) (ef_o2 (ef_p (ev_op (ev_bor (i := 3) rfl) ev_int (o2_sub (t3 := .fz)))) (ef_cl (sf := s__law_take) (ms := [(.own (.lst .fz)), (.bor .fz)]) (rt := .fz) (aks := [.own 2, .fz]) (k := 2) (n := 1) (.own rfl (.fz .nil)) (by decide) dv_nil rfl (fx_own (i := 2) (by decide) (fx_fz (ef_p ev_int) fx_nil))) o2_add) (ef_o2 (ef_p (ev_op (ev_bor (i := 3) rfl) ev_int (o2_sub (t3 := .fz)))) (ef_cl (sf := s__law_take) (ms := [(.own (.lst .fz)), (.bor .fz)]) (rt := .fz) (aks := [.own 2, .fz]) (k := 2) (n := 1) (.own rfl (.fz .nil)) (by decide) dv_nil rfl (fx_own (i := 2) (by decide) (fx_fz (ef_p ev_int) fx_nil))) o2_add)) 
      (es_seq (es_for (fi_p (ei_seq (ev_bor (i := 6) rfl))) (et_name (i := 9) (by decide) rfl) (es_if (ef_b (eb_or (eb_not (eb_B (ev_frz (en_cl (sf := s__law_numbers_right) (ms := [(.bor .fz), (.bor .fz), (.bor .fz)]) (rt := .fz) (em_cons (ev_bor (i := 9) rfl) (em_cons (ev_bor (i := 7) rfl) (em_cons (ev_bor (i := 8) rfl) em_nil))) dv_nil rfl)))) (eb_not (eb_B (ev_frz (en_cl (sf := s__law_numbers_right) (ms := [(.bor .fz), (.bor .fz), (.bor .fz)]) (rt := .fz) (em_cons (ev_bor (i := 9) rfl) (em_cons ev_int (em_cons (ev_op (ev_op ev_int ev_int (o2_pow (t3 := .fz))) ev_int (o2_sub (t3 := .fz))) em_nil))) dv_nil rfl)))))) (es_ret (ef_p ev_bl)) es_next)) 
      (es_seq (es_asg (i := 10) (t1 := .fz) (by decide) rfl (ef_p ev_str)) 
      (es_seq (es_asgO (i := 11) (t1 := (.lst .fz)) (by decide) rfl (ef_n (en_lst ea_nil rfl))) 
      (es_seq (es_for (fi_r1 (fa_cons (ef_o2 (ef_p ev_int) (ef_cl (sf := s__law_take) (ms := [(.own (.lst .fz)), (.bor .fz)]) (rt := .fz) (aks := [.own 2, .fz]) (k := 2) (n := 1) (.own rfl (.fz .nil)) (by decide) dv_nil rfl (fx_own (i := 2) (by decide) (fx_fz (ef_p ev_int) fx_nil))) o2_add) fa_nil)) (et_name (i := 12) (by decide) rfl) (es_app (i := 11) (t1 := .fz) rfl (ef_m1 (ef_p ev_str) (ef_frz (ef_lc (vs := [5]) (fun i hi => by simp only [List.mem_cons, List.not_mem_nil, or_false] at hi; rcases hi with rfl <;> exact ⟨_, rfl⟩) (fi_r1 (fa_cons (ef_o2 (ef_p ev_int) (ef_cl (sf := s__law_take) (ms := [(.own (.lst .fz)), (.bor .fz)]) (rt := .fz) (aks := [.own 2, .fz]) (k := 2) (n := 1) (.own rfl (.fz .nil)) (by decide) dv_nil rfl (fx_own (i := 2) (by decide) (fx_fz (ef_p ev_int) fx_nil))) o2_add) fa_nil)) (eta_name (i := 5) (by decide) rfl) (ef_b eb_yes) (ef_o2 (ef_p (ev_bor (i := 10) rfl)) (ef_cl (sf := s__law_take) (ms := [(.own (.lst .fz)), (.bor .fz)]) (rt := .fz) (aks := [.own 2, .fz]) (k := 2) (n := 1) (.own rfl (.fz .nil)) (by decide) dv_nil rfl (fx_own (i := 2) (by decide) (fx_fz (ef_p ev_int) fx_nil))) (o2_ix (t2 := .fz))))) (o2_join (t2 := .fz) (t3 := .fz))))) 
      (es_seq (es_par (i := 13) (j := 14) (by decide) (by decide) rfl rfl (.fz _) (.fz _) (ef_p (ev_m1 ev_str (ev_own (i := 11) rfl) (o2_join (t3 := .fz)))) (ef_o2 (ef_p (ev_frz (en_lst (ea_cons ev_str (ea_cons ev_str (ea_cons ev_str (ea_cons ev_str ea_nil)))) rfl))) (ef_cl (sf := s__law_take) (ms := [(.own (.lst .fz)), (.bor .fz)]) (rt := .fz) (aks := [.own 2, .fz]) (k := 2) (n := 1) (.own rfl (.fz .nil)) (by decide) dv_nil rfl (fx_own (i := 2) (by decide) (fx_fz (ef_p ev_int) fx_nil))) (o2_ix (t2 := .fz)))) 
      (es_for (fi_seq (ef_frz (ef_lst (fa_cons (ef_p (ev_bor (i := 13) rfl)) (fa_cons (ef_p (ev_op (ev_bor (i := 13) rfl) ev_str o2_add)) (fa_cons (ef_p (ev_op ev_str (ev_bor (i := 13) rfl) o2_add)) (fa_cons (ef_p (ev_m1 (ev_bor (i := 14) rfl) (ev_own (i := 11) rfl) (o2_join (t3 := .fz)))) (fa_cons (ef_p (ev_op (ev_bor (i := 13) rfl) (ev_bor (i := 14) rfl) o2_add)) (fa_cons (ef_p ev_str) (fa_cons (ef_p ev_str) (fa_cons (ef_cl (sf := s__law_any_value) (ms := [(.own (.lst .fz))]) (rt := .fz) (aks := [.own 2]) (k := 2) (n := 1) (.own rfl .nil) (by decide) dv_nil rfl (fx_own (i := 2) (by decide) fx_nil)) (fa_cons (ef_frz (ef_take (i := 11) rfl)) fa_nil)))))))))))) (et_name (i := 9) (by decide) rfl) (es_if (ef_b (eb_not (eb_B (ev_frz (en_cl (sf := s__law_equal) (ms := [(.bor (.lst .fz)), (.bor .fz)]) (rt := .fz) (em_cons (ev_any (ev_frz (en_cl (sf := s_words_of) (ms := [(.bor .fz)]) (rt := .fz) (em_cons (ev_bor (i := 9) rfl) em_nil) dv_nil rfl))) (em_cons (ev_frz (en_cl (sf := s__law_words_expected) (ms := [(.bor .fz)]) (rt := .fz) (em_cons (ev_bor (i := 9) rfl) em_nil) dv_nil rfl)) em_nil)) dv_nil rfl))))) (es_ret (ef_p ev_bl)) es_next)))))))))))))) 
      (es_ret (ef_p ev_bl)))
  exact ⟨_, (pss_cons (ps_for (passes_of rfl) rfl (pi_range1 (by rfl) T.n_range (pa_cons (pe_callB (zc_max2 rfl) (by rfl) T.n_max (by decide +kernel) (pa_cons pe_int (pa_cons (pe_callB (zc_min2 rfl) (by rfl) T.n_min (by decide +kernel) (pa_cons pe_int (pa_cons (pe_callB (cK (K := G.K) rLenU rfl zc_len) (by rfl) T.n_len (by decide +kernel) (pa_cons (pv 0) pa_nil)) pa_nil))) pa_nil))) pa_nil)) (pg_name (i := 1) sc_law.nd rfl (Or.inl rfl)) (pss_cons (ps_set (i := 2) sc_law.nd rfl (Or.inr rfl) (pe_cl (E := fun _ => E) (ok__law_box T) (hr.mono (by decide)) hG (by rfl) T.m__law_box T.F__law_box.kp T.b__law_box .nil (fun σ => passAt (takes_of rfl rfl rfl rfl) σ) (pa_cons (pe_cl (E := fun _ => E) (ok__law_cell T) (hr.mono (by decide)) hG (by rfl) T.m__law_cell T.F__law_cell.kp T.b__law_cell .nil (fun σ => passAt (takes_of rfl rfl rfl rfl) σ) (pa_cons (pv 0) (pa_cons (pv 1) pa_nil))) pa_nil))) 
      (pss_cons (ps_set (i := 3) sc_law.nd rfl (Or.inl rfl) (pe_ix (ixK (K := G.K) rfl (hu1 hr)) (pe_lst (pa_cons (pe_cl (E := fun _ => E) (ok__law_take T) (hr.mono (by decide)) hG (by rfl) T.m__law_take T.F__law_take.kp T.b__law_take .nil (fun σ => passAt (takes_of rfl rfl rfl rfl) σ) (pa_cons (pv 2) (pa_cons pe_int pa_nil))) (pa_cons (pe_op (oK (K := G.K) rAddU rfl zo_add) (pe_op zo_sub pe_int pe_int) (pe_cl (E := fun _ => E) (ok__law_take T) (hr.mono (by decide)) hG (by rfl) T.m__law_take T.F__law_take.kp T.b__law_take .nil (fun σ => passAt (takes_of rfl rfl rfl rfl) σ) (pa_cons (pv 2) (pa_cons pe_int pa_nil)))) (pa_cons (pe_cl (E := fun _ => E) (ok__law_take T) (hr.mono (by decide)) hG (by rfl) T.m__law_take T.F__law_take.kp T.b__law_take .nil (fun σ => passAt (takes_of rfl rfl rfl rfl) σ) (pa_cons (pv 2) (pa_cons (pe_op zo_pow pe_int pe_int) pa_nil))) (pa_cons (pe_op zo_sub (pe_op zo_pow pe_int pe_int) pe_int) pa_nil))))) (pe_cl (E := fun _ => E) (ok__law_take T) (hr.mono (by decide)) hG (by rfl) T.m__law_take T.F__law_take.kp T.b__law_take .nil (fun σ => passAt (takes_of rfl rfl rfl rfl) σ) (pa_cons (pv 2) (pa_cons pe_int pa_nil))) (fun _ _ => rfl))) 
      (pss_cons (ps_par (i := 4) (j := 5) (by rfl) sc_law.nd rfl rfl (by decide) rfl rfl (pa_cons (pe_callTy zc_strN (by rfl) T.n_str (by decide +kernel) (pa_cons (pv 3) pa_nil)) (pa_cons (pe_cl (E := fun _ => E) (ok__law_take T) (hr.mono (by decide)) hG (by rfl) T.m__law_take T.F__law_take.kp T.b__law_take .nil (fun σ => passAt (takes_of rfl rfl rfl rfl) σ) (pa_cons (pv 2) (pa_cons (pe_op (oK (K := G.K) rAddU rfl zo_add) (pe_callB (cK (K := G.K) rLenU rfl zc_len) (by rfl) T.n_len (by decide +kernel) (pa_cons (pe_callTy zc_strN (by rfl) T.n_str (by decide +kernel) (pa_cons (pv 3) pa_nil)) pa_nil)) pe_int) pa_nil))) pa_nil)) (by rfl)) 
      (pss_cons (ps_set (i := 6) sc_law.nd rfl (Or.inl rfl) (pe_lst (pa_cons (pv 4) (pa_cons (pe_op (oK (K := G.K) rAddU rfl zo_add) pe_str (pv 4)) (pa_cons (pe_op (oK (K := G.K) rAddU rfl zo_add) pe_str (pv 4)) (pa_cons (pe_op (oK (K := G.K) rAddU rfl zo_add) (pv 4) pe_str) (pa_cons (pe_op (oK (K := G.K) rAddU rfl zo_add) pe_str (pv 4)) (pa_cons (pe_op (oK (K := G.K) rAddU rfl zo_add) pe_str (pv 4)) (pa_cons (pe_op (oK (K := G.K) rAddU rfl zo_add) (pe_op (oK (K := G.K) rAddU rfl zo_add) (pe_slice (slK (K := G.K) rfl) (pv 4) po_none (po_some (pv 5))) pe_str) (pe_slice (slK (K := G.K) rfl) (pv 4) (po_some (pv 5)) po_none)) (pa_cons (pe_slice (slK (K := G.K) rfl) (pv 4) po_none (po_some (pv 5))) pa_nil)))))))))) 
      (pss_cons (ps_set (i := 6) sc_law.nd rfl (Or.inl rfl) (pe_op (oK (K := G.K) rAddU rfl zo_add) (pv 6) (pe_lst (pa_cons (pe_op (oK (K := G.K) rAddU rfl zo_add) (pe_op (oK (K := G.K) rAddU rfl zo_add) (pe_slice (slK (K := G.K) rfl) (pv 4) po_none (po_some (pv 5))) pe_str) (pe_slice (slK (K := G.K) rfl) (pv 4) (po_some (pv 5)) po_none)) (pa_cons (pe_op (oK (K := G.K) rAddU rfl zo_add) (pv 4) pe_str) (pa_cons pe_str (pa_cons pe_str (pa_cons pe_str (pa_cons (pe_op (oK (K := G.K) rAddU rfl zo_add) (pv 4) pe_str) (pa_cons (pv 3) (pa_cons (pe_op zo_mul pe_str pe_int) (pa_cons (pe_cl (E := fun _ => E) (ok__law_any_value T) (hr.mono (by decide)) hG (by rfl) T.m__law_any_value T.F__law_any_value.kp T.b__law_any_value .nil (fun σ => passAt (takes_of rfl rfl rfl rfl) σ) (pa_cons (pv 2) pa_nil)) pa_nil)))))))))))) 
      (pss_cons (ps_par (i := 7) (j := 8) (by rfl) sc_law.nd rfl rfl (by decide) rfl rfl (pa_cons (pe_op (oK (K := G.K) rAddU rfl zo_add) (pe_op zo_sub (pv 3) pe_int) (pe_cl (E := fun _ => E) (ok__law_take T) (hr.mono (by decide)) hG (by rfl) T.m__law_take T.F__law_take.kp T.b__law_take .nil (fun σ => passAt (takes_of rfl rfl rfl rfl) σ) (pa_cons (pv 2) (pa_cons pe_int pa_nil)))) (pa_cons (pe_op (oK (K := G.K) rAddU rfl zo_add) (pe_op zo_sub (pv 3) pe_int) (pe_cl (E := fun _ => E) (ok__law_take T) (hr.mono (by decide)) hG (by rfl) T.m__law_take T.F__law_take.kp T.b__law_take .nil (fun σ => passAt (takes_of rfl rfl rfl rfl) σ) (pa_cons (pv 2) (pa_cons pe_int pa_nil)))) pa_nil)) (by rfl)) 
      (pss_cons (ps_for (passes_of rfl) rfl (pi_seqK (K := G.K) rfl (pv 6)) (pg_name (i := 9) sc_law.nd rfl (Or.inl rfl)) (pss_one (ps_if (PW.pt (pw_or (pt_not (pt_val (pe_cl (E := fun _ => E) (ok__law_numbers_right T) (hr.mono (by decide)) hG (by rfl) T.m__law_numbers_right T.F__law_numbers_right.kp T.b__law_numbers_right .nil (fun σ => passAt (takes_of rfl rfl rfl rfl) σ) (pa_cons (pv 9) (pa_cons (pv 7) (pa_cons (pv 8) pa_nil)))))) (pw_or1 (pt_not (pt_val (pe_cl (E := fun _ => E) (ok__law_numbers_right T) (hr.mono (by decide)) hG (by rfl) T.m__law_numbers_right T.F__law_numbers_right.kp T.b__law_numbers_right .nil (fun σ => passAt (takes_of rfl rfl rfl rfl) σ) (pa_cons (pv 9) (pa_cons pe_int (pa_cons (pe_op zo_sub (pe_op zo_pow pe_int pe_int) pe_int) pa_nil))))))))) (pss_one (ps_ret pe_bl)) pss_nil))) 
      (pss_cons (ps_set (i := 10) sc_law.nd rfl (Or.inr rfl) pe_str) 
      (pss_cons (ps_set (i := 11) sc_law.nd rfl (Or.inl rfl) (pe_lst pa_nil)) 
      (pss_cons (ps_for (passes_of rfl) rfl (pi_range1 (by rfl) T.n_range (pa_cons (pe_op (oK (K := G.K) rAddU rfl zo_add) pe_int (pe_cl (E := fun _ => E) (ok__law_take T) (hr.mono (by decide)) hG (by rfl) T.m__law_take T.F__law_take.kp T.b__law_take .nil (fun σ => passAt (takes_of rfl rfl rfl rfl) σ) (pa_cons (pv 2) (pa_cons pe_int pa_nil)))) pa_nil)) (pg_name (i := 12) sc_law.nd rfl (Or.inl rfl)) (pss_one (ps_expr (pe_bmK (a := "append") (K := G.K) rfl PySem.F.plainAttrs_list PySem.F.slot_list_append PySem.F.type_list_append mt_append (pv 11) (pa_cons (pe_joinK (K := G.K) rfl pe_str (pe_lc (own := [("at", 5)]) rfl sc_law.nd (pi_range1 (by rfl) T.n_range (pa_cons (pe_op (oK (K := G.K) rAddU rfl zo_add) pe_int (pe_cl (E := fun _ => E) (ok__law_take T) (hr.mono (by decide)) hG (by rfl) T.m__law_take T.F__law_take.kp T.b__law_take .nil (fun σ => passAt (takes_of rfl rfl rfl rfl) σ) (pa_cons (pv 2) (pa_cons pe_int pa_nil)))) pa_nil)) (blkOk_by (N := ["script", "k", "box", "number", "text", "at", "some", "least", "most", "value", "signs", "words", "turn", "line", "bad"]) (sc := defScope st_law) (by decide +kernel)) (fun _ _ _ _ _ => (pg_name (i := 5) sc_law.nd rfl (Or.inl rfl))) (fun _ _ _ _ _ => pts_nil) (fun _ _ _ _ _ => (pe_ix (ixK (K := G.K) rfl (hu1 hr)) (pv 10) (pe_cl (E := E0k) (ok__law_take T) (hr.mono (by decide)) hG (by rfl) T.m__law_take T.F__law_take.kp T.b__law_take .nil pz (pa_cons (pv 2) (pa_cons pe_int pa_nil))) (fun _ _ => rfl))))) pa_nil))))) 
      (pss_cons (ps_par (i := 13) (j := 14) (by rfl) sc_law.nd rfl rfl (by decide) rfl rfl (pa_cons (pe_joinK (K := G.K) rfl pe_str (pv 11)) (pa_cons (pe_ix (ixK (K := G.K) rfl (hu1 hr)) (pe_lst (pa_cons pe_str (pa_cons pe_str (pa_cons pe_str (pa_cons pe_str pa_nil))))) (pe_cl (E := fun _ => E) (ok__law_take T) (hr.mono (by decide)) hG (by rfl) T.m__law_take T.F__law_take.kp T.b__law_take .nil (fun σ => passAt (takes_of rfl rfl rfl rfl) σ) (pa_cons (pv 2) (pa_cons pe_int pa_nil))) (fun _ _ => rfl)) pa_nil)) (by rfl)) 
      (pss_one (ps_for (passes_of rfl) rfl (pi_seqK (K := G.K) rfl (pe_lst (pa_cons (pv 13) (pa_cons (pe_op (oK (K := G.K) rAddU rfl zo_add) (pv 13) pe_str) (pa_cons (pe_op (oK (K := G.K) rAddU rfl zo_add) pe_str (pv 13)) (pa_cons (pe_joinK (K := G.K) rfl (pv 14) (pv 11)) (pa_cons (pe_op (oK (K := G.K) rAddU rfl zo_add) (pv 13) (pv 14)) (pa_cons pe_str (pa_cons pe_str (pa_cons (pe_cl (E := fun _ => E) (ok__law_any_value T) (hr.mono (by decide)) hG (by rfl) T.m__law_any_value T.F__law_any_value.kp T.b__law_any_value .nil (fun σ => passAt (takes_of rfl rfl rfl rfl) σ) (pa_cons (pv 2) pa_nil)) (pa_cons (pv 11) pa_nil))))))))))) (pg_name (i := 9) sc_law.nd rfl (Or.inl rfl)) (pss_one (ps_if (pt_not (pt_val (pe_cl (E := fun _ => E) (ok__law_equal T) (hr.mono (by decide)) hG (by rfl) T.m__law_equal T.F__law_equal.kp T.b__law_equal .nil (fun σ => passAt (takes_of rfl rfl rfl rfl) σ) (pa_cons (pe_cl (E := fun _ => E) (ok_words_of T) (hr.mono (by decide)) hG (by rfl) T.m_words_of T.F_words_of.kp T.b_words_of .nil (fun σ => passAt (takes_of rfl rfl rfl rfl) σ) (pa_cons (pv 9) pa_nil)) (pa_cons (pe_cl (E := fun _ => E) (ok__law_words_expected T) (hr.mono (by decide)) hG (by rfl) T.m__law_words_expected T.F__law_words_expected.kp T.b__law_words_expected .nil (fun σ => passAt (takes_of rfl rfl rfl rfl) σ) (pa_cons (pv 9) pa_nil)) pa_nil))))) (pss_one (ps_ret pe_bl)) pss_nil)))))))))))))))) 
      (pss_one (ps_ret pe_bl))), fin_F (N := ["script", "k", "box", "number", "text", "at", "some", "least", "most", "value", "signs", "words", "turn", "line", "bad"]) h rfl rfl (fun _ _ => rfl) (.fz .non) rfl ev⟩

end
local macro_rules | `(tactic| walk_at "y") => `(tactic| try simp only [vw_sSeq, vw_sNext, vw_sBrk, vw_sCont, vw_sNever, vw_sRet, vw_sRetN, vw_sDrop, vw_sIf, vw_sAsg, vw_sAsgG, vw_tgN, vw_tgNil, vw_tgCons, vw_tgT, vw_sFor, vw_sWhile, vw_sPar, vw_sPar3, vw_sApp, vw_sSetI, vw_fnO,
  vw_pE, vw_eOp, vw_eUn, vw_eCons, vw_eArg, vw_eArgN, vw_eTst, vw_cAnd, vw_cOr, vw_cNot, vw_eIf, vw_eAnd, vw_eOr, vw_eTake, vw_xNil, vw_xSlot, vw_eCall, vw_fnil, vw_ffz, vw_fbor, vw_fown, putA_own, putA_fz, putA_bor, putA_nil, vw_pI, vw_eIt, vw_eSeq, vw_eLc,
  vw_pVar, vw_pC, vw_pOp, vw_pUn, vw_pNil, vw_pCons, vw_pArg, vw_pTst, vw_bAnd, vw_bOr, vw_bNot, vw_bYes, vw_pAnd, vw_pOr, vw_pNot, vw_pIf, vw_pChain, vw_pSca, vw_pCall, vw_asB, vw_pNone, vw_pSome, vw_asI, vw_pSl, vw_pLc, vw_pIt, vw_pSeq,
  vwR_ok, vwR_ex, vwR_no, vwO_ok, vwO_ex, vwO_no, vwS_nx, vwS_rt, vwS_bk, vwS_ct, vwS_ex, vwS_no, vwF_some, vwF_none, vgE_0, vgE_s, vgE_n, vgL_0, vgL_s, mkE,
  vw_addI, vw_addS, vw_addL, vw_mulI, vw_mulL, vw_sub, vw_div, vw_mod, vw_pow, vw_shl, vw_lt, vw_le, vw_gt, vw_ge, vw_neg, vw_eqI, vw_neI, vw_eqS, vw_neS, vw_isNN, vw_isIN, vw_isB, vw_isIB, vw_isNNn, vw_isINn, vw_isBn, vw_isIBn, vw_ixL, vw_ixT, vw_slL, vw_slT, vw_opLst, vw_opTup, vw_lenL, vw_lenT, vw_max2, vw_min2, vw_intI, vw_intB, vw_listL, vw_listT, vw_tupL, vw_tupT, vw_isi, vw_r1, vw_r2, vw_rf, vw_rf1, vw_rN, vw_seqL, vw_seqT, vw_enum, vw_zip, vw_sum, vw_pMaxD, vw_maxD, vw_tgTUt, vw_tgTUl, vw_pApp, vw_opStr, vw_strN, vw_joinL, vw_split, vw_ixS, vw_slS, vw_seqS, vw_inSS, vw_ninSS, vw_lenS, vw_fldD, vw_asO, vw_sSetF, vw_pMake, vw_pMeth, vw_clsIs, mk1_ok, putD, lookD, noKey, vw_maxDT, vw_enumL, vw_enumT, vw_mulS, vw_addS, vw_lenL, vw_eqB, vw_neB, gN_0, gN_s, unwip_c, unwip_n, vw_max1, vw_LR1, vw_LR2, vw_pDic1, vw_all, vw_any, vw_repr,
  List.set_cons_zero, List.set_cons_succ, List.cons_append, List.nil_append, List.append_nil, fullE, keepE, wipD,
  decide_eq_true_eq, decide_eq_false_iff_not, Bool.not_eq_true', Bool.not_eq_false', Bool.not_true, Bool.not_false, Bool.true_eq_false, Bool.false_eq_true, decide_true, decide_false, true_and, and_true, false_and, and_false, true_implies, false_implies, implies_true, forall_const, if_true, if_false, reduceCtorEq, eq_self_iff_true, not_true_eq_false, not_false_eq_true, or_true, true_or, or_false, false_or, List.length_cons, List.length_nil, Nat.reduceAdd, Nat.reduceSub, Nat.reduceLeDiff, atI_0, atI_1, atI_2, atI_3, atI_4, ixN_0, ixN_1, ixN_2, ixN_3, List.any_cons, List.any_nil, isi1, tyIs, un, Bool.or_false, Bool.false_or, Bool.or_true, Bool.true_or, Bool.true_and, Bool.and_true, Bool.false_and, Bool.and_false, and_self, not_false_eq_true, Int.zero_add, Option.map_some, Int.reduceToNat, Int.reducePow, Int.reduceMul, Int.reduceAdd, Int.reduceSub, Int.reduceNeg, Int.reduceDiv, Int.reduceMod, Int.reduceLT, Int.reduceLE, Int.reduceEq, Int.reduceNe, Int.reduceAbs, Nat.reducePow, Nat.reduceLT, Nat.reduceEqDiff, Nat.reduceMul, Int.reduceGT, Int.reduceGE, gt_iff_lt, ge_iff_le])
local macro_rules | `(tactic| walk_at "yi") => `(tactic| (simp only [List.forall_mem_cons]; (repeat' refine And.intro ⟨_, rfl, by omega, by omega⟩ ?_); exact fun d hd => absurd hd List.not_mem_nil))
local macro_rules | `(tactic| walk_at "yb") => `(tactic| ((repeat' apply And.intro) <;> first | decide | omega | exact bd_i (by omega) (by omega) | (unfold Sz; (try simp only [List.length_append, List.length_map, List.length_cons, List.length_nil, List.length_replicate]); omega)))
local macro_rules | `(tactic| walk_at "ya") => `(tactic| ((with_reducible refine And.intro ?g1 ?_); (case g1 => walk_at "yb"); walk_at "y"))
local macro_rules | `(tactic| walk_at "z") => `(tactic| try simp only [w_sSeq, w_sNext, w_sBrk, w_sCont, w_sNever, w_sRet, w_sRetN, w_sDrop, w_sIf, w_sAsg, w_sAsgG, w_tgN, w_tgNil, w_tgCons, w_tgT, w_sFor, w_sWhile, w_sPar, w_sPar3, w_sApp, w_sSetI, w_fnO,
  w_pE, w_eOp, w_eUn, w_eCons, w_eArg, w_eArgN, w_eTst, w_cAnd, w_cOr, w_cNot, w_eIf, w_eAnd, w_eOr, w_eTake, w_xNil, w_xSlot, w_eCall, w_fnil, w_ffz, w_fbor, w_fown, putA_own, putA_fz, putA_bor, putA_nil, w_pI, w_eIt, w_eSeq, w_eLc,
  w_pVar, w_pC, w_pOp, w_pUn, w_pNil, w_pCons, w_pArg, w_pTst, w_bAnd, w_bOr, w_bNot, w_bYes, w_pAnd, w_pOr, w_pNot, w_pIf, w_pChain, w_pSca, w_pCall, w_asB, w_pNone, w_pSome, w_asI, w_pSl, w_pLc, w_pIt, w_pSeq,
  wR_ok, wR_ex, wR_no, wO_ok, wO_ex, wO_no, wS_nx, wS_rt, wS_bk, wS_ct, wS_ex, wS_no, wF_some, wF_none, gE_0, gE_s, gE_n, gL_0, gL_s, mkE,
  w_addI, w_addS, w_addL, w_mulI, w_mulL, w_sub, w_div, w_mod, w_pow, w_shl, w_lt, w_le, w_gt, w_ge, w_neg, w_eqI, w_neI, w_eqS, w_neS, w_isNN, w_isIN, w_isB, w_isIB, w_isNNn, w_isINn, w_isBn, w_isIBn, w_ixL, w_ixT, w_slL, w_slT, w_opLst, w_opTup, w_lenL, w_lenT, w_max2, w_min2, w_intI, w_intB, w_listL, w_listT, w_tupL, w_tupT, w_isi, w_r1, w_r2, w_rf, w_rf1, w_rN, w_seqL, w_seqT, w_enum, w_zip, w_sum, w_all, w_any, w_repr,
  List.set_cons_zero, List.set_cons_succ, List.cons_append, List.nil_append, List.append_nil, fullE, keepE, wipD,
  decide_eq_true_eq, decide_eq_false_iff_not, Bool.not_eq_true', Bool.not_eq_false', Bool.not_true, Bool.not_false, Bool.true_eq_false, Bool.false_eq_true, decide_true, decide_false, true_and, and_true, false_and, and_false, true_implies, false_implies, implies_true, forall_const, if_true, if_false, reduceCtorEq, eq_self_iff_true, not_true_eq_false, not_false_eq_true, or_true, true_or, or_false, false_or, List.length_cons, List.length_nil, Nat.reduceAdd, Nat.reduceSub, Nat.reduceLeDiff, atI_0, atI_1, atI_2, atI_3, atI_4, ixN_0, ixN_1, ixN_2, ixN_3, List.any_cons, List.any_nil, isi1, tyIs, un, Bool.or_false, Bool.false_or, Bool.or_true, Bool.true_or, Bool.true_and, Bool.and_true, Bool.false_and, Bool.and_false, and_self, not_false_eq_true, Int.zero_add, Option.map_some, Int.reduceToNat, Int.reducePow, Int.reduceMul, Int.reduceAdd, Int.reduceSub, Int.reduceNeg, Int.reduceDiv, Int.reduceMod, Int.reduceLT, Int.reduceLE, Int.reduceEq, Int.reduceNe, Int.reduceAbs, Nat.reducePow, Nat.reduceLT, Nat.reduceEqDiff, Nat.reduceMul, Int.reduceGT, Int.reduceGE, gt_iff_lt, ge_iff_le])

/-! ## values of whatever kind -/
def noCel : D → Prop
  | .cel _ _ => False
  | _ => True
def whD (lo hi : Int) : D → Bool
  | .int v => decide (lo ≤ v ∧ v ≤ hi)
  | _ => false

/-! ## names -/
def strBd : D → Prop
  | .str s => s.length ≤ 100 ∧ PyData.strOk s = true
  | _ => True
def inLet (c : Nat) : Bool := strIn ⟨#[c]⟩ "abcdefghijklmnopqrstuvwxyz"
def nameS (s : Str) : Bool := decide (1 ≤ s.length ∧ s.length ≤ 8) && s.cps.toList.all inLet
def nameD : D → Bool
  | .str s => nameS s
  | _ => false
def chD (c : Nat) : D := .str ⟨#[c]⟩
theorem charsD_len (s : Str) : (charsD s).length = s.length := by
  unfold charsD
  rw [List.length_map, Array.length_toList]
  rfl
theorem charsD_eq (s : Str) : charsD s = s.cps.toList.map chD := rfl
theorem strOk_mem {s : Str} (h : PyData.strOk s = true) : ∀ c ∈ s.cps.toList, c < 0x110000 := fun c hc => by
  unfold PyData.strOk at h
  rw [Array.all_eq_true'] at h
  simpa using h c (by simpa using hc)
theorem chars_g : ∀ {l : List Nat}, (∀ c ∈ l, c < 0x110000) → gIs (l.map chD)
  | [], _ => by simp [gIs]
  | c :: l, h => by
    simp only [List.map_cons, gIs]
    exact ⟨by unfold chD; simp [gI, PyData.strOk, h c List.mem_cons_self], chars_g fun c hc => h c (List.mem_cons_of_mem _ hc)⟩
theorem chars_w : ∀ (l : List Nat), wIs (l.map chD) = 14 * l.length
  | [] => rfl
  | n :: ns => by
    have b := chars_w ns
    simp only [List.map_cons, wIs, chD, wI, List.length_cons]
    simp only [List.size_toArray, List.length_cons, List.length_nil]
    omega
theorem chars_d : ∀ (l : List Nat), dIs (l.map chD) = 0
  | [] => rfl
  | n :: ns => by
    have b := chars_d ns
    simp only [List.map_cons, dIs, chD, dI]
    omega
theorem okE_chars {l : List Nat} (h : ∀ c ∈ l, c < 0x110000) (hl : l.length ≤ 1000) : okE (.lst (l.map chD)) :=
  okE_of (by simp only [gI]; exact chars_g h) (by simp only [wI, chars_w]; omega) (by simp only [dI, chars_d]; omega)
theorem eqD_chars (l : List Nat) : eqD (.lst (l.map chD)) (.lst []) = decide (l = []) := by
  cases l with
  | nil => simp [eqD, toP, toPs, PyData.eqv, PyData.eqvAll]
  | cons n ns => simp [eqD, toP, toPs, PyData.eqv, PyData.eqvAll]
theorem ix_g {α : Type} {Q : α → Prop} {xs : List α} {r : Int} (C : α → Prop) (h0 : 0 ≤ r) (h1 : r < xs.length) (hx : ∀ d ∈ xs, C d) (q : ∀ d, C d → Q d) : vF (P := ⟨Q⟩) (atI xs r) := by
  have hl : r.toNat < xs.length := by omega
  rw [atI_lt h0, List.getElem?_eq_getElem hl]
  exact vF_mk (q _ (hx _ (List.getElem_mem hl)))
theorem join_ones : ∀ ss : List Nat, TL.joinL [] (ss.map fun c => [c]) = ss
  | [] => rfl
  | [c] => rfl
  | c :: d :: ss => by
    have := join_ones (d :: ss)
    show [c] ++ ([] ++ TL.joinL [] ((d :: ss).map fun c => [c])) = _
    rw [this]
    rfl
theorem join_chars (ss : List Nat) : Txt.join (Str.ofString "") (ss.map fun c => SX.S [c]) = SX.S ss := by
  have e := SX.join_S [] (ss.map fun c => [c])
  rw [List.map_map, join_ones] at e
  exact e
theorem S_ok {l : List Nat} (h : ∀ c ∈ l, c < 0x110000) : PyData.strOk (SX.S l) = true := by
  unfold PyData.strOk
  rw [Array.all_eq_true']
  intro c hc
  exact decide_eq_true (h c (by simpa using hc))
theorem seq_S (l : List Nat) : (SX.S l).length = l.length := SX.S_len l
theorem ofString_ok (s : String) : PyData.strOk (Str.ofString s) = true := by
  unfold PyData.strOk
  rw [Array.all_eq_true']
  intro c hc
  have h : c ∈ TL.tl (Str.ofString s) := by simpa [TL.tl] using hc
  rw [TL.tl_ofString] at h
  obtain ⟨ch, _, rfl⟩ := List.mem_map.mp h
  refine decide_eq_true ?_
  rcases ch.valid with z | z
  · exact Nat.lt_trans z (by decide)
  · exact z.2
theorem strI_len {i : Int} (h : i.natAbs < 10 ^ 70) : (strI i).length ≤ 71 := by
  have := gI_shn (.int i) (by simpa only [gI] using h)
  simp only [toP, PyData.shown, wI] at this
  exact this
theorem strI_bd {i : Int} (h : -(10 ^ 60) ≤ i ∧ i ≤ 10 ^ 60) : strBd (.str (strI i)) :=
  ⟨Nat.le_trans (strI_len (by omega)) (by decide), ofString_ok _⟩
/-! ## drawn names -/
structure NmOk (nm : Str) : Prop where
  n : nameS nm = true
  b : strBd (.str nm)
abbrev LET : Str := "abcdefghijklmnopqrstuvwxyz"
theorem let_list : LET.cps.toList = (List.range' 97 26) := by decide +kernel
theorem let_mem : ∀ c ∈ LET.cps.toList, 97 ≤ c ∧ c ≤ 122 := by
  rw [let_list]
  intro c hc
  rw [List.mem_range'_1] at hc
  omega
theorem inLet_of {c : Nat} (h : 97 ≤ c ∧ c ≤ 122) : inLet c = true := by
  have e := SX.in_one LET.cps.toList c
  have h2 : inLet c = !(Builtin.Str.occurrences (SX.S LET.cps.toList) (SX.S [c]) 0 (SX.S LET.cps.toList).length 1).isEmpty := rfl
  rw [h2, e, let_list]
  exact decide_eq_true (List.mem_range'_1.mpr (by omega))
theorem nm_S {l : List Nat} (h1 : 1 ≤ l.length) (h2 : l.length ≤ 8) (h : ∀ c ∈ l, 97 ≤ c ∧ c ≤ 122) : NmOk (SX.S l) := by
  refine ⟨?_, by rw [seq_S]; omega, S_ok fun c hc => by have := h c hc; omega⟩
  unfold nameS
  rw [seq_S, decide_eq_true ⟨h1, h2⟩, Bool.true_and, List.all_eq_true]
  intro c hc
  exact inLet_of (h c hc)
theorem mul_S (c : Nat) (n : Int) : Txt.mul ⟨#[c]⟩ n = SX.S (List.replicate n.toNat c) := by
  refine TL.ext_tl ?_
  have := PyProof.Rows.mul_one_list c n
  simpa [TL.tl, SX.S] using this
theorem cut_lo {l : List Nat} {k : Int} (h0 : 0 ≤ k) : cutS (SX.S l) none (some k) = SX.S (l.take k.toNat) := by
  obtain ⟨n, rfl⟩ := Int.eq_ofNat_of_zero_le h0
  unfold cutS
  rw [HT.sIx_none, HT.sIx_nat, List.drop_zero, Nat.sub_zero, Int.toNat_natCast]
  show SX.S (l.take (min n (SX.S l).length)) = _
  rw [seq_S]
  by_cases z : n ≤ l.length
  · rw [Nat.min_eq_left z]
  · rw [Nat.min_eq_right (by omega), List.take_length, List.take_of_length_le (by omega)]
theorem cut_hi {l : List Nat} {k : Int} (h0 : 0 ≤ k) : cutS (SX.S l) (some k) none = SX.S (l.drop k.toNat) := by
  obtain ⟨n, rfl⟩ := Int.eq_ofNat_of_zero_le h0
  unfold cutS
  rw [HT.sIx_none, HT.sIx_nat, Int.toNat_natCast]
  show SX.S ((l.drop (min n (SX.S l).length)).take ((SX.S l).length - min n (SX.S l).length)) = _
  rw [seq_S]
  by_cases z : n ≤ l.length
  · rw [Nat.min_eq_left z, List.take_of_length_le (by rw [List.length_drop]; omega)]
  · rw [Nat.min_eq_right (by omega), List.drop_length, List.drop_of_length_le (by omega)]; simp
/-- the twenty words -/
abbrev WRD : Str := "job none cut even undo stack blade lath drop names counts pieces left strokes can finish measure ok bar plan"
theorem wrd_split : Txt.split WRD " " = (TL.spl [32] 0 [] WRD.cps.toList).map SX.S := by
  have := SX.split_S (a := WRD.cps.toList) (b := [32]) (by decide) (by decide)
  exact this
theorem wrd_len : (TL.spl [32] 0 [] WRD.cps.toList).length = 20 := by decide +kernel
theorem wrd_ok : ∀ l ∈ TL.spl [32] 0 [] WRD.cps.toList, 1 ≤ l.length ∧ l.length ≤ 8 ∧ ∀ c ∈ l, 97 ≤ c ∧ c ≤ 122 := by decide +kernel
theorem mapo_ex {C : D → Prop} {f : D → Rs (Option D)} : ∀ {ds : List D}, (∀ d ∈ ds, vR (P := ⟨fun o => ∃ y, o = some y ∧ C y, fun _ _ => False⟩) (f d)) → ∃ es, mapO f ds = .ok es ∧ es.length = ds.length ∧ ∀ e ∈ es, C e
  | [], _ => ⟨[], rfl, rfl, fun e h => absurd h List.not_mem_nil⟩
  | d :: ds, h => by
    obtain ⟨es, h1, h2, h3⟩ := mapo_ex (ds := ds) fun e he => h e (List.mem_cons_of_mem _ he)
    have h0 := vR_out (h d List.mem_cons_self)
    cases hf : f d with
    | ok o =>
      rw [hf] at h0
      obtain ⟨y, rfl, hy⟩ := h0
      refine ⟨y :: es, ?_, by rw [List.length_cons, List.length_cons, h2], fun e he => ?_⟩
      · rw [mapO, hf, h1]; rfl
      · rcases List.mem_cons.mp he with rfl | he
        · exact hy
        · exact h3 e he
    | ex c fs => rw [hf] at h0; exact h0.elim
    | no => rw [hf] at h0; exact h0.elim
theorem strs_of {C : Str → Prop} : ∀ {es : List D}, (∀ e ∈ es, ∃ s, e = .str s ∧ C s) → ∃ nl : List Str, es = nl.map D.str ∧ ∀ s ∈ nl, C s
  | [], _ => ⟨[], rfl, fun s h => absurd h List.not_mem_nil⟩
  | e :: es, h => by
    obtain ⟨s, rfl, hs⟩ := h e List.mem_cons_self
    obtain ⟨nl, rfl, h2⟩ := strs_of (es := es) fun e he => h e (List.mem_cons_of_mem _ he)
    exact ⟨s :: nl, rfl, fun t ht => (List.mem_cons.mp ht).elim (fun z => z ▸ hs) (h2 t)⟩
theorem vmapN {f : D → Rs (Option D)} {ds : List D} {QL : List D → Prop} {X : XR0} (h : ∀ d ∈ ds, vR (P := ⟨fun o => ∃ y, o = some y ∧ ∃ s, y = .str s ∧ NmOk s, fun _ _ => False⟩) (f d)) (q : ∀ nl : List Str, nl.length = ds.length → (∀ s ∈ nl, NmOk s) → QL (nl.map D.str)) : vR (P := ⟨QL, X⟩) (mapO f ds) := by
  obtain ⟨es, h1, h2, h3⟩ := mapo_ex h
  obtain ⟨nl, rfl, h4⟩ := strs_of h3
  rw [h1]
  refine vR_mk ?_
  exact q nl (by rw [← h2, List.length_map]) h4
theorem at_let {Q : Nat → Prop} {r : Int} (h : 0 ≤ r) (h2 : r < 26) (q : ∀ c, 97 ≤ c ∧ c ≤ 122 → Q c) : vF (P := ⟨Q⟩) (atI LET.cps.toList r) :=
  ix_g (fun c => 97 ≤ c ∧ c ≤ 122) h (by rw [let_list, List.length_range']; exact h2) let_mem q
theorem rngD_mem {n : Nat} {d : D} (h : d ∈ rngD 0 n) : ∃ k : Nat, k < n ∧ d = .int k := by
  unfold rngD at h
  obtain ⟨k, hk, rfl⟩ := List.mem_map.mp h
  exact ⟨k, List.mem_range.mp hk, by simp⟩
theorem sum_ones : ∀ l : List Nat, (l.map fun _ => 1).sum = l.length
  | [] => rfl
  | x :: l => by rw [List.map_cons, List.sum_cons, sum_ones l, List.length_cons]; omega

abbrev DIG : Str := "0123456789"
theorem dig_list : DIG.cps.toList = List.range' 48 10 := by decide +kernel
def inDig (c : Nat) : Bool := strIn ⟨#[c]⟩ DIG
theorem inDig_eq (c : Nat) : inDig c = decide (48 ≤ c ∧ c ≤ 57) := by
  have e := SX.in_one DIG.cps.toList c
  have h2 : inDig c = !(Builtin.Str.occurrences (SX.S DIG.cps.toList) (SX.S [c]) 0 (SX.S DIG.cps.toList).length 1).isEmpty := rfl
  rw [h2, e, dig_list]
  exact decide_eq_decide.mpr (by rw [List.mem_range'_1]; omega)
theorem six_occ : ∀ i, i < 10 → Builtin.Str.occurrences DIG ⟨#[48 + i]⟩ 0 DIG.length 1 = [i] := by decide +kernel
theorem six {Q : D → Prop} {X : XR0} {c : Nat} (h : 48 ≤ c ∧ c ≤ 57) (q : Q (.int ((c - 48 : Nat) : Int))) : vR (P := ⟨Q, X⟩) (opSIx (.str DIG) (.str ⟨#[c]⟩)) := by
  refine vR_mk ?_
  unfold opSIx
  have e := six_occ (c - 48) (by omega)
  rw [show 48 + (c - 48) = c by omega] at e
  simp only [e]
  exact q
theorem chars_S (l : List Nat) : charsD (SX.S l) = l.map chD := rfl
theorem of_S (s : Str) : ∃ l, s = SX.S l := ⟨s.cps.toList, (SX.S_tl s).symm⟩
theorem ch_eq {c d : Nat} : ((⟨#[c]⟩ : Str) = SX.S [d]) ↔ c = d := by
  constructor
  · intro h
    have := SX.S_inj (a := [c]) (b := [d]) h
    simpa using this
  · rintro rfl; rfl
theorem str0 : Str.ofString "0" = SX.S [48] := by decide +kernel
theorem strE : Str.ofString "" = SX.S [] := by decide +kernel
def numS (lo hi : Int) (l : List Nat) : D := if (1 ≤ l.length ∧ l.length ≤ 40) ∧ l.all inDig = true ∧ ¬ (l[0]? = some 48 ∧ 1 < l.length) ∧ lo ≤ (NumText.digitsVal l : Int) ∧ (NumText.digitsVal l : Int) ≤ hi then .int (NumText.digitsVal l : Int) else .non
def numD (lo hi : Int) : D → D
  | .str s => numS lo hi s.cps.toList
  | _ => .non
theorem int_S {l : List Nat} (h : l.all inDig = true) (h1 : 1 ≤ l.length) (h2 : l.length ≤ 40) : PySem.intText? (SX.S l) = some ((NumText.digitsVal l : Nat) : Int) := by
  refine SX.int_S ?_ (by intro z; rw [z] at h1; simp at h1) (by omega)
  rw [List.all_eq_true] at h ⊢
  intro c hc
  have := h c hc
  rw [inDig_eq, decide_eq_true_eq] at this
  simp [this]
theorem digitsVal_snoc (l : List Nat) (c : Nat) : NumText.digitsVal (l ++ [c]) = NumText.digitsVal l * 10 + (c - 48) := by
  unfold NumText.digitsVal
  rw [List.foldl_append]
  rfl
theorem digits_lt : ∀ (l : List Nat) (a : Nat), l.all inDig = true → l.foldl (fun acc c => acc * 10 + (c - 48)) a < (a + 1) * 10 ^ l.length
  | [], a, _ => by simp
  | c :: l, a, h => by
    rw [List.all_cons, Bool.and_eq_true, inDig_eq, decide_eq_true_eq] at h
    have ih := digits_lt l (a * 10 + (c - 48)) h.2
    rw [List.foldl_cons, List.length_cons, Nat.pow_succ]
    refine Nat.lt_of_lt_of_le ih ?_
    rw [Nat.mul_comm (10 ^ l.length) 10, ← Nat.mul_assoc]
    exact Nat.mul_le_mul_right _ (by omega)
theorem digitsVal_lt {l : List Nat} (h : l.all inDig = true) (hl : l.length ≤ 40) : NumText.digitsVal l < 10 ^ 40 := by
  have a := digits_lt l 0 h
  have b : 10 ^ l.length ≤ 10 ^ 40 := Nat.pow_le_pow_right (by decide) hl
  unfold NumText.digitsVal
  omega
theorem intS {Q : D → Prop} {X : XR0} {l : List Nat} (h : l.all inDig = true) (h1 : 1 ≤ l.length) (h2 : l.length ≤ 40) (q : Q (.int (NumText.digitsVal l : Int))) : vR (P := ⟨Q, X⟩) (opInt [.str (SX.S l)]) := by
  refine vR_mk ?_
  unfold opInt
  dsimp only
  rw [if_pos (by rw [seq_S]; omega), int_S h h1 h2]
  exact q

theorem is_digits_w {l : List Nat} {P : D → Env → Prop} {X : XE0} (hl : l.length ≤ 1000) (q : P (.bl (decide (0 < l.length) && l.all inDig)) [none]) : vO (P := ⟨P, X⟩) (s_is_digits [.str (SX.S l)]) := by
  rw [e_is_digits]
  simp only [b_is_digits]
  walk_at "y"
  rw [seq_S]
  refine And.intro (by omega) ⟨fun h => ⟨by rw [charsD_len, seq_S]; omega, ?_⟩, fun h => ?_⟩
  · rw [decide_eq_true (by omega), Bool.true_and] at q
    rw [chars_S, mapo_g (α := Nat) chD (fun c => .bl (inDig c)) fun c hc => (by
      simp only [vw_pLc1]
      unfold chD
      walk_at "y"
      rfl)]
    walk_at "y"
    rw [show l.map (fun c => D.bl (inDig c)) = (l.map inDig).map D.bl by rw [List.map_map]; rfl, vw_all, List.all_map]
    exact ⟨rfl, q⟩
  · rw [decide_eq_false (by omega), Bool.false_and] at q
    exact q

def splW : List Nat → List Nat → List (List Nat)
  | acc, [] => [acc]
  | acc, c :: r => if c = 32 then acc :: splW [] r else splW (acc ++ [c]) r
theorem spl_W : ∀ (l acc : List Nat), TL.spl [32] 0 acc l = splW acc l
  | [], acc => rfl
  | c :: r, acc => by
    unfold TL.spl splW
    have e : TL.pre [32] (c :: r) = decide (c = 32) := by
      unfold TL.pre
      show ([c] == [32]) = _
      by_cases h : c = 32
      · subst h; rfl
      · rw [decide_eq_false h]; simpa using h
    rw [e]
    by_cases h : c = 32
    · rw [if_pos (decide_eq_true h), if_pos h]
      exact congrArg _ (spl_W r [])
    · rw [if_neg (by simpa using h), if_neg h]
      exact spl_W r (acc ++ [c])
theorem splW_in : ∀ (l acc w : List Nat), w ∈ splW acc l → (∀ c ∈ w, c ∈ acc ∨ c ∈ l) ∧ w.length ≤ acc.length + l.length
  | [], acc, w, h => by
    have := List.mem_singleton.mp h
    subst this
    exact ⟨fun c hc => Or.inl hc, by simp⟩
  | c :: r, acc, w, h => by
    unfold splW at h
    split at h
    · rcases List.mem_cons.mp h with rfl | h
      · exact ⟨fun c hc => Or.inl hc, by omega⟩
      · obtain ⟨h1, h2⟩ := splW_in r [] w h
        exact ⟨fun c hc => (h1 c hc).elim (fun z => absurd z List.not_mem_nil) fun z => Or.inr (List.mem_cons_of_mem _ z), by simp at h2 ⊢; omega⟩
    · obtain ⟨h1, h2⟩ := splW_in r (acc ++ [c]) w h
      refine ⟨fun d hd => (h1 d hd).elim (fun z => (List.mem_append.mp z).elim Or.inl fun y => Or.inr (by rw [List.mem_singleton.mp y]; exact List.mem_cons_self)) fun z => Or.inr (List.mem_cons_of_mem _ z), ?_⟩
      simp at h2 ⊢
      omega
theorem splW_len : ∀ (l acc : List Nat), (splW acc l).length ≤ l.length + 1
  | [], acc => by simp [splW]
  | c :: r, acc => by
    unfold splW
    split
    · have := splW_len r []; simp; omega
    · have := splW_len r (acc ++ [c]); simp; omega
def loopW : List (List Nat) → List Nat → List Nat → Option (List (List Nat))
  | W, _, [] => some W
  | W, w, c :: r => if c = 10 ∨ (c = 32 ∧ w = []) then none else if c = 32 then loopW (W ++ [w]) [] r else loopW W (w ++ [c]) r
open Classical in
theorem loopW_eq : ∀ (l : List Nat) (W : List (List Nat)) (w : List Nat), loopW W w (l ++ [32]) = if 10 ∈ l ∨ [] ∈ splW w l then none else some (W ++ splW w l)
  | [], W, w => by
    show (if (32 : Nat) = 10 ∨ ((32 : Nat) = 32 ∧ w = []) then none else if (32 : Nat) = 32 then loopW (W ++ [w]) [] [] else loopW W (w ++ [32]) []) = _
    by_cases h : w = []
    · subst h
      rw [if_pos (Or.inr ⟨rfl, rfl⟩), if_pos (Or.inr (by simp [splW]))]
    · rw [if_neg (by simp [h]), if_pos rfl, if_neg (by simp [splW]; exact h)]
      rfl
  | c :: l, W, w => by
    show (if c = 10 ∨ (c = 32 ∧ w = []) then none else if c = 32 then loopW (W ++ [w]) [] (l ++ [32]) else loopW W (w ++ [c]) (l ++ [32])) = _
    by_cases h10 : c = 10
    · rw [if_pos (Or.inl h10), if_pos (Or.inl (by rw [h10]; exact List.mem_cons_self))]
    · by_cases h32 : c = 32
      · subst h32
        by_cases hw : w = []
        · rw [if_pos (Or.inr ⟨rfl, hw⟩), if_pos (Or.inr (by rw [hw]; simp [splW]))]
        · rw [if_neg (by simp [hw]), if_pos rfl, loopW_eq l]
          have e : splW w (32 :: l) = w :: splW [] l := by rw [splW]; simp
          rw [e]
          by_cases k : 10 ∈ l ∨ [] ∈ splW [] l
          · rw [if_pos k, if_pos (k.elim (fun z => Or.inl (List.mem_cons_of_mem _ z)) fun z => Or.inr (List.mem_cons_of_mem _ z))]
          · rw [if_neg k, if_neg fun z => k (z.elim (fun y => Or.inl ((List.mem_cons.mp y).resolve_left (by decide))) fun y => Or.inr ((List.mem_cons.mp y).resolve_left fun u => hw u.symm))]
            rw [List.append_assoc]
            rfl
      · rw [if_neg (by simp [h10, h32]), if_neg h32, loopW_eq l]
        have e : splW w (c :: l) = splW (w ++ [c]) l := by rw [splW, if_neg h32]
        rw [e]
        by_cases k : 10 ∈ l ∨ [] ∈ splW (w ++ [c]) l
        · rw [if_pos k, if_pos (k.elim (fun z => Or.inl (List.mem_cons_of_mem _ z)) Or.inr)]
        · rw [if_neg k, if_neg fun z => k (z.elim (fun y => Or.inl ((List.mem_cons.mp y).resolve_left fun u => h10 u.symm)) Or.inr)]
def strsD (L : List (List Nat)) : D := .lst (L.map fun w => D.str (SX.S w))
open Classical in
noncomputable def wordsS (l : List Nat) : D := if 10 ∈ l ∨ [] ∈ splW [] l then .non else strsD (splW [] l)
noncomputable def wordsD : D → D
  | .str s => wordsS s.cps.toList
  | _ => .non
theorem strs_g : ∀ {L : List (List Nat)}, (∀ w ∈ L, ∀ c ∈ w, c < 0x110000) → gIs (L.map fun w => D.str (SX.S w))
  | [], _ => by simp [gIs]
  | w :: L, h => by
    simp only [List.map_cons, gIs, gI]
    exact ⟨S_ok (h w List.mem_cons_self), strs_g fun w hw => h w (List.mem_cons_of_mem _ hw)⟩
theorem strs_w : ∀ {L : List (List Nat)}, (∀ w ∈ L, w.length ≤ 200) → wIs (L.map fun w => D.str (SX.S w)) ≤ 2004 * L.length
  | [], _ => by simp [wIs]
  | w :: L, h => by
    have a := strs_w (L := L) fun w hw => h w (List.mem_cons_of_mem _ hw)
    have b := h w List.mem_cons_self
    simp only [List.map_cons, wIs, wI, List.length_cons, List.size_toArray]
    omega
theorem strs_d : ∀ (L : List (List Nat)), dIs (L.map fun w => D.str (SX.S w)) = 0
  | [] => rfl
  | w :: L => by
    have := strs_d L
    simp only [List.map_cons, dIs, dI]
    omega
theorem okE_strs {L : List (List Nat)} (h : ∀ w ∈ L, ∀ c ∈ w, c < 0x110000) (h2 : ∀ w ∈ L, w.length ≤ 200) (hl : L.length ≤ 1000) : okE (strsD L) := by
  have a := strs_w h2
  exact okE_of (by simp only [strsD, gI]; exact strs_g h) (by simp only [strsD, wI]; omega) (by simp only [strsD, dI, strs_d]; omega)
theorem in10 (l : List Nat) : strIn "\n" (SX.S l) = decide (10 ∈ l) := by
  have e := SX.in_one l 10
  rw [← e]
  have : Str.ofString "\n" = SX.S [10] := by decide +kernel
  unfold strIn
  rw [this]
theorem eqD_strs2 (s t : Str) : eqD (.str s) (.str t) = decide (s = t) := by
  by_cases h : s = t <;> simp [eqD, toP, PyData.eqv, h]
theorem split_W (l : List Nat) : Txt.split (SX.S l) " " = (splW [] l).map SX.S := by
  have := SX.split_S (a := l) (b := [32]) (by decide) (by decide)
  rw [spl_W] at this
  exact this
theorem okE_words {l : List Nat} (hl : l.length ≤ 100) (hc : ∀ c ∈ l, c < 0x110000) : okE (strsD (splW [] l)) := by
  refine okE_strs (fun w hw c h => ?_) (fun w hw => ?_) ?_
  · exact ((splW_in l [] w hw).1 c h).elim (fun z => absurd z List.not_mem_nil) (hc c)
  · have := (splW_in l [] w hw).2
    simp at this
    omega
  · have := splW_len l []
    omega
open Classical in
theorem in_strs {Q : D → Prop} {X : XR0} {L : List (List Nat)} (ok : okE (strsD L)) (q : Q (.bl (decide ([] ∈ L)))) : vR (P := ⟨Q, X⟩) (opInX (.str (Str.ofString "")) (strsD L)) := by
  refine vR_mk ?_
  have e : opInX (.str (Str.ofString "")) (strsD L) = .ok (.bl (decide ([] ∈ L))) := by
    have e2 : opInX (.str (Str.ofString "")) (strsD L) = (if okD (.str (Str.ofString "")) = true ∧ okD (strsD L) = true then Rs.ok ((L.map fun w => D.str (SX.S w)).any fun z => eqD z (.str (Str.ofString ""))) else .no).bind fun b => .ok (.bl b) := rfl
    rw [e2, if_pos ⟨by decide +kernel, ok.1⟩]
    have e3 : ((L.map fun w => D.str (SX.S w)).any fun z => eqD z (.str (Str.ofString ""))) = decide ([] ∈ L) := by
      rw [List.any_map, Bool.eq_iff_iff, List.any_eq_true, decide_eq_true_eq]
      constructor
      · rintro ⟨w, hw, h⟩
        have h : eqD (.str (SX.S w)) (.str (Str.ofString "")) = true := h
        rw [eqD_strs2, decide_eq_true_eq, strE] at h
        rw [← SX.S_inj h]
        exact hw
      · intro h
        refine ⟨[], h, ?_⟩
        show eqD (.str (SX.S [])) (.str (Str.ofString "")) = true
        rw [eqD_strs2, decide_eq_true_eq, strE]
    rw [e3]
    rfl
  rw [e]
  exact q
theorem strBl : Str.ofString " " = SX.S [32] := by decide +kernel
theorem strNl : Str.ofString "\n" = SX.S [10] := by decide +kernel
theorem S_nil {w : List Nat} : (SX.S w = SX.S []) ↔ w = [] := ⟨fun h => SX.S_inj h, fun h => by rw [h]⟩

theorem words_of_w {x : D} {P : D → Env → Prop} {X : XE0} (hx : noCel x) (hs : strBd x) (q : P (wordsD x) [none]) : vO (P := ⟨P, X⟩) (s_words_of [x]) := by
  cases x with
  | cel n d => exact hx.elim
  | str s =>
    obtain ⟨l, rfl⟩ := of_S s
    have hl : l.length ≤ 100 := by have := hs.1; rwa [seq_S] at this
    have hc : ∀ c ∈ l, c < 0x110000 := strOk_mem hs.2
    have q : P (wordsS l) [none] := q
    unfold wordsS at q
    rw [e_words_of]
    simp only [b_words_of]
    walk_at "y"
    rw [in10, split_W, List.map_map]
    refine ⟨fun h => ?_, fun h => ⟨⟨by decide, by rw [seq_S]; omega⟩, ?_⟩⟩
    · rw [if_pos (Or.inl (of_decide_eq_true h))] at q
      exact q
    · have h10 := of_decide_eq_false h
      refine in_strs (okE_words hl hc) ?_
      walk_at "y"
      refine ⟨fun h2 => ?_, fun h2 => ?_⟩
      · rw [if_pos (Or.inr h2)] at q
        exact q
      · rw [if_neg fun z => z.elim h10 h2] at q
        exact q
  | _ =>
    rw [e_words_of]
    simp only [b_words_of]
    walk_at "y"
    exact q

theorem cell_w {ns : List Int} {k : Int} {P : D → Env → Prop} {X : XE0} (h : 0 ≤ k) (h2 : k ≤ 1000) (q : ∀ c : Int, P (.int c) [none, none]) : vO (P := ⟨P, X⟩) (s__law_cell [.lst (ns.map D.int), .int k]) := by
  rw [e__law_cell]
  simp only [b__law_cell]
  walk_at "y"
  refine ⟨fun hl => ?_, fun hl => ⟨⟨by decide, bd_i (by omega) (by omega)⟩, q _⟩⟩
  rw [List.length_map] at hl
  rw [atI_lt h, List.getElem?_map, List.getElem?_eq_getElem (by omega), Option.map_some, vwF_some]
  walk_at "y"
  exact q _

theorem box_w {c : Int} {P : D → Env → Prop} {X : XE0} (q : ∀ b, BoxOk 0 b → P b [none]) : vO (P := ⟨P, X⟩) (s__law_box [.int c]) := by
  rw [e__law_box]
  simp only [b__law_box]
  walk_at "y"
  iterate 4 (try walk_at "ya")
  refine q _ ⟨_, _, _, rfl, ?_, Int.emod_nonneg _ (by decide), Int.emod_lt_of_pos _ (by decide), Int.le_refl _, Int.le_refl _⟩
  split <;> omega

theorem take_w {b : D} {n : Nat} {m : Int} {P : D → Env → Prop} {X : XE0} (hb : BoxOk n b) (h0 : 0 < m) (hm : m ≤ 1000000000000000000000000000000000000000000000000000000000000) (hn : n + 1 ≤ 8000000) (q : ∀ (r : Int) (b' : D), 0 ≤ r → r < m → BoxOk (n + 1) b' → P (.int r) [some b', none]) : vO (P := ⟨P, X⟩) (s__law_take [b, .int m]) := by
  obtain ⟨a, c, t, rfl, ha, hc, hc2, ht, htn⟩ := hb
  rw [e__law_take]
  have B1 : ∀ x : Int, 0 ≤ x → x < 2147483647 → Bd x := fun x h1 h2 => ⟨by omega, by omega⟩
  have hBm : Bd m := ⟨by omega, by omega⟩
  simp only [b__law_take]
  walk_at "y"
  refine ⟨fun h => ⟨h0, ⟨h0, hBm⟩, ?_⟩, fun h => ?_⟩
  · exact q _ _ (Int.emod_nonneg _ (by omega)) (Int.emod_lt_of_pos _ h0) ⟨_, _, _, rfl, Int.ediv_nonneg ha (by omega), hc, hc2, ht, by omega⟩
  · have q1 := take_sq (w := t + 1) (by omega) (by omega)
    have g1 := Int.emod_nonneg ((c + 7919 * (t + 1) + 17) ^ 5) (show (2147483647 : Int) ≠ 0 by decide)
    have g2 := Int.emod_lt_of_pos ((c + 7919 * (t + 1) + 17) ^ 5) (show (0 : Int) < 2147483647 by decide)
    generalize (c + 7919 * (t + 1) + 17) ^ 5 % 2147483647 = one at g1 g2 ⊢
    have k1 := Int.emod_nonneg ((one / 8 + 104729 * (t + 1) * (t + 1) + 11) ^ 3) (show (2147483587 : Int) ≠ 0 by decide)
    have k2 := Int.emod_lt_of_pos ((one / 8 + 104729 * (t + 1) * (t + 1) + 11) ^ 3) (show (0 : Int) < 2147483587 by decide)
    have p2 : (one / 8 + 104729 * (t + 1) * (t + 1) + 11).natAbs < 2 ^ 64 := by omega
    generalize (one / 8 + 104729 * (t + 1) * (t + 1) + 11) ^ 3 % 2147483587 = two at k1 k2 ⊢
    iterate 10 (try walk_at "ya")
    exact q _ _ (Int.emod_nonneg _ (by omega)) (Int.emod_lt_of_pos _ h0) ⟨_, _, _, rfl, ha, hc, hc2, by omega, by omega⟩
local macro_rules | `(tactic| walk_at "yd") => `(tactic| ((refine take_w (by assumption) (by first | decide | omega) (by first | decide | omega) (by omega) ?_); intro r' b' hr0' hr1' hb'; walk_at "y"))

theorem equal_w {x : D} {P : D → Env → Prop} {X : XE0} (h : okE x) (q : P (.bl true) [none, none]) : vO (P := ⟨P, X⟩) (s__law_equal [x, x]) := by
  rw [e__law_equal]
  simp only [b__law_equal]
  walk_at "y"
  simp only [vw_eqR h.1]
  walk_at "y"
  exact ⟨h.2, h.2, q⟩

theorem number_expected_w {x : D} {lo hi : Int} {P : D → Env → Prop} {X : XE0} (hx : noCel x) (hs : strBd x) (q : P (numD lo hi x) [none, none, none]) : vO (P := ⟨P, X⟩) (s__law_number_expected [x, .int lo, .int hi]) := by
  cases x with
  | cel n d => exact hx.elim
  | str s =>
    obtain ⟨l, rfl⟩ := of_S s
    have hl : l.length ≤ 100 := by have := hs.1; rwa [seq_S] at this
    have q : P (numS lo hi l) [none, none, none] := q
    unfold numS at q
    rw [e__law_number_expected]
    simp only [b__law_number_expected]
    walk_at "y"
    rw [strE, seq_S, chars_S]
    refine ⟨fun h0 => ?_, fun h0 => ⟨by omega, fun h1 => ?_, fun h1 => ?_⟩⟩
    · have := SX.S_inj h0
      subst this
      rw [if_neg (by simp)] at q
      exact q
    · rw [if_neg (by omega)] at q
      exact q
    have h2 : 1 ≤ l.length := by
      cases l with
      | nil => exact absurd rfl h0
      | cons c r => simp
    refine vfor_inv (fun ds Γ => ∃ (p r : List Nat) (x4 : Option D), ds = r.map chD ∧ p ++ r = l ∧ p.all inDig = true ∧ Γ = [some (.str (SX.S l)), some (.int lo), some (.int hi), some (.int (NumText.digitsVal p : Int)), x4]) ⟨[], l, _, rfl, rfl, rfl, rfl⟩ ?_ ?_
    · rintro d ds Γ ⟨p, r, x4, hd, he, hp, rfl⟩
      cases r with
      | nil => cases hd
      | cons c r =>
        cases hd
        have hpl : p.length ≤ 40 := by rw [← he, List.length_append] at h1; omega
        have vb := digitsVal_lt hp hpl
        unfold chD
        walk_at "y"
        refine ⟨fun hc => ?_, fun hc => ⟨⟨by decide, bd_i (by omega) (by omega)⟩, ?_⟩⟩
        · have hn : l.all inDig = false := by
            rw [← he, List.all_append, List.all_cons, show inDig c = false from hc]
            simp
          rw [hn, if_neg (by simp)] at q
          exact q
        · have hc : inDig c = true := hc
          have hc2 := hc
          rw [inDig_eq, decide_eq_true_eq] at hc2
          refine six hc2 ?_
          walk_at "y"
          have ev : 10 * (NumText.digitsVal p : Int) + ((c - 48 : Nat) : Int) = (NumText.digitsVal (p ++ [c]) : Int) := by
            rw [digitsVal_snoc]
            omega
          rw [ev]
          exact ⟨p ++ [c], r, some (chD c), rfl, by rw [← he, List.append_assoc]; rfl, by rw [List.all_append, hp]; simp [hc], rfl⟩
    · rintro Γ ⟨p, r, x4, hd, he, hp, rfl⟩
      cases r with
      | cons c r => cases hd
      | nil =>
        rw [List.append_nil] at he
        subst he
        walk_at "y"
        refine And.intro (by rw [seq_S]; omega) ?_
        cases p with
        | nil => simp at h2
        | cons c r =>
          rw [atI_0]
          walk_at "y"
          rw [str0, ch_eq]
          have hc0 : (c :: r)[0]? = some c := rfl
          rw [hc0, hp] at q
          have hr : SX.S (c :: r) = SX.S [48] ↔ c = 48 ∧ ¬ 1 < (c :: r).length := by
            constructor
            · intro h
              have := SX.S_inj h
              injection this with e1 e2
              subst e2
              exact ⟨e1, by simp⟩
            · rintro ⟨rfl, h⟩
              cases r with
              | nil => rfl
              | cons _ _ => simp at h
          rw [hr]
          refine ⟨fun c0 => ⟨fun n1 => ?_, fun n1 => ⟨fun b1 => ⟨fun b2 => ?_, fun b2 => ?_⟩, fun b1 => ?_⟩⟩, fun c0 => ⟨fun b1 => ⟨fun b2 => ?_, fun b2 => ?_⟩, fun b1 => ?_⟩⟩
          all_goals first
            | (rw [if_pos ⟨⟨by omega, by omega⟩, rfl, by rw [Option.some.injEq]; omega, by omega, by omega⟩] at q; exact q)
            | (rw [if_neg fun z => by have := z.2.2.2; omega] at q; exact q)
            | (rw [if_neg fun z => z.2.2.1 ⟨by rw [c0], by omega⟩] at q; exact q)
  | _ =>
    rw [e__law_number_expected]
    simp only [b__law_number_expected]
    walk_at "y"
    exact q

theorem words_expected_w {x : D} {P : D → Env → Prop} {X : XE0} (hx : noCel x) (hs : strBd x) (q : P (wordsD x) [none]) : vO (P := ⟨P, X⟩) (s__law_words_expected [x]) := by
  cases x with
  | cel n d => exact hx.elim
  | str s =>
    obtain ⟨l, rfl⟩ := of_S s
    have hl : l.length ≤ 100 := by have := hs.1; rwa [seq_S] at this
    have q : P (wordsS l) [none] := q
    unfold wordsS at q
    rw [e__law_words_expected]
    simp only [b__law_words_expected]
    walk_at "y"
    rw [strBl, SX.S_cat, chars_S, strE, strNl]
    have e0 := loopW_eq l [] []
    rw [List.nil_append] at e0
    have none_q : none = loopW [] [] (l ++ [32]) → P .non [none] := fun z => by
      rw [e0] at z
      by_cases k : 10 ∈ l ∨ [] ∈ splW [] l
      · rw [if_pos k] at q; exact q
      · rw [if_neg k] at z; cases z
    refine And.intro (by rw [seq_S, seq_S]; unfold Sz; simp; omega) ?_
    refine vfor_inv (fun ds Γ => ∃ (r : List Nat) (W : List (List Nat)) (w : List Nat) (x3 : Option D), ds = r.map chD ∧ loopW W w r = loopW [] [] (l ++ [32]) ∧ W.length + r.length ≤ 200 ∧ w.length + r.length ≤ 200 ∧ Γ = [some (.str (SX.S l)), some (strsD W), some (.str (SX.S w)), x3]) ⟨l ++ [32], [], [], _, rfl, rfl, by simp; omega, by simp; omega, rfl⟩ ?_ ?_
    · rintro d ds Γ ⟨r, W, w, x3, hd, he, h1, h2, rfl⟩
      cases r with
      | nil => cases hd
      | cons c r =>
        cases hd
        rw [List.length_cons] at h1 h2
        unfold chD strsD
        walk_at "y"
        simp only [ch_eq, S_nil]
        rw [loopW] at he
        refine ⟨fun c10 => ?_, fun c10 => ⟨fun c32 => ⟨fun w0 => ?_, fun w0 => ⟨fun _ => ?_, fun z => absurd c32 z⟩⟩, fun c32 => ⟨fun z => absurd z c32, fun _ => ?_⟩⟩⟩
        · rw [if_pos (Or.inl c10)] at he
          exact none_q he
        · rw [if_pos (Or.inr ⟨c32, w0⟩)] at he
          exact none_q he
        · rw [if_neg (by simp [c10, w0]), if_pos c32] at he
          exact ⟨by unfold Sz; rw [List.length_map]; omega, r, W ++ [w], [], some (chD c), rfl, he, by simp; omega, by simp; omega, by rw [List.map_append]; rfl⟩
        · rw [if_neg (by simp [c10, c32]), if_neg c32] at he
          have ec : (SX.S w ++ ⟨#[c]⟩ : Str) = SX.S (w ++ [c]) := SX.S_cat w [c]
          rw [ec]
          exact ⟨by unfold Sz; rw [seq_S]; show w.length + 1 ≤ 4000000; omega, r, W, w ++ [c], some (chD c), rfl, he, by omega, by simp; omega, rfl⟩
    · rintro Γ ⟨r, W, w, x3, hd, he, h1, h2, rfl⟩
      cases r with
      | cons c r => cases hd
      | nil =>
        walk_at "y"
        have he : some W = loopW [] [] (l ++ [32]) := he
        rw [e0] at he
        by_cases k : 10 ∈ l ∨ [] ∈ splW [] l
        · rw [if_pos k] at he; cases he
        · rw [if_neg k] at he q
          cases he
          exact q
  | _ =>
    rw [e__law_words_expected]
    simp only [b__law_words_expected]
    walk_at "y"
    exact q

theorem read_number_w {x : D} {lo hi : Int} {P : D → Env → Prop} {X : XE0} (hx : noCel x) (hs : strBd x) (q : P (numD lo hi x) [none, none, none]) : vO (P := ⟨P, X⟩) (s_read_number [x, .int lo, .int hi]) := by
  cases x with
  | cel n d => exact hx.elim
  | str s =>
    obtain ⟨l, rfl⟩ := of_S s
    have hl : l.length ≤ 100 := by have := hs.1; rwa [seq_S] at this
    have q : P (numS lo hi l) [none, none, none] := q
    unfold numS at q
    rw [e_read_number]
    simp only [b_read_number]
    walk_at "y"
    rw [seq_S]
    refine And.intro (by omega) ⟨fun h1 => ⟨fun h2 => ?_, fun h2 => is_digits_w (by omega) ?_⟩, fun h1 => ?_⟩
    · rw [if_neg (by omega)] at q; exact q
    · rw [decide_eq_true (by omega), Bool.true_and]
      cases hd : l.all inDig with
      | false =>
        rw [hd, if_neg (by simp)] at q
        walk_at "y"
        exact q
      | true =>
        rw [hd] at q
        walk_at "y"
        refine And.intro (by rw [seq_S]; omega) ?_
        cases l with
        | nil => simp at h1
        | cons c r =>
          rw [atI_0]
          walk_at "y"
          rw [str0, ch_eq, seq_S]
          have hc0 : (c :: r)[0]? = some c := rfl
          rw [hc0] at q
          refine ⟨fun c0 => ⟨by omega, fun c1 => ?_, fun c1 => ?_⟩, fun c0 => ?_⟩
          · rw [if_neg fun z => z.2.2.1 ⟨by rw [c0], by omega⟩] at q
            exact q
          all_goals
            refine intS hd (by omega) (by omega) ?_
            walk_at "y"
            refine ⟨fun b1 => ⟨fun b2 => ?_, fun b2 => ?_⟩, fun b1 => ?_⟩
            all_goals first
              | (rw [if_pos ⟨⟨by omega, by omega⟩, rfl, by rw [Option.some.injEq]; omega, by omega, by omega⟩] at q; exact q)
              | (rw [if_neg fun z => by have := z.2.2.2; omega] at q; exact q)
    · rw [if_neg (by omega)] at q; exact q
  | _ =>
    rw [e_read_number]
    simp only [b_read_number]
    walk_at "y"
    exact q

theorem any_value_w {b : D} {n : Nat} {P : D → Env → Prop} {X : XE0} (hb : BoxOk n b) (hn : n + 1 ≤ 8000000) (q : ∀ (x b' : D), noCel x ∧ strBd x → BoxOk (n + 1) b' → P x [some b']) : vO (P := ⟨P, X⟩) (s__law_any_value [b]) := by
  rw [e__law_any_value]
  simp only [b__law_any_value]
  walk_at "y"
  refine And.intro (by decide) (And.intro (by decide) (And.intro (by decide) ?_))
  walk_at "y"
  rw [show ((38 : Nat) : Int) = 38 from rfl]
  walk_at "yd"
  rename_i r b2 h0 h1 hb2
  refine ix_c (fun x => noCel x ∧ strBd x) h0 (by show r < (38 : Int); omega) ?_ fun x hx => ?_
  · simp only [List.forall_mem_cons]
    repeat' (first | exact trivial | exact fun d hd => absurd hd List.not_mem_nil | apply And.intro | decide +kernel)
  · walk_at "y"
    exact q x b2 hx hb2

theorem numS_bd (lo hi : Int) (l : List Nat) : gI (numS lo hi l) ∧ wI (numS lo hi l) ≤ 71 ∧ dI (numS lo hi l) = 0 := by
  unfold numS
  split
  · rename_i h
    have := digitsVal_lt h.2.1 h.1.2
    refine ⟨by simp only [gI]; omega, by simp [wI], by simp [dI]⟩
  · exact ⟨by simp [gI], by simp [wI], by simp [dI]⟩
theorem numD_bd (lo hi : Int) (x : D) : gI (numD lo hi x) ∧ wI (numD lo hi x) ≤ 71 ∧ dI (numD lo hi x) = 0 := by
  cases x with
  | str s => exact numS_bd lo hi _
  | _ => exact ⟨by simp [numD, gI], by simp [numD, wI], by simp [numD, dI]⟩
theorem numbers_right_w {x : D} {lo hi : Int} {P : D → Env → Prop} {X : XE0} (hx : noCel x) (hs : strBd x) (q : P (.bl true) [none, none, none]) : vO (P := ⟨P, X⟩) (s__law_numbers_right [x, .int lo, .int hi]) := by
  rw [e__law_numbers_right]
  simp only [b__law_numbers_right]
  walk_at "y"
  iterate 4
    refine read_number_w hx hs ?_
    walk_at "y"
  refine read_number_w hx hs ?_
  walk_at "y"
  refine And.intro (by decide) ?_
  iterate 3
    refine number_expected_w hx hs ?_
    walk_at "y"
  iterate 2
    refine number_expected_w hx hs ?_
    walk_at "y"
  have b1 := numD_bd 0 1000000 x
  have b2 := numD_bd lo 1000000 x
  have b3 := numD_bd lo hi x
  have b4 := numD_bd 0 hi x
  have ok : okE (.lst [numD 0 1000000 x, numD lo 1000000 x, numD lo hi x, numD 0 hi x, numD lo 1000000 x]) :=
    okE_of (by simp only [gI, gIs]; exact ⟨b1.1, b2.1, b3.1, b4.1, b2.1, trivial⟩) (by simp only [wI, wIs]; omega) (by simp only [dI, dIs]; omega)
  refine And.intro (by decide) ?_
  refine equal_w ok ?_
  walk_at "y"
  exact q

/-! ## texts of bounded length -/
structure SB (n : Nat) (s : Str) : Prop where
  l : s.length ≤ n
  k : PyData.strOk s = true
theorem SB.up {n m : Nat} {s : Str} (h : SB n s) (e : n ≤ m) : SB m s := ⟨Nat.le_trans h.l e, h.k⟩
theorem SB.app {n m : Nat} {a b : Str} (h : SB n a) (g : SB m b) : SB (n + m) (a ++ b) := by
  refine ⟨by rw [Str.length_append]; have := h.l; have := g.l; omega, ?_⟩
  unfold PyData.strOk
  rw [Array.all_eq_true']
  intro c hc
  rw [Str.cps_append, Array.mem_append] at hc
  have h1 := strOk_mem h.k
  have g1 := strOk_mem g.k
  refine decide_eq_true ?_
  rcases hc with hc | hc
  · exact h1 c (by simpa using hc)
  · exact g1 c (by simpa using hc)
theorem SB.cut {n : Nat} {s : Str} {lo hi : Option Int} (h : SB n s) : SB n (cutS s lo hi) := by
  have h1 := strOk_mem h.k
  have hl := h.l
  have e : s.cps.toList.length = s.length := by rw [Array.length_toList]; rfl
  refine ⟨?_, ?_⟩
  · show (SX.S _).length ≤ n
    rw [seq_S, List.length_take, List.length_drop]
    omega
  · exact S_ok fun c hc => h1 c (List.mem_of_mem_drop (List.mem_of_mem_take hc))
theorem SB.lit (s : String) (n : Nat) (h : (Str.ofString s).length ≤ n) : SB n (Str.ofString s) := ⟨h, ofString_ok s⟩
theorem SB.int {i : Int} (h : i.natAbs < 10 ^ 70) : SB 71 (strI i) := ⟨strI_len h, ofString_ok _⟩
theorem SB.bd {s : Str} (h : SB 100 s) : noCel (.str s) ∧ strBd (.str s) := ⟨trivial, h.l, h.k⟩
theorem SB.one {c : Nat} (h : c < 0x110000) : SB 1 ⟨#[c]⟩ := ⟨by show 1 ≤ 1; decide, by simp [PyData.strOk, h]⟩
theorem SB.S {l : List Nat} {n : Nat} (h : l.length ≤ n) (h2 : ∀ c ∈ l, c < 0x110000) : SB n (SX.S l) := ⟨by rw [seq_S]; exact h, S_ok h2⟩
theorem cut_both {s : Str} {a : Int} (h : 0 ≤ a) : (cutS s none (some a)).length + (cutS s (some a) none).length = s.length := by
  obtain ⟨l, rfl⟩ := of_S s
  rw [cut_lo h, cut_hi h, seq_S, seq_S, seq_S, List.length_take, List.length_drop]
  omega
theorem SB.join {m : Nat} {sep : Str} (h : SB m sep) : ∀ {L : List Str}, (∀ s ∈ L, SB 4 s) → SB (L.length * (4 + m)) (Str.join sep L)
  | [], _ => ⟨by show (0 : Nat) ≤ _; omega, by show PyData.strOk Str.empty = true; decide +kernel⟩
  | [x], hL => by
    have := hL x List.mem_cons_self
    exact this.up (by simp)
  | x :: y :: L, hL => by
    have hx := hL x List.mem_cons_self
    have ih := SB.join h (L := y :: L) fun s hs => hL s (List.mem_cons_of_mem _ hs)
    have e : Str.join sep (x :: y :: L) = x ++ sep ++ Str.join sep (y :: L) := rfl
    rw [e]
    refine ((hx.app h).app ih).up ?_
    simp only [List.length_cons, Nat.add_mul]
    omega
theorem SB.joinT {m : Nat} {sep : Str} (h : SB m sep) {L : List Str} (hL : ∀ s ∈ L, SB 4 s) : SB (L.length * (4 + m)) (Txt.join sep L) := by
  rw [TL.join_eq]
  exact h.join hL
theorem sum_len {n : Nat} : ∀ {L : List Str}, (∀ s ∈ L, SB n s) → (L.map (·.length)).sum ≤ L.length * n
  | [], _ => by simp
  | x :: L, h => by
    have a := (h x List.mem_cons_self).l
    have b := sum_len (L := L) fun s hs => h s (List.mem_cons_of_mem _ hs)
    simp only [List.map_cons, List.sum_cons, List.length_cons, Nat.add_mul]
    omega
theorem okE_wordsD {x : D} (hs : strBd x) : okE (wordsD x) := by
  have hn : okE .non := okE_of (by simp [gI]) (by simp [wI]) (by simp [dI])
  cases x with
  | str s =>
    show okE (wordsS s.cps.toList)
    have hl : s.cps.toList.length ≤ 100 := by rw [Array.length_toList]; exact hs.1
    unfold wordsS
    split
    · exact hn
    · exact okE_words hl (strOk_mem hs.2)
  | _ => exact hn
theorem signs_core {b1 : D} {n : Nat} {w : Int} {sg : Str} {x0 x1 x3 x4 x6 x7 x8 x9 x11 x12 x13 x14 : Option D} {QLE : List D → Env → Prop} {X : XE0} (hb : BoxOk n b1) (hn : n + 10 ≤ 8000000) (hw : 0 ≤ w) (hw2 : w ≤ 4) (hz : sg.length = 16) (hc : ∀ c ∈ sg.cps.toList, c < 0x110000)
    (qq : ∀ (ss : List Nat) (b' : D), ss.length ≤ 4 → (∀ c ∈ ss, c < 0x110000) → BoxOk (n + 10) b' → QLE (ss.map chD) [x0, x1, some b', x3, x4, none, x6, x7, x8, x9, some (.str sg), x11, x12, x13, x14]) :
    vO (P := ⟨QLE, X⟩) (mapE (tgN 5) (pE bYes) (eOp opIx (pE (pVar 10)) (eCall [.own 2, .fz] [] s__law_take (xSlot 2 (eCons (pE (pC (.int 16))) xNil)))) [5] (rngD 0 w.toNat) [x0, x1, some b1, x3, x4, none, x6, x7, x8, x9, some (.str sg), x11, x12, x13, x14]) := by
  refine vmapE_inv (fun ds es Γ => ∃ (k : Nat) (ss : List Nat) (b : D), ds = (rngD 0 w.toNat).drop k ∧ k ≤ w.toNat ∧ es = ss.map chD ∧ ss.length = k ∧ (∀ c ∈ ss, c < 0x110000) ∧ BoxOk (n + k) b ∧ Γ = [x0, x1, some b, x3, x4, none, x6, x7, x8, x9, some (.str sg), x11, x12, x13, x14]) ⟨0, [], b1, rfl, Nat.zero_le _, rfl, rfl, fun c h => (by cases h), hb, rfl⟩ ?_ ?_
  · rintro d ds es Γ ⟨k, ss, b, hd, hk, rfl, hl, hs, hb, rfl⟩
    obtain ⟨hk', rfl, rfl⟩ := rng_drop hd.symm
    walk_at "y"
    walk_at "yd"
    refine And.intro (by omega) ?_
    refine ix_g (fun c => c < 0x110000) (by assumption) (by rw [Array.length_toList]; show _ < ((sg.length : Nat) : Int); omega) hc fun c h => ?_
    exact ⟨k + 1, ss ++ [c], _, rfl, by omega, by rw [List.map_append]; rfl, by simp [hl], fun x hx => (List.mem_append.mp hx).elim (hs x) (fun h' => by rw [List.mem_singleton.mp h']; exact h), by assumption, rfl⟩
  · rintro es Γ ⟨k, ss, b, hd, hk, rfl, hl, hs, hb, rfl⟩
    exact qq ss b (by omega) hs (hb.up (by omega))

set_option maxHeartbeats 4000000 in
theorem law_true : ∀ ns : List Int, ns.length ≤ 63 → ∃ Γ, s_law [.lst (ns.map D.int)] = .ok (.bl true) Γ := by
  intro ns hns
  refine law_ok ?_
  rw [e_law]
  simp only [b_law]
  walk_at "y"
  rw [List.length_map]
  generalize hN : (if 2 < (if (ns.length : Int) < 20 then (ns.length : Int) else 20) then (if (ns.length : Int) < 20 then (ns.length : Int) else 20) else 2) = N
  have hle : 2 ≤ N ∧ N ≤ 20 := by rw [← hN]; split <;> (try split) <;> omega
  refine And.intro ⟨by omega, by omega⟩ (vfor_inv (fun ds Γ => ∃ (k : Nat) (x1 x2 x3 x4 x5 x6 x7 x8 x9 x10 x11 x12 x13 x14 : Option D), ds = (rngD 0 _).drop k ∧ Γ = [some (.lst (ns.map D.int)), x1, x2, x3, x4, x5, x6, x7, x8, x9, x10, x11, x12, x13, x14]) ⟨0, _, _, _, _, _, _, _, _, _, _, _, _, _, _, rfl, rfl⟩ ?_ ?_)
  · rintro d ds Γ ⟨k, x1, x2, x3, x4, x5, x6, x7, x8, x9, x10, x11, x12, x13, x14, hd, rfl⟩
    obtain ⟨hk, rfl, rfl⟩ := rng_drop hd.symm
    walk_at "y"
    refine cell_w (by omega) (by omega) fun c => ?_
    walk_at "y"
    refine box_w fun b hb => ?_
    walk_at "y"
    iterate 4 walk_at "yd"
    refine ix_i 0 9999999999999999999999999999999999999997 (by omega) (by show _ < (4 : Int); omega) (by walk_at "yi") fun n hn0 hn1 => ?_
    walk_at "y"
    have sn : SB 71 (strI n) := SB.int (by omega)
    have sl := sn.l
    refine And.intro (bd_i (by omega) (by omega)) (And.intro (bd_i (by omega) (by omega)) (And.intro (by omega) ?_))
    walk_at "yd"
    rename_i at_ b3 ha0 ha1 hb3
    have c1 : SB 71 (cutS (strI n) none (some at_)) := sn.cut
    have c2 : SB 71 (cutS (strI n) (some at_) none) := sn.cut
    have c1l := c1.l
    have c12 := cut_both (s := strI n) ha0
    have c2l := c2.l
    have l1 : (Str.ofString "0").length ≤ 2 := by decide
    have l2 : (Str.ofString " ").length ≤ 2 := by decide
    have l3 : (Str.ofString "-").length ≤ 2 := by decide
    have l4 : (Str.ofString "+").length ≤ 2 := by decide
    have l5 : (Str.ofString "_").length ≤ 2 := by decide
    have l6 : (Str.ofString "x").length ≤ 2 := by decide
    have l7 : (Str.ofString "\n").length ≤ 2 := by decide
    have l8 : (Str.ofString ".0").length ≤ 2 := by decide
    have l9 : (Str.ofString "9").length ≤ 2 := by decide
    iterate 17 refine And.intro (by first | omega | (unfold Sz; (try rw [Str.length_append]); omega)) ?_
    refine any_value_w hb3 (by omega) fun v b4 hv hb4 => ?_
    walk_at "y"
    refine And.intro (by decide) ?_
    iterate 2 walk_at "yd"
    have vals : ∀ d ∈ ([D.str (strI n), D.str ("0" ++ strI n), D.str (" " ++ strI n), D.str (strI n ++ " "), D.str ("-" ++ strI n), D.str ("+" ++ strI n), D.str (cutS (strI n) none (some at_) ++ "_" ++ cutS (strI n) (some at_) none), D.str (cutS (strI n) none (some at_)), D.str (cutS (strI n) none (some at_) ++ "x" ++ cutS (strI n) (some at_) none), D.str (strI n ++ "\n"), D.str "", D.str "0", D.str "00", D.str (strI n ++ ".0"), D.int n, D.str (Txt.mul "9" 41), v] : List D), noCel d ∧ strBd d := by
      simp only [List.forall_mem_cons]
      refine ⟨(sn.up (by decide)).bd, (((SB.lit "0" 1 (by decide)).app sn).up (by decide)).bd, (((SB.lit " " 1 (by decide)).app sn).up (by decide)).bd, ((sn.app (SB.lit " " 1 (by decide))).up (by decide)).bd, (((SB.lit "-" 1 (by decide)).app sn).up (by decide)).bd, (((SB.lit "+" 1 (by decide)).app sn).up (by decide)).bd, ?_, (c1.up (by decide)).bd, ?_, ((sn.app (SB.lit "\n" 1 (by decide))).up (by decide)).bd, ((SB.lit "" 1 (by decide)).up (by decide)).bd, ((SB.lit "0" 1 (by decide)).up (by decide)).bd, ((SB.lit "00" 2 (by decide)).up (by decide)).bd, ((sn.app (SB.lit ".0" 2 (by decide))).up (by decide)).bd, ⟨trivial, trivial⟩, ⟨trivial, by decide, by decide +kernel⟩, hv, fun d hd => absurd hd List.not_mem_nil⟩
      · exact ⟨trivial, by rw [Str.length_append, Str.length_append]; omega, ((c1.app (SB.lit "_" 1 (by decide))).app c2).k⟩
      · exact ⟨trivial, by rw [Str.length_append, Str.length_append]; omega, ((c1.app (SB.lit "x" 1 (by decide))).app c2).k⟩
    rename_i ls _ q1 q2 _ ms b5 q3 q4 hb5
    refine vfor_inv (fun ds Γ => (∀ d ∈ ds, noCel d ∧ strBd d) ∧ ∃ (x9 : Option D), Γ = [some (.lst (ns.map D.int)), some (.int k), some b5, some (.int n), some (.str (strI n)), some (.int at_), _, _, _, x9, x10, x11, x12, x13, x14]) ⟨vals, _, rfl⟩ ?_ ?_
    · rintro d ds Γ ⟨hds, x9, rfl⟩
      have hd := hds d List.mem_cons_self
      have hds2 : ∀ e ∈ ds, noCel e ∧ strBd e := fun e he => hds e (List.mem_cons_of_mem _ he)
      walk_at "y"
      refine numbers_right_w hd.1 hd.2 ?_
      walk_at "y"
      refine numbers_right_w hd.1 hd.2 ?_
      walk_at "y"
      exact ⟨hds2, _, rfl⟩
    · rintro Γ ⟨_, x9, rfl⟩
      walk_at "y"
      walk_at "yd"
      rename_i tt b6 u1 u2 hb6
      refine And.intro ⟨by omega, by omega⟩ (vfor_inv (fun ds Γ => ∃ (j : Nat) (b : D) (L : List Str) (x12 : Option D), ds = (rngD 0 (1 + tt).toNat).drop j ∧ j ≤ 5 ∧ BoxOk (100 + 20 * j) b ∧ L.length = j ∧ (∀ s ∈ L, SB 4 s) ∧ Γ = [some (.lst (ns.map D.int)), some (.int k), some b, some (.int n), some (.str (strI n)), some (.int at_), _, _, _, x9, some (.str "abyzAB019:-/.,~!"), some (.lst (L.map D.str)), x12, x13, x14]) ⟨0, _, [], _, rfl, by omega, hb6.up (by omega), rfl, fun s h => (by cases h), rfl⟩ ?_ ?_)
      · rintro d ds Γ ⟨j, b, L, x12, hd, hj5, hb, hL, hL2, rfl⟩
        obtain ⟨hj, rfl, rfl⟩ := rng_drop hd.symm
        walk_at "y"
        walk_at "yd"
        refine And.intro ⟨by omega, by omega⟩ (And.intro (by rw [rngD_len]; omega) (signs_core (by assumption) (by omega) (by omega) (by omega) (by decide) (by decide +kernel) fun ss b7 s1 s2 hb7 => ?_))
        walk_at "y"
        rw [show ss.map chD = (ss.map fun c => SX.S [c]).map D.str by rw [List.map_map]; rfl, vw_joinL]
        refine And.intro ?_ ?_
        · rw [List.map_map, show ((fun x : Str => x.length) ∘ fun c => SX.S [c]) = fun _ => 1 from rfl, List.length_map, show (Str.ofString "").length = 0 by decide, sum_ones]
          omega
        · rw [join_chars]
          walk_at "y"
          exact ⟨by unfold Sz; rw [List.length_map]; omega, j + 1, b7, L ++ [SX.S ss], some (.int j), rfl, by omega, hb7.up (by omega), by simp [hL], fun s hs => (List.mem_append.mp hs).elim (hL2 s) (fun h' => by rw [List.mem_singleton.mp h']; exact SB.S s1 s2), by rw [List.map_append]; simp⟩
      · rintro Γ ⟨j, b, L, x12, hd, hj5, hb, hL, hL2, rfl⟩
        walk_at "y"
        have sm := sum_len hL2
        rw [show (Str.ofString " ").length = 1 by decide, Nat.mul_one]
        refine And.intro (by omega) ?_
        walk_at "yd"
        refine ix_c (fun d => ∃ s, d = .str s ∧ SB 2 s) (by assumption) (by show _ < (4 : Int); omega) ?_ fun bd hbd => ?_
        · simp only [List.forall_mem_cons]
          exact ⟨⟨_, rfl, SB.lit _ 2 (by decide)⟩, ⟨_, rfl, SB.lit _ 2 (by decide)⟩, ⟨_, rfl, SB.lit _ 2 (by decide)⟩, ⟨_, rfl, SB.lit _ 2 (by decide)⟩, fun d hd => absurd hd List.not_mem_nil⟩
        obtain ⟨bad, rfl, hbad⟩ := hbd
        have line : SB 25 (Txt.join " " L) := ((SB.lit " " 1 (by decide)).joinT hL2).up (by omega)
        have bline : SB 30 (Txt.join bad L) := (hbad.joinT hL2).up (by omega)
        have mb : L.length * bad.length ≤ 5 * 2 := Nat.mul_le_mul (by omega) hbad.l
        have hbl := hbad.l
        have lnl := line.l
        walk_at "y"
        refine And.intro (by unfold Sz; omega) (And.intro (by unfold Sz; omega) (And.intro (by omega) (And.intro (by unfold Sz; omega) ?_)))
        refine any_value_w (by assumption) (by omega) fun v2 b8 hv2 hb8 => ?_
        walk_at "y"
        refine vfor_inv (fun ds Γ => (∀ d ∈ ds, noCel d ∧ strBd d) ∧ ∃ (x9 : Option D), Γ = [some (.lst (ns.map D.int)), some (.int k), some b8, some (.int n), some (.str (strI n)), some (.int at_), _, _, _, x9, some (.str "abyzAB019:-/.,~!"), none, x12, _, _]) ⟨?_, _, rfl⟩ ?_ ?_
        · simp only [List.forall_mem_cons]
          exact ⟨(line.up (by decide)).bd, ((line.app (SB.lit " " 1 (by decide))).up (by decide)).bd, (((SB.lit " " 1 (by decide)).app line).up (by decide)).bd, (bline.up (by decide)).bd, ((line.app hbad).up (by decide)).bd, ((SB.lit "" 1 (by decide)).up (by decide)).bd, ((SB.lit " " 1 (by decide)).up (by decide)).bd, hv2, ⟨trivial, trivial⟩, fun d hd => absurd hd List.not_mem_nil⟩
        · rintro d ds Γ ⟨hds, x9, rfl⟩
          have hd := hds d List.mem_cons_self
          have hds2 : ∀ e ∈ ds, noCel e ∧ strBd e := fun e he => hds e (List.mem_cons_of_mem _ he)
          walk_at "y"
          refine words_of_w hd.1 hd.2 ?_
          walk_at "y"
          refine words_expected_w hd.1 hd.2 ?_
          walk_at "y"
          refine equal_w (okE_wordsD hd.2) ?_
          walk_at "y"
          exact ⟨hds2, _, rfl⟩
        · rintro Γ ⟨_, x9, rfl⟩
          walk_at "y"
          exact ⟨k + 1, _, _, _, _, _, _, _, _, _, _, _, _, _, _, rfl, rfl⟩
  · rintro Γ ⟨k, x1, x2, x3, x4, x5, x6, x7, x8, x9, x10, x11, x12, x13, x14, hd, rfl⟩
    walk_at "y"

end Y
namespace Y
open PySem PySem.Spec PyProof.Rows L2 Z
set_option maxHeartbeats 4000000 in
theorem all_mk {l : PySem.W.OpenLaw} {w : World} {K : PySem.W.Frag} {h : Heap} {mg : Str → Option Value} {fa : Addr} (X : K.In h) (G0 : h.Ns mainGlobals mg) (hfa : mg "law" = some (.ref fa))
    {f_is_digits : Addr} {od_is_digits an_is_digits : Option Addr} {sl_is_digits : Array (Option Value)} {oc_is_digits kV_is_digits dc_is_digits pm_is_digits cd_is_digits ct_is_digits : Value}
    {f_words_of : Addr} {od_words_of an_words_of : Option Addr} {sl_words_of : Array (Option Value)} {oc_words_of kV_words_of dc_words_of pm_words_of cd_words_of ct_words_of : Value}
    {f__law_cell : Addr} {od__law_cell an__law_cell : Option Addr} {sl__law_cell : Array (Option Value)} {oc__law_cell kV__law_cell dc__law_cell pm__law_cell cd__law_cell ct__law_cell : Value}
    {f__law_box : Addr} {od__law_box an__law_box : Option Addr} {sl__law_box : Array (Option Value)} {oc__law_box kV__law_box dc__law_box pm__law_box cd__law_box ct__law_box : Value}
    {f__law_take : Addr} {od__law_take an__law_take : Option Addr} {sl__law_take : Array (Option Value)} {oc__law_take kV__law_take dc__law_take pm__law_take cd__law_take ct__law_take : Value}
    {f__law_equal : Addr} {od__law_equal an__law_equal : Option Addr} {sl__law_equal : Array (Option Value)} {oc__law_equal kV__law_equal dc__law_equal pm__law_equal cd__law_equal ct__law_equal : Value}
    {f__law_number_expected : Addr} {od__law_number_expected an__law_number_expected : Option Addr} {sl__law_number_expected : Array (Option Value)} {oc__law_number_expected kV__law_number_expected dc__law_number_expected pm__law_number_expected cd__law_number_expected ct__law_number_expected : Value}
    {f__law_words_expected : Addr} {od__law_words_expected an__law_words_expected : Option Addr} {sl__law_words_expected : Array (Option Value)} {oc__law_words_expected kV__law_words_expected dc__law_words_expected pm__law_words_expected cd__law_words_expected ct__law_words_expected : Value}
    {f_read_number : Addr} {od_read_number an_read_number : Option Addr} {sl_read_number : Array (Option Value)} {oc_read_number kV_read_number dc_read_number pm_read_number cd_read_number ct_read_number : Value}
    {T_read_number : Addr} {tc_read_number : Value} {td_read_number : Option Addr} {tn_read_number : Nat} {ts_read_number : Array (Option Value)} {tt0_read_number : Tok} {tt1_read_number : Tok}
    {f__law_any_value : Addr} {od__law_any_value an__law_any_value : Option Addr} {sl__law_any_value : Array (Option Value)} {oc__law_any_value kV__law_any_value dc__law_any_value pm__law_any_value cd__law_any_value ct__law_any_value : Value}
    {f__law_numbers_right : Addr} {od__law_numbers_right an__law_numbers_right : Option Addr} {sl__law_numbers_right : Array (Option Value)} {oc__law_numbers_right kV__law_numbers_right dc__law_numbers_right pm__law_numbers_right cd__law_numbers_right ct__law_numbers_right : Value}
    {f_law : Addr} {od_law an_law : Option Addr} {sl_law : Array (Option Value)} {oc_law kV_law dc_law pm_law cd_law ct_law : Value}
    {t_BLANK : Tok}
    {t_DIGITS : Tok}
    {t_LINE_FEED : Tok}
    (g_is_digits : PySem.W.nsIn K mainGlobals "is_digits" = some (some (.ref f_is_digits)))
    (l_is_digits : K.lookup f_is_digits = some ⟨oc_is_digits, od_is_digits, .func (PySem.W.fnOf "is_digits" "is_digits" (defArgs st_is_digits) (defBody st_is_digits) (defScope st_is_digits) .none kV_is_digits dc_is_digits pm_is_digits an_is_digits cd_is_digits ct_is_digits), sl_is_digits⟩)
    (c_is_digits : PySem.W.codeIn K cd_is_digits "is_digits" = true)
    (k_is_digits : PySem.W.keepIn K (.ref f_is_digits) = true)
    (g_words_of : PySem.W.nsIn K mainGlobals "words_of" = some (some (.ref f_words_of)))
    (l_words_of : K.lookup f_words_of = some ⟨oc_words_of, od_words_of, .func (PySem.W.fnOf "words_of" "words_of" (defArgs st_words_of) (defBody st_words_of) (defScope st_words_of) .none kV_words_of dc_words_of pm_words_of an_words_of cd_words_of ct_words_of), sl_words_of⟩)
    (c_words_of : PySem.W.codeIn K cd_words_of "words_of" = true)
    (k_words_of : PySem.W.keepIn K (.ref f_words_of) = true)
    (g__law_cell : PySem.W.nsIn K mainGlobals "_law_cell" = some (some (.ref f__law_cell)))
    (l__law_cell : K.lookup f__law_cell = some ⟨oc__law_cell, od__law_cell, .func (PySem.W.fnOf "_law_cell" "_law_cell" (defArgs st__law_cell) (defBody st__law_cell) (defScope st__law_cell) .none kV__law_cell dc__law_cell pm__law_cell an__law_cell cd__law_cell ct__law_cell), sl__law_cell⟩)
    (c__law_cell : PySem.W.codeIn K cd__law_cell "_law_cell" = true)
    (k__law_cell : PySem.W.keepIn K (.ref f__law_cell) = true)
    (g__law_box : PySem.W.nsIn K mainGlobals "_law_box" = some (some (.ref f__law_box)))
    (l__law_box : K.lookup f__law_box = some ⟨oc__law_box, od__law_box, .func (PySem.W.fnOf "_law_box" "_law_box" (defArgs st__law_box) (defBody st__law_box) (defScope st__law_box) .none kV__law_box dc__law_box pm__law_box an__law_box cd__law_box ct__law_box), sl__law_box⟩)
    (c__law_box : PySem.W.codeIn K cd__law_box "_law_box" = true)
    (k__law_box : PySem.W.keepIn K (.ref f__law_box) = true)
    (g__law_take : PySem.W.nsIn K mainGlobals "_law_take" = some (some (.ref f__law_take)))
    (l__law_take : K.lookup f__law_take = some ⟨oc__law_take, od__law_take, .func (PySem.W.fnOf "_law_take" "_law_take" (defArgs st__law_take) (defBody st__law_take) (defScope st__law_take) .none kV__law_take dc__law_take pm__law_take an__law_take cd__law_take ct__law_take), sl__law_take⟩)
    (c__law_take : PySem.W.codeIn K cd__law_take "_law_take" = true)
    (k__law_take : PySem.W.keepIn K (.ref f__law_take) = true)
    (g__law_equal : PySem.W.nsIn K mainGlobals "_law_equal" = some (some (.ref f__law_equal)))
    (l__law_equal : K.lookup f__law_equal = some ⟨oc__law_equal, od__law_equal, .func (PySem.W.fnOf "_law_equal" "_law_equal" (defArgs st__law_equal) (defBody st__law_equal) (defScope st__law_equal) .none kV__law_equal dc__law_equal pm__law_equal an__law_equal cd__law_equal ct__law_equal), sl__law_equal⟩)
    (c__law_equal : PySem.W.codeIn K cd__law_equal "_law_equal" = true)
    (k__law_equal : PySem.W.keepIn K (.ref f__law_equal) = true)
    (g__law_number_expected : PySem.W.nsIn K mainGlobals "_law_number_expected" = some (some (.ref f__law_number_expected)))
    (l__law_number_expected : K.lookup f__law_number_expected = some ⟨oc__law_number_expected, od__law_number_expected, .func (PySem.W.fnOf "_law_number_expected" "_law_number_expected" (defArgs st__law_number_expected) (defBody st__law_number_expected) (defScope st__law_number_expected) .none kV__law_number_expected dc__law_number_expected pm__law_number_expected an__law_number_expected cd__law_number_expected ct__law_number_expected), sl__law_number_expected⟩)
    (c__law_number_expected : PySem.W.codeIn K cd__law_number_expected "_law_number_expected" = true)
    (k__law_number_expected : PySem.W.keepIn K (.ref f__law_number_expected) = true)
    (g__law_words_expected : PySem.W.nsIn K mainGlobals "_law_words_expected" = some (some (.ref f__law_words_expected)))
    (l__law_words_expected : K.lookup f__law_words_expected = some ⟨oc__law_words_expected, od__law_words_expected, .func (PySem.W.fnOf "_law_words_expected" "_law_words_expected" (defArgs st__law_words_expected) (defBody st__law_words_expected) (defScope st__law_words_expected) .none kV__law_words_expected dc__law_words_expected pm__law_words_expected an__law_words_expected cd__law_words_expected ct__law_words_expected), sl__law_words_expected⟩)
    (c__law_words_expected : PySem.W.codeIn K cd__law_words_expected "_law_words_expected" = true)
    (k__law_words_expected : PySem.W.keepIn K (.ref f__law_words_expected) = true)
    (g_read_number : PySem.W.nsIn K mainGlobals "read_number" = some (some (.ref f_read_number)))
    (l_read_number : K.lookup f_read_number = some ⟨oc_read_number, od_read_number, .func (PySem.W.fnOf "read_number" "read_number" (defArgs st_read_number) (defBody st_read_number) (defScope st_read_number) (.ref T_read_number) kV_read_number dc_read_number pm_read_number an_read_number cd_read_number ct_read_number), sl_read_number⟩)
    (c_read_number : PySem.W.codeIn K cd_read_number "read_number" = true)
    (k_read_number : PySem.W.keepIn K (.ref f_read_number) = true)
    (t_read_number : K.lookup T_read_number = some ⟨tc_read_number, td_read_number, .seq #[.int 0 tt0_read_number, .int 1000000 tt1_read_number] tn_read_number, ts_read_number⟩)
    (g__law_any_value : PySem.W.nsIn K mainGlobals "_law_any_value" = some (some (.ref f__law_any_value)))
    (l__law_any_value : K.lookup f__law_any_value = some ⟨oc__law_any_value, od__law_any_value, .func (PySem.W.fnOf "_law_any_value" "_law_any_value" (defArgs st__law_any_value) (defBody st__law_any_value) (defScope st__law_any_value) .none kV__law_any_value dc__law_any_value pm__law_any_value an__law_any_value cd__law_any_value ct__law_any_value), sl__law_any_value⟩)
    (c__law_any_value : PySem.W.codeIn K cd__law_any_value "_law_any_value" = true)
    (k__law_any_value : PySem.W.keepIn K (.ref f__law_any_value) = true)
    (g__law_numbers_right : PySem.W.nsIn K mainGlobals "_law_numbers_right" = some (some (.ref f__law_numbers_right)))
    (l__law_numbers_right : K.lookup f__law_numbers_right = some ⟨oc__law_numbers_right, od__law_numbers_right, .func (PySem.W.fnOf "_law_numbers_right" "_law_numbers_right" (defArgs st__law_numbers_right) (defBody st__law_numbers_right) (defScope st__law_numbers_right) .none kV__law_numbers_right dc__law_numbers_right pm__law_numbers_right an__law_numbers_right cd__law_numbers_right ct__law_numbers_right), sl__law_numbers_right⟩)
    (c__law_numbers_right : PySem.W.codeIn K cd__law_numbers_right "_law_numbers_right" = true)
    (k__law_numbers_right : PySem.W.keepIn K (.ref f__law_numbers_right) = true)
    (g_law : PySem.W.nsIn K mainGlobals "law" = some (some (.ref f_law)))
    (l_law : K.lookup f_law = some ⟨oc_law, od_law, .func (PySem.W.fnOf "law" "law" (defArgs st_law) (defBody st_law) (defScope st_law) .none kV_law dc_law pm_law an_law cd_law ct_law), sl_law⟩)
    (c_law : PySem.W.codeIn K cd_law "law" = true)
    (k_law : PySem.W.keepIn K (.ref f_law) = true)
    (n_all : PySem.W.nsIn K mainGlobals "all" = some none)
    (n_int : PySem.W.nsIn K mainGlobals "int" = some none)
    (n_isinstance : PySem.W.nsIn K mainGlobals "isinstance" = some none)
    (n_len : PySem.W.nsIn K mainGlobals "len" = some none)
    (n_max : PySem.W.nsIn K mainGlobals "max" = some none)
    (n_min : PySem.W.nsIn K mainGlobals "min" = some none)
    (n_range : PySem.W.nsIn K mainGlobals "range" = some none)
    (n_repr : PySem.W.nsIn K mainGlobals "repr" = some none)
    (n_str : PySem.W.nsIn K mainGlobals "str" = some none)
    (v_BLANK : PySem.W.nsIn K mainGlobals "BLANK" = some (some (.str " " t_BLANK)))
    (v_DIGITS : PySem.W.nsIn K mainGlobals "DIGITS" = some (some (.str "0123456789" t_DIGITS)))
    (v_LINE_FEED : PySem.W.nsIn K mainGlobals "LINE_FEED" = some (some (.str "\n" t_LINE_FEED)))
    : ∃ fd : FuncData, (∀ (s : Shared) (v : Value), BindsTo s fd ⟨[v], []⟩ [("script", v)]) ∧ ∀ base : Heap, K.In base → base.Ns mainGlobals mg → FnG l.prog w K mg base (L2.CX l.prog w) 4 fa fd ["script"] (spLaw K) := by
  have e := hfa.symm.trans (PySem.W.mg_of X G0 g_law)
  cases e
  have F_is_digits := fun_mk (st := st_is_digits) l_is_digits c_is_digits k_is_digits
  have F_words_of := fun_mk (st := st_words_of) l_words_of c_words_of k_words_of
  have F__law_cell := fun_mk (st := st__law_cell) l__law_cell c__law_cell k__law_cell
  have F__law_box := fun_mk (st := st__law_box) l__law_box c__law_box k__law_box
  have F__law_take := fun_mk (st := st__law_take) l__law_take c__law_take k__law_take
  have F__law_equal := fun_mk (st := st__law_equal) l__law_equal c__law_equal k__law_equal
  have F__law_number_expected := fun_mk (st := st__law_number_expected) l__law_number_expected c__law_number_expected k__law_number_expected
  have F__law_words_expected := fun_mk (st := st__law_words_expected) l__law_words_expected c__law_words_expected k__law_words_expected
  have F_read_number := funD_mk (st := st_read_number) (dvs := [.int 0, .int 1000000]) (its := [.int 0 tt0_read_number, .int 1000000 tt1_read_number]) (by simp) l_read_number c_read_number k_read_number t_read_number (.cons ⟨_, rfl⟩ (.cons ⟨_, rfl⟩ (.nil)))
  have F__law_any_value := fun_mk (st := st__law_any_value) l__law_any_value c__law_any_value k__law_any_value
  have F__law_numbers_right := fun_mk (st := st__law_numbers_right) l__law_numbers_right c__law_numbers_right k__law_numbers_right
  have F_law := fun_mk (st := st_law) l_law c_law k_law
  let G : KC := ⟨K, fun _ => 0, 0, fun _ => none⟩
  let T : Tx G mg := {
    hk := kok0 rfl,
    a_is_digits := f_is_digits, d_is_digits := _, F_is_digits := F_is_digits, b_is_digits := (F_is_digits.binds (ps := ["text"]) fun _ _ _ _ _ _ us hl => match us, hl with | [_], _ => rfl), m_is_digits := PySem.W.mg_of X G0 g_is_digits,
    a_words_of := f_words_of, d_words_of := _, F_words_of := F_words_of, b_words_of := (F_words_of.binds (ps := ["text"]) fun _ _ _ _ _ _ us hl => match us, hl with | [_], _ => rfl), m_words_of := PySem.W.mg_of X G0 g_words_of,
    a__law_cell := f__law_cell, d__law_cell := _, F__law_cell := F__law_cell, b__law_cell := (F__law_cell.binds (ps := ["script", "k"]) fun _ _ _ _ _ _ us hl => match us, hl with | [_, _], _ => rfl), m__law_cell := PySem.W.mg_of X G0 g__law_cell,
    a__law_box := f__law_box, d__law_box := _, F__law_box := F__law_box, b__law_box := (F__law_box.binds (ps := ["cell"]) fun _ _ _ _ _ _ us hl => match us, hl with | [_], _ => rfl), m__law_box := PySem.W.mg_of X G0 g__law_box,
    a__law_take := f__law_take, d__law_take := _, F__law_take := F__law_take, b__law_take := (F__law_take.binds (ps := ["box", "many"]) fun _ _ _ _ _ _ us hl => match us, hl with | [_, _], _ => rfl), m__law_take := PySem.W.mg_of X G0 g__law_take,
    a__law_equal := f__law_equal, d__law_equal := _, F__law_equal := F__law_equal, b__law_equal := (F__law_equal.binds (ps := ["result", "expected"]) fun _ _ _ _ _ _ us hl => match us, hl with | [_, _], _ => rfl), m__law_equal := PySem.W.mg_of X G0 g__law_equal,
    a__law_number_expected := f__law_number_expected, d__law_number_expected := _, F__law_number_expected := F__law_number_expected, b__law_number_expected := (F__law_number_expected.binds (ps := ["text", "floor", "top"]) fun _ _ _ _ _ _ us hl => match us, hl with | [_, _, _], _ => rfl), m__law_number_expected := PySem.W.mg_of X G0 g__law_number_expected,
    a__law_words_expected := f__law_words_expected, d__law_words_expected := _, F__law_words_expected := F__law_words_expected, b__law_words_expected := (F__law_words_expected.binds (ps := ["text"]) fun _ _ _ _ _ _ us hl => match us, hl with | [_], _ => rfl), m__law_words_expected := PySem.W.mg_of X G0 g__law_words_expected,
    a_read_number := f_read_number, d_read_number := _, F_read_number := F_read_number, b_read_number := binds_all (F_read_number.binds1 (ps := ["text", "low", "high"]) 3 2 (by simp) rfl fun _ _ _ _ _ _ _ us its hl hl2 => match us, its, hl, hl2 with | [_, _, _], [_, _], _, _ => ⟨_, rfl, rfl⟩), bd_read_number_1 := F_read_number.binds1 (ps := ["text", "low", "high"]) 1 0 (by simp) rfl fun _ _ _ _ _ _ _ us its hl hl2 => match us, its, hl, hl2 with | [_], [_, _], _, _ => ⟨_, rfl, rfl⟩, bd_read_number_2 := F_read_number.binds1 (ps := ["text", "low", "high"]) 2 1 (by simp) rfl fun _ _ _ _ _ _ _ us its hl hl2 => match us, its, hl, hl2 with | [_, _], [_, _], _, _ => ⟨_, rfl, rfl⟩, km_read_number_high := kbindsM (ps := ["text", "low", "high"]) F_read_number 1 ["high"] 0 1 2 (by simp) fun _ _ _ _ _ _ _ us its ws hl hl2 hl3 => match us, its, ws, hl, hl2, hl3 with | [_], [_, _], [_], _, _, _ => ⟨_, rfl, rfl⟩, km_read_number_low := kbindsM (ps := ["text", "low", "high"]) F_read_number 1 ["low"] 0 0 1 (by simp) fun _ _ _ _ _ _ _ us its ws hl hl2 hl3 => match us, its, ws, hl, hl2, hl3 with | [_], [_, _], [_], _, _, _ => ⟨_, rfl, rfl⟩, m_read_number := PySem.W.mg_of X G0 g_read_number,
    a__law_any_value := f__law_any_value, d__law_any_value := _, F__law_any_value := F__law_any_value, b__law_any_value := (F__law_any_value.binds (ps := ["box"]) fun _ _ _ _ _ _ us hl => match us, hl with | [_], _ => rfl), m__law_any_value := PySem.W.mg_of X G0 g__law_any_value,
    a__law_numbers_right := f__law_numbers_right, d__law_numbers_right := _, F__law_numbers_right := F__law_numbers_right, b__law_numbers_right := (F__law_numbers_right.binds (ps := ["text", "least", "most"]) fun _ _ _ _ _ _ us hl => match us, hl with | [_, _, _], _ => rfl), m__law_numbers_right := PySem.W.mg_of X G0 g__law_numbers_right,
    a_law := fa, d_law := _, F_law := F_law, b_law := (F_law.binds (ps := ["script"]) fun _ _ _ _ _ _ us hl => match us, hl with | [_], _ => rfl), m_law := PySem.W.mg_of X G0 g_law,
    n_all := PySem.W.mg_none_of X G0 n_all,
    n_int := PySem.W.mg_none_of X G0 n_int,
    n_isinstance := PySem.W.mg_none_of X G0 n_isinstance,
    n_len := PySem.W.mg_none_of X G0 n_len,
    n_max := PySem.W.mg_none_of X G0 n_max,
    n_min := PySem.W.mg_none_of X G0 n_min,
    n_range := PySem.W.mg_none_of X G0 n_range,
    n_repr := PySem.W.mg_none_of X G0 n_repr,
    n_str := PySem.W.mg_none_of X G0 n_str,
    c_BLANK := ⟨_, PySem.W.mg_of X G0 v_BLANK⟩,
    c_DIGITS := ⟨_, PySem.W.mg_of X G0 v_DIGITS⟩,
    c_LINE_FEED := ⟨_, PySem.W.mg_of X G0 v_LINE_FEED⟩ }
  exact ⟨_, fun s v => .of_eq rfl, fun base _ _ => fnG_imp (ok_law T) (sp_law (G := G) rfl law_true)⟩
end Y

open PySem PySem.W PyProof.Rows in
set_option maxRecDepth 100000 in
set_option maxHeartbeats 0 in
theorem PySem.Challenge.cw_stacksaw_k02_numbers_and_words_holds : PySem.Challenge.rw_stacksaw_k02_numbers_and_words.Holds := by
  w_on; o_law; k_head; (case hw => w_witness2)
  k_fill
  refine Y.walk_G (l := PySem.Challenge.rw_stacksaw_k02_numbers_and_words) (x := "script") (k := 4) rfl rfl ⟨rfl, by decide, by decide⟩ (fun w h Y => PySem.W.kIn_of Y) ?F
  case F =>
    intro w mg fa h KX G hmg
    refine' Y.all_mk KX G hmg ?g_is_digits ?l_is_digits ?c_is_digits ?k_is_digits ?g_words_of ?l_words_of ?c_words_of ?k_words_of ?g__law_cell ?l__law_cell ?c__law_cell ?k__law_cell ?g__law_box ?l__law_box ?c__law_box ?k__law_box ?g__law_take ?l__law_take ?c__law_take ?k__law_take ?g__law_equal ?l__law_equal ?c__law_equal ?k__law_equal ?g__law_number_expected ?l__law_number_expected ?c__law_number_expected ?k__law_number_expected ?g__law_words_expected ?l__law_words_expected ?c__law_words_expected ?k__law_words_expected ?g_read_number ?l_read_number ?c_read_number ?k_read_number ?t_read_number ?g__law_any_value ?l__law_any_value ?c__law_any_value ?k__law_any_value ?g__law_numbers_right ?l__law_numbers_right ?c__law_numbers_right ?k__law_numbers_right ?g_law ?l_law ?c_law ?k_law ?n_all ?n_int ?n_isinstance ?n_len ?n_max ?n_min ?n_range ?n_repr ?n_str ?v_BLANK ?v_DIGITS ?v_LINE_FEED
    (case g_is_digits => k_is)
    (case l_is_digits => k_is)
    (case c_is_digits => k_is)
    (case k_is_digits => k_is)
    (case g_words_of => k_is)
    (case l_words_of => k_is)
    (case c_words_of => k_is)
    (case k_words_of => k_is)
    (case g__law_cell => k_is)
    (case l__law_cell => k_is)
    (case c__law_cell => k_is)
    (case k__law_cell => k_is)
    (case g__law_box => k_is)
    (case l__law_box => k_is)
    (case c__law_box => k_is)
    (case k__law_box => k_is)
    (case g__law_take => k_is)
    (case l__law_take => k_is)
    (case c__law_take => k_is)
    (case k__law_take => k_is)
    (case g__law_equal => k_is)
    (case l__law_equal => k_is)
    (case c__law_equal => k_is)
    (case k__law_equal => k_is)
    (case g__law_number_expected => k_is)
    (case l__law_number_expected => k_is)
    (case c__law_number_expected => k_is)
    (case k__law_number_expected => k_is)
    (case g__law_words_expected => k_is)
    (case l__law_words_expected => k_is)
    (case c__law_words_expected => k_is)
    (case k__law_words_expected => k_is)
    (case g_read_number => k_is)
    (case l_read_number => k_is)
    (case c_read_number => k_is)
    (case k_read_number => k_is)
    (case t_read_number => k_is)
    (case g__law_any_value => k_is)
    (case l__law_any_value => k_is)
    (case c__law_any_value => k_is)
    (case k__law_any_value => k_is)
    (case g__law_numbers_right => k_is)
    (case l__law_numbers_right => k_is)
    (case c__law_numbers_right => k_is)
    (case k__law_numbers_right => k_is)
    (case g_law => k_is)
    (case l_law => k_is)
    (case c_law => k_is)
    (case k_law => k_is)
    (case n_all => k_is)
    (case n_int => k_is)
    (case n_isinstance => k_is)
    (case n_len => k_is)
    (case n_max => k_is)
    (case n_min => k_is)
    (case n_range => k_is)
    (case n_repr => k_is)
    (case n_str => k_is)
    (case v_BLANK => k_is)
    (case v_DIGITS => k_is)
    (case v_LINE_FEED => k_is)

