import PyProof.Rows.All
import Wide.All
import OpenK.AllK
import Wide.FinOn
import HandS.ForMost
import HandS.ForExc
import HandS.More
import HandS.Deep
import KE.KMinKey
import HandS.SortKw
import HandS.IsInst
import HandS.Walk
import HandS.TryOnly
import HandS.ExcOwn
import HandS.ExcIs
import HandS.Text
import PySem.Challenge.RW_quotehall_k11_too_great
set_option Elab.async false
set_option linter.all false
set_option maxRecDepth 100000
set_option maxHeartbeats 4000000
set_option autoImplicit false
/- Part 1: calls counted frame by frame (one for each call), exceptions of own classes let through. -/
namespace Dq
open PySem PySem.Spec PyProof.Rows L2

/-- room for n more frames -/
structure Rm (n : Nat) (A : Around) : Prop where
  hd : A.handled = none
  dp : A.depth + n + 5 < recursionLimit
  un : A.units + 5 * n + 200 < cLine
theorem Rm.mono {m n : Nat} {A : Around} (r : Rm n A) (h : m ≤ n) : Rm m A := ⟨r.hd, by have := r.dp; omega, by have := r.un; omega⟩
theorem Rm.deeper {n : Nat} {A : Around} (r : Rm (n + 1) A) (env : Env) : Rm n (A.deeper env) :=
  ⟨r.hd, by have := r.dp; show A.depth + 1 + n + 5 < _; omega, by have := r.un; show A.units + 3 + 5 * n + 200 < _; omega⟩
theorem Rm.make {n : Nat} {A : Around} (r : Rm (n + 1) A) (C : Addr) (us : List Value) (kw : List (Str × Value)) : Rm n (A.under (.builtin "type.__call__" ⟨.ref C :: us, kw⟩)) :=
  ⟨r.hd, by have := r.dp; rw [make_depth]; omega, by have := r.un; rw [make_units]; omega⟩
theorem Rm.of_room {k : Nat} {A : Around} (r : Room k A) : Rm (3 * k) A := ⟨r.hd, by have := r.dp; omega, by have := r.un; omega⟩
theorem Rm.room {n k : Nat} {A : Around} (r : Rm n A) (h : 3 * k ≤ n) (h2 : n ≤ 3 * k + 2 ∨ 16 * k ≤ 5 * n) (h3 : 16 * k ≤ 5 * n) : Room k A := ⟨r.hd, by have := r.dp; omega, by have := r.un; omega⟩
theorem Rm.un64 {n : Nat} {A : Around} (r : Rm n A) : A.units + 64 < cLine := by have := r.un; omega
theorem Rm.un65 {n : Nat} {A : Around} (r : Rm n A) : A.units + 65 < cLine := by have := r.un; omega
theorem Rm.un1 {n : Nat} {A : Around} (r : Rm n A) : A.units + 1 < cLine := by have := r.un; omega
theorem Rm.un0 {n : Nat} {A : Around} (r : Rm n A) : A.units < cLine := by have := r.un; omega

/-- the def at f keeps the promise sp, n frames being free; what it lets out lies as CX tells -/
structure FnR (P : Program) (w : World) (K : PySem.W.Frag) (mg : Str → Option Value) (base : Heap) (n : Nat) (f : Addr) (fd : FuncData) (ps : List Str) (sp : Sp) : Prop where
  len : ∀ vs H Q E, sp vs H Q E → vs.length = ps.length
  run : ∀ (A : Around) (outer : List Env) (s : Shared) (H : Hp) (args : Args) (us : List Value) (vs : List V) (Q : VK) (E : XK), Rm n A → Env0 P w K mg base A outer s H → BindsTo s fd args (ps.zip us) → Vals vs us → sp vs H Q E →
    codeAny (model P w) A (.call (.ref f) args) (CR (L2.CX P w) outer P w H s Q E) s
section
variable {P : Program} {w : World} {K : PySem.W.Frag} {mg : Str → Option Value} {base : Heap} {m n : Nat} {f : Addr} {fd : FuncData} {ps : List Str} {sp sp' : Sp}
theorem FnR.mono (F : FnR P w K mg base m f fd ps sp) (h : m ≤ n) : FnR P w K mg base n f fd ps sp :=
  ⟨F.len, fun A o s H args us vs Q E hr => F.run A o s H args us vs Q E (hr.mono h)⟩
theorem FnR.imp (F : FnR P w K mg base n f fd ps sp) (h : ∀ vs H Q E, sp' vs H Q E → sp vs H Q E) : FnR P w K mg base n f fd ps sp' :=
  ⟨fun vs H Q E q => F.len vs H Q E (h _ _ _ _ q), fun A o s H args us vs Q E hr he hb hv hs => F.run A o s H args us vs Q E hr he hb hv (h _ _ _ _ hs)⟩
theorem FnR.ok {k : Nat} (F : FnR P w K mg base n f fd ps sp) (h : n ≤ 3 * k) : FnOk P w K mg base (L2.CX P w) k f fd ps sp :=
  ⟨F.len, fun A o s H args us vs Q E hr => F.run A o s H args us vs Q E ((Rm.of_room hr).mono h)⟩
/-- nothing is asked of it: no call is promised anything -/
theorem FnR.void (h : ∀ vs H Q E, ¬ sp vs H Q E) : FnR P w K mg base n f fd ps sp :=
  ⟨fun vs H Q E q => absurd q (h vs H Q E), fun A o s H args us vs Q E _ _ _ _ q => absurd q (h vs H Q E)⟩
end

section
variable {X : Cx} {n : Nat} {f C : Addr} {fd : FuncData} {ps : List Str} {sp : Sp} {E : XK} {x m : Str} {p pos apos : Pos} {e o : Expr} {es : List Expr} {ta : TE} {t : TA}
theorem run_fnR {pins : List (Addr × Obj)} {σ : L2.St} {H : Hp} {s : Shared} {Q : VK} {us : List Value} {vs : List V} (F : FnR X.prog X.w X.K X.mg X.base n f fd ps sp) (hr : Rm n X.A) (hb : Binds X.K fd ps []) (hx : Passes (L2.CX X.prog X.w) X E)
    (I : Inv X pins σ H s) (r : Vals vs us) (h : sp vs H Q E) : wpAny (model X.prog X.w) X.A (call (.ref f) us) (EP X pins σ Q) X.xe s := by
  have hl : (us ++ []).length = ps.length := by rw [List.append_nil, ← r.length]; exact F.len _ _ _ _ h
  have b := hb s us I.kIn hl
  rw [List.append_nil] at b
  refine wpAny_call (codeAny_mono (F.run X.A X.stack s H ⟨us, []⟩ us vs Q E hr I.env0 b r h) fun res s2 q2 => ?_)
  match res, q2 with
  | .error e, q2 => exact hx pins σ H s e s2 I q2
  | .ok (.ret u), q2 => exact I.after q2
theorem pe_callR (F : FnR X.prog X.w X.K X.mg X.base n f fd ps sp) (hr : Rm n X.A) (hg : Gl X x) (hm : X.mg x = some (.ref f)) (hk : PySem.W.keepIn X.K (.ref f) = true) (hb : Binds X.K fd ps []) (hx : Passes (L2.CX X.prog X.w) X E)
    (ha : PA X (e :: es) t) (hdb : (x == ("__debug__" : Str)) = false := by decide) (he : starEach (e :: es) X.env = (false, eval e X.env) :: starEach es X.env := by rfl) (hpl : (backTo pos (starEach es X.env)).any (·.1) = false := by rfl) :
    PE X (.Call (.Name x p) (e :: es) [] pos) (tCall sp [] E t) := by
  constructor
  intro pins s σ H Q I h
  apply wpAny_Call_Name_kw
  apply ld_glob I hg hm _ hdb
  refine PySem.W.callWith_K (h₀ := X.base) I.ok.mod.kin hk (thn (ha.run pos pins s σ H _ I h) fun us s1 ⟨vs, H1, I1, r, q⟩ => ⟨I1.kIn, ?_⟩) he hpl
  simp only [List.append_nil] at q
  exact run_fnR F hr hb hx I1 r q
theorem pe_callR0 (F : FnR X.prog X.w X.K X.mg X.base n f fd ps sp) (hr : Rm n X.A) (hg : Gl X x) (hm : X.mg x = some (.ref f)) (hk : PySem.W.keepIn X.K (.ref f) = true) (hb : Binds X.K fd ps []) (hx : Passes (L2.CX X.prog X.w) X E)
    (hdb : (x == ("__debug__" : Str)) = false := by decide) : PE X (.Call (.Name x p) [] [] pos) (tCall sp [] E tNil) := by
  constructor
  intro pins s σ H Q I h
  apply wpAny_Call_Name_kw
  apply ld_glob I hg hm _ hdb
  exact PySem.W.callWith_K0 I.kIn hk (run_fnR (us := []) (vs := []) F hr hb hx I .nil h)
/-- o.m(e, ..) of an instance of an own class -/
theorem pe_methR {pl : Sem Bool} (he : PE X o ta) (c : Cls X.K C) (hm : Meth X.K C m f) (F : FnR X.prog X.w X.K X.mg X.base n f fd ps sp) (hr : Rm n X.A) (hb : Binds X.K fd ps []) (hx : Passes (L2.CX X.prog X.w) X E) (ha : PA X (e :: es) t)
    (hst : starEach (e :: es) X.env = (false, eval e X.env) :: starEach es X.env := by rfl) (hpl : (backTo pos (starEach es X.env)).any (·.1) = false := by rfl)
    (ht : eval (.Call (.Attribute o m apos) (e :: es) [] pos) X.env = (do
      let ov ← eval o X.env
      standAt apos.atName
      let (f, first) ← holding [ov] (getMethod ov m pl)
      callWith pos f first (backTo pos (starEach (e :: es) X.env)) (backToKw pos (keywordEach [] X.env))) := by rfl) :
    PE X (.Call (.Attribute o m apos) (e :: es) [] pos) (tMeth C m sp [] E ta t) := by
  constructor
  intro pins s σ H Q I h
  refine PySem.W.methodCall_KW (pl := pl) (thn (he.run pins s σ H _ I h) fun u s1 ⟨x, H1, I1, rx, a, dx, fs, ex, ea, l, q⟩ => ?_) ht
  cases ex
  cases (show u = Value.ref a from rx)
  apply getmeth_ok I1 ea c hm l
  refine PySem.W.callWith_K (first := [.ref a]) (h₀ := X.base) I.ok.mod.kin hm.kp (thn (ha.run pos pins s1 σ H1 _ I1 q) fun us s2 ⟨vs, H2, I2, r, q2⟩ => ⟨I2.kIn, ?_⟩) hst hpl
  simp only [List.append_nil] at q2
  exact run_fnR (us := .ref a :: us) (vs := .ref a :: vs) F hr hb hx I2 (.cons rfl r) q2
theorem pe_methR0 {pl : Sem Bool} (he : PE X o ta) (c : Cls X.K C) (hm : Meth X.K C m f) (F : FnR X.prog X.w X.K X.mg X.base n f fd ps sp) (hr : Rm n X.A) (hb : Binds X.K fd ps []) (hx : Passes (L2.CX X.prog X.w) X E)
    (ht : eval (.Call (.Attribute o m apos) [] [] pos) X.env = (do
      let ov ← eval o X.env
      standAt apos.atName
      let (f, first) ← holding [ov] (getMethod ov m pl)
      callWith pos f first (backTo pos (starEach [] X.env)) (backToKw pos (keywordEach [] X.env))) := by rfl) :
    PE X (.Call (.Attribute o m apos) [] [] pos) (tMeth C m sp [] E ta tNil) := by
  constructor
  intro pins s σ H Q I h
  refine PySem.W.methodCall_KW (pl := pl) (thn (he.run pins s σ H _ I h) fun u s1 ⟨x, H1, I1, rx, a, dx, fs, ex, ea, l, q⟩ => ?_) ht
  cases ex
  cases (show u = Value.ref a from rx)
  apply getmeth_ok I1 ea c hm l
  exact PySem.W.callWith_K0 (first := [.ref a]) I1.kIn hm.kp (run_fnR (us := [.ref a]) (vs := [.ref a]) F hr hb hx I1 (.cons rfl .nil) q)
/-- C() -/
theorem pe_makeR0 (M : Mk X.K C f) (F : FnR X.prog X.w X.K X.mg X.base n f fd ps sp) (hr : Rm (n + 1) X.A) (hg : Gl X x) (hm : X.mg x = some (.ref C)) (hb : Binds X.K fd ps []) (hx : Passes (L2.CX X.prog X.w) X E)
    (hdb : (x == ("__debug__" : Str)) = false := by decide) : PE X (.Call (.Name x p) [] [] pos) (tMake C sp [] E tNil) := by
  constructor
  intro pins s σ H Q I h
  apply wpAny_Call_Name_kw
  apply ld_glob I hg hm _ hdb
  refine PySem.W.callWith_K0 I.kIn M.kp ?_
  have hq := h (s.heap.objs.size + 1) s.heap.objs.size (I.hok.fresh (Nat.le_succ _)) (I.hok.fresh (Nat.le_refl _)) (Nat.ne_of_lt (Nat.lt_succ_self _))
  have I2 := Inv.made (C := C) I
  have hl : ([Value.ref (s.heap.objs.size + 1)] ++ []).length = ps.length := (F.len _ _ _ _ hq)
  have b := hb { s with heap := _, toks := _ } [Value.ref (s.heap.objs.size + 1)] I2.kIn hl
  refine wpAny_call (make_map (f := f) I.kIn M.makes M.init (beq_iff_eq.mp M.fn) (codeAny_mono (F.run _ X.stack _ _ ⟨[Value.ref (s.heap.objs.size + 1)], []⟩ [Value.ref (s.heap.objs.size + 1)] [V.ref (s.heap.objs.size + 1)] _ E (hr.make C [] [])
    (I2.env0.make C [] []) b (.cons rfl .nil) hq) fun res s2 q2 => ?_))
  match res, q2 with
  | .error e, q2 => exact hx pins σ _ _ e s2 I2 q2
  | .ok (.ret u), q2 =>
    obtain ⟨v, H', I3, rv, ev, q3⟩ := I2.after q2
    cases ev
    exact ⟨rv, V.ref (s.heap.objs.size + 1), H', I3, rfl, q3⟩
end

/-- THE RULE for a def of the text -/
theorem okR {P : Program} {w : World} {K : PySem.W.Frag} {mg : Str → Option Value} {base : Heap} {x qual : Str} {st : Stmt} {f : Addr} {fd : FuncData} {N ps : List Str} {n : Nat} {sp : Sp} (F : Fun K x qual st f fd) (S : FnScope N ps (defScope st)) (len : ∀ vs H Q E, sp vs H Q E → vs.length = ps.length)
    (hbody : ∀ (cdv : Value) (A : Around) (outer : List Env) (s : Shared) (H : Hp) (vs : List V) (Q : VK) (E : XK), Rm n (A.deeper (envOfC qual (defScope st) s.heap.objs.size f cdv)) → sp vs H Q E →
      ∃ t, PSs (cxOf (L2.CX P w) P w K mg base N qual (defScope st) f cdv A outer s H E) (defBody st) t ∧ t { nx := fun _ H' => Q .non H', rt := Q } (start N vs) H) : FnR P w K mg base (n + 1) f fd ps sp := by
  obtain ⟨oc, od, kV, doc, pm, an, cdv, ct, osl, rfl, lk, hcd⟩ := F.ex
  refine ⟨len, fun A outer s H args us vs Q E hr e0 hb r hsp => ?_⟩
  have hl := len _ _ _ _ hsp
  have KX : K.In s.heap := e0.mod.kin.keeps fun b o e => (e0.bs b o e).1
  have lim : s.heap.NoLimit := e0.mod.nolimit.keeps fun b o e => (e0.bs b o e).1
  have hkind : ∀ y ∈ ps.zip us, (defScope st).names.lookup y.1 = some .local ∨ ((defScope st).names.lookup y.1 = some .cell ∧ ((cellsFrom (s.heap.objs.size + 1) (defScope st).names []).lookup y.1).isSome = true) := by
    rintro ⟨z, v⟩ hy
    rcases S.par z (List.of_mem_zip hy).1 with q | q
    · exact .inl q
    · exact .inr ⟨q, PySem.W.cellsFrom_some _ _ _ (.inl q)⟩
  have hdp : A.depth < recursionLimit := by have := hr.dp; omega
  refine codeAny_call_function hdp (KX _ _ lk) rfl S.co S.gen rfl (PySem.W.codeRec_of KX hcd) (hb _ _ _ _ ?_)
  refine wpAny_newFunctionEnv_cells S.kind hkind fun env he s1 xx => ?_
  cases he
  refine ⟨lim.keeps xx.toInCall.keep, codeAny_func ?_⟩
  obtain ⟨t, ht, hq⟩ := hbody cdv A outer s H vs Q E (hr.deeper _) hsp
  have I : Inv (cxOf (L2.CX P w) P w K mg base N qual (defScope st) f cdv A outer s H E) [] (start N vs) H s1 := inv_start S hr.hd e0 hl r xx
  refine wpAny_mono (ht.run [] s1 (start N vs) H _ I hq) (fun fl s' hs => ?_) fun e s' hs => hs
  match fl, hs with
  | .ret u, hs =>
    obtain ⟨v, σ', H', J, rv, q⟩ := hs
    exact ⟨v, H', J.os, J.bare, J.base, J.hok, rv, q⟩
  | .next, hs =>
    obtain ⟨σ', H', J, q⟩ := hs
    exact ⟨V.non, H', J.os, J.bare, J.base, J.hok, rfl, q⟩
  | .brk, hs => exact hs.choose_spec.choose_spec.2.elim
  | .cont, hs => exact hs.choose_spec.choose_spec.2.elim
end Dq

/- Part 2: deep data, slots, what represents what, steps between states. -/
namespace Dq
open PySem PySem.Spec PyProof.Rows L2

inductive D where
  | non | bl (b : Bool) | int (i : Int) | str (x : Str)
  | tup (ds : List D) | lst (ds : List D) | dct (ks : List Key) (ds : List D) | scr (ns : List Int)
  deriving Inhabited

/-- a list of the written part -/
def Wr (K : PySem.W.Frag) (a : Addr) (xs : List V) : Prop :=
  ∃ (o : Obj) (its : Array Value) (n : Nat), K.lookup a = some o ∧ o.cls = .type "list" ∧ o.dict = none ∧ o.data = .seq its n ∧ its.size ≤ sizeLine ∧ Vals xs its.toList

mutual
def At (K : PySem.W.Frag) (M : Addr → Prop) (H : Hp) : D → V → Prop
  | .non, v => v = .non
  | .bl b, v => v = .bl b
  | .int i, v => v = .int i
  | .str x, v => v = .str x
  | .tup ds, v => ∃ a vs, v = .ref a ∧ ¬ M a ∧ H a = some (.tup vs) ∧ Ats K M H ds vs
  | .lst ds, v => ∃ a vs, v = .ref a ∧ ¬ M a ∧ H a = some (.lst vs) ∧ Ats K M H ds vs
  | .dct ks ds, v => ∃ a vs, v = .ref a ∧ ¬ M a ∧ H a = some (.dK (ks.zip vs)) ∧ ks.length = vs.length ∧ Ats K M H ds vs
  | .scr ns, v => ∃ a, v = .ref a ∧ ((¬ M a ∧ ∃ o, H a = some (.frz o (.lst (ns.map V.int)))) ∨ Wr K a (ns.map V.int))
def Ats (K : PySem.W.Frag) (M : Addr → Prop) (H : Hp) : List D → List V → Prop
  | [], vs => vs = []
  | d :: r, vs => ∃ v t, vs = v :: t ∧ At K M H d v ∧ Ats K M H r t
end

section
variable {K : PySem.W.Frag} {M M' : Addr → Prop} {H H' : Hp}
mutual
theorem At.mono (he : ∀ a o, H a = some o → ¬ M a → H' a = some o) (hm : ∀ a o, H a = some o → M' a → M a) : ∀ {d : D} {v : V}, At K M H d v → At K M' H' d v
  | .non, _, h => by simpa only [At] using h
  | .bl _, _, h => by simpa only [At] using h
  | .int _, _, h => by simpa only [At] using h
  | .str _, _, h => by simpa only [At] using h
  | .tup ds, v, h => by
    rw [At] at h ⊢
    obtain ⟨a, vs, e, n, q, r⟩ := h
    exact ⟨a, vs, e, fun z => n (hm a _ q z), he a _ q n, Ats.mono he hm r⟩
  | .lst ds, v, h => by
    rw [At] at h ⊢
    obtain ⟨a, vs, e, n, q, r⟩ := h
    exact ⟨a, vs, e, fun z => n (hm a _ q z), he a _ q n, Ats.mono he hm r⟩
  | .dct ks ds, v, h => by
    rw [At] at h ⊢
    obtain ⟨a, vs, e, n, q, l, r⟩ := h
    exact ⟨a, vs, e, fun z => n (hm a _ q z), he a _ q n, l, Ats.mono he hm r⟩
  | .scr ns, v, h => by
    rw [At] at h ⊢
    obtain ⟨a, e, ⟨n, o, q⟩ | q⟩ := h
    · exact ⟨a, e, .inl ⟨fun z => n (hm a _ q z), o, he a _ q n⟩⟩
    · exact ⟨a, e, .inr q⟩
theorem Ats.mono (he : ∀ a o, H a = some o → ¬ M a → H' a = some o) (hm : ∀ a o, H a = some o → M' a → M a) : ∀ {ds : List D} {vs : List V}, Ats K M H ds vs → Ats K M' H' ds vs
  | [], _, h => by simpa only [Ats] using h
  | d :: r, vs, h => by
    rw [Ats] at h ⊢
    obtain ⟨v, t, e, h1, h2⟩ := h
    exact ⟨v, t, e, At.mono he hm h1, Ats.mono he hm h2⟩
end
theorem Ats.len : ∀ {ds : List D} {vs : List V}, Ats K M H ds vs → vs.length = ds.length
  | [], _, h => by rw [Ats] at h; rw [h]; rfl
  | d :: r, vs, h => by
    rw [Ats] at h
    obtain ⟨v, t, e, _, h2⟩ := h
    rw [e, List.length_cons, List.length_cons, Ats.len h2]
theorem Ats.get : ∀ {ds : List D} {vs : List V} {i : Nat} {d : D}, Ats K M H ds vs → ds[i]? = some d → ∃ v, vs[i]? = some v ∧ At K M H d v
  | [], _, _, _, _, e => by simp at e
  | x :: r, vs, i, d, h, e => by
    rw [Ats] at h
    obtain ⟨v, t, rfl, h1, h2⟩ := h
    cases i with
    | zero => simp at e; cases e; exact ⟨v, rfl, h1⟩
    | succ i =>
      obtain ⟨u, q, z⟩ := Ats.get (i := i) h2 (by simpa using e)
      exact ⟨u, by simpa using q, z⟩
theorem Ats.append : ∀ {ds es : List D} {vs us : List V}, Ats K M H ds vs → Ats K M H es us → Ats K M H (ds ++ es) (vs ++ us)
  | [], _, _, _, h, g => by rw [Ats] at h; rw [h]; exact g
  | d :: r, _, _, _, h, g => by
    rw [Ats] at h
    obtain ⟨v, t, rfl, h1, h2⟩ := h
    rw [List.cons_append, List.cons_append, Ats]
    exact ⟨v, _, rfl, h1, Ats.append h2 g⟩
theorem Ats.drop : ∀ {ds : List D} {vs : List V} (n : Nat), Ats K M H ds vs → Ats K M H (ds.drop n) (vs.drop n)
  | _, _, 0, h => h
  | [], _, n + 1, h => by rw [Ats] at h; rw [h]; simp [Ats]
  | d :: r, _, n + 1, h => by
    rw [Ats] at h
    obtain ⟨v, t, rfl, h1, h2⟩ := h
    exact Ats.drop n h2
theorem Ats.take : ∀ {ds : List D} {vs : List V} (n : Nat), Ats K M H ds vs → Ats K M H (ds.take n) (vs.take n)
  | _, _, 0, h => by simp [Ats]
  | [], _, n + 1, h => by rw [Ats] at h; rw [h]; simp [Ats]
  | d :: r, _, n + 1, h => by
    rw [Ats] at h
    obtain ⟨v, t, rfl, h1, h2⟩ := h
    rw [List.take_succ_cons, List.take_succ_cons, Ats]
    exact ⟨v, _, rfl, h1, Ats.take n h2⟩
end
end Dq

/- Part 3: slots, states, steps; what it is that a reading of HandS does what a reading on data says. -/
namespace Dq
open PySem PySem.Spec PyProof.Rows L2

inductive Sl where
  | val (d : D) | own (ds : List D) | dic (ks : List Key) (ds : List D) | obj (C : Addr) (fs : List (Str × Int)) | exc (a : Addr)
  deriving Inhabited
def Sl.mut : Sl → Bool
  | .val _ => false
  | .exc _ => false
  | _ => true
abbrev Dst := List (Option Sl)
abbrev St := L2.St
def IsMut (δ : Dst) (i : Nat) : Prop := ∃ s, δ[i]? = some (some s) ∧ s.mut = true
def Mu (σ : St) (δ : Dst) (a : Addr) : Prop := ∃ i, IsMut δ i ∧ σ[i]? = some (some (.ref a))
/-- what may change, and what is held apart -/
def Mm (σ : St) (δ : Dst) (Mx : Addr → Prop) (a : Addr) : Prop := Mu σ δ a ∨ Mx a
def fV (fs : List (Str × Int)) : List (Str × V) := fs.map fun p => (p.1, .int p.2)
def SlAt (K : PySem.W.Frag) (M : Addr → Prop) (H : Hp) : Sl → V → Prop
  | .val d, v => At K M H d v
  | .own ds, v => ∃ a vs, v = .ref a ∧ H a = some (.lst vs) ∧ Ats K M H ds vs
  | .dic ks ds, v => ∃ a vs, v = .ref a ∧ H a = some (.dK (ks.zip vs)) ∧ ks.length = vs.length ∧ Ats K M H ds vs
  | .obj C fs, v => ∃ a dx, v = .ref a ∧ H a = some (.ins C dx (fV fs))
  | .exc a, v => v = .ref a
theorem SlAt.mut {K : PySem.W.Frag} {M : Addr → Prop} {H : Hp} {s : Sl} {v : V} (h : SlAt K M H s v) (m : s.mut = true) : ∃ a o, v = .ref a ∧ H a = some o := by
  cases s with
  | val d => cases m
  | own ds => obtain ⟨a, vs, e, q, _⟩ := h; exact ⟨a, _, e, q⟩
  | dic ks ds => obtain ⟨a, vs, e, q, _⟩ := h; exact ⟨a, _, e, q⟩
  | obj C fs => obtain ⟨a, dx, e, q⟩ := h; exact ⟨a, _, e, q⟩
  | exc a => cases m

/-- the slots hold what the data say -/
structure Rp (K : PySem.W.Frag) (Mx : Addr → Prop) (σ : St) (δ : Dst) (H : Hp) : Prop where
  get : ∀ (i : Nat) (s : Sl), δ[i]? = some (some s) → ∃ v, σ[i]? = some (some v) ∧ SlAt K (Mm σ δ Mx) H s v
  sep : ∀ (i j : Nat) (a : Addr), IsMut δ i → IsMut δ j → σ[i]? = some (some (.ref a)) → σ[j]? = some (some (.ref a)) → i = j
  ex : ∀ a, Mx a → ∃ o, H a = some o
  dis : ∀ a, Mx a → ¬ Mu σ δ a
  len : δ.length = σ.length
/-- a step -/
structure Tr (σ : St) (δ : Dst) (H : Hp) (σ' : St) (δ' : Dst) (H' : Hp) : Prop where
  ext : ∀ a o, H a = some o → ¬ Mu σ δ a → H' a = some o
  dom : ∀ a o, H a = some o → ∃ o', H' a = some o'
  fr : ∀ a, Mu σ' δ' a → Mu σ δ a ∨ H a = none
  par : ∀ (i : Nat) (v : V), i < 8 → IsMut δ i → σ[i]? = some (some v) → σ'[i]? = some (some v) ∧ IsMut δ' i
section
variable {K : PySem.W.Frag} {Mx : Addr → Prop} {σ σ' σ1 : St} {δ δ' δ1 : Dst} {H H' H1 : Hp} {E : Addr → Prop} {xw : XK}
theorem Rp.mdom (r : Rp K Mx σ δ H) {a : Addr} (m : Mm σ δ Mx a) : ∃ o, H a = some o := by
  rcases m with ⟨i, ⟨s, e, hm⟩, q⟩ | m
  · obtain ⟨v, e2, z⟩ := r.get i s e
    rw [q] at e2; cases e2
    obtain ⟨b, o, e3, e4⟩ := z.mut hm
    cases e3
    exact ⟨o, e4⟩
  · exact r.ex a m
theorem Rp.fresh (r : Rp K Mx σ δ H) {a : Addr} (h : H a = none) : ¬ Mm σ δ Mx a := fun m => by
  obtain ⟨o, e⟩ := r.mdom m
  rw [h] at e; cases e
theorem Tr.refl : Tr σ δ H σ δ H := ⟨fun _ _ h _ => h, fun _ o h => ⟨o, h⟩, fun _ h => .inl h, fun _ _ _ m h => ⟨h, m⟩⟩
theorem Tr.trans (a : Tr σ δ H σ1 δ1 H1) (b : Tr σ1 δ1 H1 σ' δ' H') : Tr σ δ H σ' δ' H' where
  ext := fun c o h n => b.ext c o (a.ext c o h n) fun m => (a.fr c m).elim n fun z => by rw [h] at z; cases z
  dom := fun c o h => by
    obtain ⟨o1, h1⟩ := a.dom c o h
    exact b.dom c o1 h1
  fr := fun c m => (b.fr c m).elim (a.fr c) fun z => .inr (by
    cases q : H c with
    | none => rfl
    | some o =>
      obtain ⟨o1, h1⟩ := a.dom c o q
      rw [z] at h1; cases h1)
  par := fun i v l m h => by
    obtain ⟨h1, m1⟩ := a.par i v l m h
    exact b.par i v l m1 h1
theorem At.tr {d : D} {v : V} (t : Tr σ δ H σ' δ' H') (h : At K (Mm σ δ Mx) H d v) : At K (Mm σ' δ' Mx) H' d v :=
  h.mono (fun a o e n => t.ext a o e fun m => n (.inl m)) fun a o e m => m.elim (fun m => (t.fr a m).elim .inl fun z => by rw [e] at z; cases z) .inr
theorem Ats.tr {d : List D} {v : List V} (t : Tr σ δ H σ' δ' H') (h : Ats K (Mm σ δ Mx) H d v) : Ats K (Mm σ' δ' Mx) H' d v :=
  h.mono (fun a o e n => t.ext a o e fun m => n (.inl m)) fun a o e m => m.elim (fun m => (t.fr a m).elim .inl fun z => by rw [e] at z; cases z) .inr
/-- what is wanted of an exception -/
def XL (xw : XK) (σ : St) (δ : Dst) (H : Hp) (E : Addr → Prop) : Prop := ∀ c H', (∀ a o, H a = some o → ¬ Mu σ δ a → H' a = some o) → E c → xw (.ref c) none H'
theorem XL.tr (t : Tr σ δ H σ' δ' H') (x : XL xw σ δ H E) : XL xw σ' δ' H' E := fun c H2 h e => x c H2 (fun a o q n => h a o (t.ext a o q n) fun m => (t.fr a m).elim n fun z => by rw [q] at z; cases z) e
theorem XL.no : XL xw σ δ H fun _ => False := fun _ _ _ h => h.elim
theorem Mu.val {i : Nat} {d : D} {x : Option V} (h : ¬ IsMut δ i) (a : Addr) : Mu (σ.set i x) (δ.set i (some (.val d))) a ↔ Mu σ δ a := by
  constructor
  · rintro ⟨j, ⟨s, e, m⟩, q⟩
    by_cases hj : i = j
    · subst hj
      by_cases hl : i < δ.length
      · rw [List.getElem?_set_self hl] at e
        cases e; cases m
      · rw [List.getElem?_eq_none (by simpa using hl)] at e; cases e
    · rw [List.getElem?_set_ne hj] at e q
      exact ⟨j, ⟨s, e, m⟩, q⟩
  · rintro ⟨j, ⟨s, e, m⟩, q⟩
    have hj : i ≠ j := fun z => h (z ▸ ⟨s, e, m⟩)
    exact ⟨j, ⟨s, by rw [List.getElem?_set_ne hj]; exact e, m⟩, by rw [List.getElem?_set_ne hj]; exact q⟩
theorem IsMut.val {i j : Nat} {d : D} (h : ¬ IsMut δ i) : IsMut (δ.set i (some (.val d))) j ↔ IsMut δ j := by
  constructor
  · rintro ⟨s, e, m⟩
    by_cases hj : i = j
    · subst hj
      by_cases hl : i < δ.length
      · rw [List.getElem?_set_self hl] at e
        cases e; cases m
      · rw [List.getElem?_eq_none (by simpa using hl)] at e; cases e
    · rw [List.getElem?_set_ne hj] at e
      exact ⟨s, e, m⟩
  · rintro ⟨s, e, m⟩
    have hj : i ≠ j := fun z => h (z ▸ ⟨s, e, m⟩)
    exact ⟨s, by rw [List.getElem?_set_ne hj]; exact e, m⟩
theorem SlAt.mono {M M' : Addr → Prop} {s : Sl} {v : V} (he : ∀ a o, H a = some o → ¬ M a → H' a = some o) (hm : ∀ a o, H a = some o → M' a → M a) (hk : s.mut = true → ∀ a o, v = .ref a → H a = some o → H' a = some o) (h : SlAt K M H s v) : SlAt K M' H' s v := by
  cases s with
  | val d => exact At.mono he hm h
  | own ds => obtain ⟨a, vs, e, q, r⟩ := h; exact ⟨a, vs, e, hk rfl a _ e q, r.mono he hm⟩
  | dic ks ds => obtain ⟨a, vs, e, q, l, r⟩ := h; exact ⟨a, vs, e, hk rfl a _ e q, l, r.mono he hm⟩
  | obj C fs => obtain ⟨a, dx, e, q⟩ := h; exact ⟨a, dx, e, hk rfl a _ e q⟩
  | exc a => exact h
/-- a value is stored -/
theorem Rp.val {i : Nat} {d : D} {v : V} (r : Rp K Mx σ δ H) (h : ¬ IsMut δ i) (hd : At K (Mm σ δ Mx) H d v) : Rp K Mx (σ.set i (some v)) (δ.set i (some (.val d))) H := by
  have hM : ∀ a, Mm (σ.set i (some v)) (δ.set i (some (.val d))) Mx a → Mm σ δ Mx a := fun a m => m.elim (fun m => .inl ((Mu.val h a).mp m)) .inr
  refine ⟨fun j s e => ?_, fun j k a m1 m2 q1 q2 => ?_, r.ex, fun a m m2 => r.dis a m ((Mu.val h a).mp m2), by simp [r.len]⟩
  · by_cases hj : i = j
    · subst hj
      have hl : i < δ.length := by
        have := (List.getElem?_eq_some_iff.mp e).1
        simpa using this
      rw [List.getElem?_set_self hl] at e
      cases e
      exact ⟨v, List.getElem?_set_self (by rw [← r.len]; exact hl), hd.mono (fun _ _ z _ => z) fun a o _ m => hM a m⟩
    · rw [List.getElem?_set_ne hj] at e
      obtain ⟨u, e2, z⟩ := r.get j s e
      exact ⟨u, by rw [List.getElem?_set_ne hj]; exact e2, z.mono (fun _ _ z _ => z) (fun a o _ m => hM a m) fun _ _ _ _ q => q⟩
  · have n1 : i ≠ j := fun z => h (by subst z; exact (IsMut.val h).mp m1)
    have n2 : i ≠ k := fun z => h (by subst z; exact (IsMut.val h).mp m2)
    rw [List.getElem?_set_ne n1] at q1
    rw [List.getElem?_set_ne n2] at q2
    exact r.sep j k a ((IsMut.val h).mp m1) ((IsMut.val h).mp m2) q1 q2
theorem Tr.val {i : Nat} {d : D} {v : V} (h : ¬ IsMut δ i) : Tr σ δ H (σ.set i (some v)) (δ.set i (some (.val d))) H :=
  ⟨fun _ _ e _ => e, fun _ o e => ⟨o, e⟩, fun a m => .inl ((Mu.val h a).mp m), fun j u _ m e => by
    have n : i ≠ j := fun z => h (z ▸ m)
    exact ⟨by rw [List.getElem?_set_ne n]; exact e, (IsMut.val h).mpr m⟩⟩
/-- the heap grows by an object that nothing speaks of -/
theorem Tr.new {a : Addr} {o : HO} (h : H a = none) : Tr σ δ H σ δ (upd H a o) :=
  ⟨fun b u e _ => by rw [upd_ne (ne_of_none e h)]; exact e, fun b u e => ⟨u, by rw [upd_ne (ne_of_none e h)]; exact e⟩, fun _ m => .inl m, fun _ _ _ m e => ⟨e, m⟩⟩
/-- the same slots over another heap -/
theorem Rp.heap (r : Rp K Mx σ δ H) (k : ∀ a o, H a = some o → H' a = some o) : Rp K Mx σ δ H' :=
  ⟨fun i s e => by
    obtain ⟨v, e2, z⟩ := r.get i s e
    exact ⟨v, e2, z.mono (fun a o q _ => k a o q) (fun _ _ _ m => m) fun _ a o _ q => k a o q⟩, r.sep, fun a m => by
    obtain ⟨o, q⟩ := r.ex a m
    exact ⟨o, k a o q⟩, r.dis, r.len⟩
theorem Rp.new {a : Addr} {o : HO} (r : Rp K Mx σ δ H) (h : H a = none) : Rp K Mx σ δ (upd H a o) := r.heap fun b u e => by rw [upd_ne (ne_of_none e h)]; exact e
theorem At.new {a : Addr} {o : HO} {M : Addr → Prop} {d : D} {v : V} (z : At K M H d v) (h : H a = none) : At K M (upd H a o) d v := z.mono (fun b u e _ => by rw [upd_ne (ne_of_none e h)]; exact e) fun _ _ _ m => m
theorem Ats.new {a : Addr} {o : HO} {M : Addr → Prop} {d : List D} {v : List V} (z : Ats K M H d v) (h : H a = none) : Ats K M (upd H a o) d v := z.mono (fun b u e _ => by rw [upd_ne (ne_of_none e h)]; exact e) fun _ _ _ m => m
/-- one more address is held apart: it was free -/
theorem Rp.more {a : Addr} {o : HO} (r : Rp K Mx σ δ H) (h : H a = none) : Rp K (fun b => Mx b ∨ b = a) σ δ (upd H a o) := by
  refine ⟨fun i s e => ?_, r.sep, fun b m => ?_, fun b m m2 => ?_, r.len⟩
  · obtain ⟨v, e2, z⟩ := r.get i s e
    refine ⟨v, e2, z.mono (fun b u q _ => by rw [upd_ne (ne_of_none q h)]; exact q) (fun b u q m => ?_) fun _ b u _ q => by rw [upd_ne (ne_of_none q h)]; exact q⟩
    rcases m with m | m | m
    · exact .inl m
    · exact .inr m
    · rw [m, h] at q; cases q
  · rcases m with m | m
    · obtain ⟨u, q⟩ := r.ex b m
      exact ⟨u, by rw [upd_ne (ne_of_none q h)]; exact q⟩
    · rw [m]; exact ⟨o, upd_same⟩
  · rcases m with m | m
    · exact r.dis b m m2
    · rw [m] at m2
      exact r.fresh h (.inl m2)
theorem Rp.less {Mx' : Addr → Prop} (r : Rp K Mx σ δ H) (h : ∀ a, Mx' a → Mx a) : Rp K Mx' σ δ H :=
  ⟨fun i s e => by
    obtain ⟨v, e2, z⟩ := r.get i s e
    exact ⟨v, e2, z.mono (fun _ _ q _ => q) (fun a _ _ m => m.elim .inl fun m => .inr (h a m)) fun _ _ _ _ q => q⟩, r.sep, fun a m => r.ex a (h a m), fun a m => r.dis a (h a m), r.len⟩
end

/-! ### readings on data -/
abbrev DK := D → Dst → Prop
abbrev DE := (Addr → Prop) → Dst → DK → Prop
abbrev DT := (Addr → Prop) → Dst → (Bool → Dst → Prop) → Prop
/-- an argument: a value, or the object that stands in a slot -/
inductive Ar where
  | v (d : D) | s (i : Nat)
abbrev DA := (Addr → Prop) → Dst → (List Ar → Dst → Prop) → Prop
structure DEnds where
  nx : Dst → Prop
  rt : DK
  bk : Dst → Prop := fun _ => False
  ct : Dst → Prop := fun _ => False
abbrev DS := (Addr → Prop) → DEnds → Dst → Prop

def SE (K : PySem.W.Frag) (xw : XK) (te : TE) (t : DE) : Prop := ∀ (Mx : Addr → Prop) (σ : St) (δ : Dst) (H : Hp) (E : Addr → Prop) (Q : DK) (k : VK), Rp K Mx σ δ H → XL xw σ δ H E → t E δ Q →
  (∀ v d δ' H', Rp K Mx σ δ' H' → Tr σ δ H σ δ' H' → At K (Mm σ δ' Mx) H' d v → Q d δ' → k v H') → te σ H k
def ST (K : PySem.W.Frag) (xw : XK) (tt : TT) (t : DT) : Prop := ∀ (Mx : Addr → Prop) (σ : St) (δ : Dst) (H : Hp) (E : Addr → Prop) (Q : Bool → Dst → Prop) (k : Bool → Hp → Prop), Rp K Mx σ δ H → XL xw σ δ H E → t E δ Q →
  (∀ b δ' H', Rp K Mx σ δ' H' → Tr σ δ H σ δ' H' → Q b δ' → k b H') → tt σ H k
def ArAt (K : PySem.W.Frag) (M : Addr → Prop) (σ : St) (H : Hp) : Ar → V → Prop
  | .v d, v => At K M H d v
  | .s i, v => σ[i]? = some (some v)
def ArAts (K : PySem.W.Frag) (M : Addr → Prop) (σ : St) (H : Hp) : List Ar → List V → Prop
  | [], vs => vs = []
  | a :: r, vs => ∃ v t, vs = v :: t ∧ ArAt K M σ H a v ∧ ArAts K M σ H r t
def SA (K : PySem.W.Frag) (xw : XK) (ta : TA) (t : DA) : Prop := ∀ (Mx : Addr → Prop) (σ : St) (δ : Dst) (H : Hp) (E : Addr → Prop) (Q : List Ar → Dst → Prop) (k : List V → Hp → Prop), Rp K Mx σ δ H → XL xw σ δ H E → t E δ Q →
  (∀ vs as δ' H', Rp K Mx σ δ' H' → Tr σ δ H σ δ' H' → ArAts K (Mm σ δ' Mx) σ H' as vs → Q as δ' → k vs H') → ta σ H k
/-- the places of the parameters that may be changed -/
def Pm (np : Nat) (σ : St) (δ : Dst) (P : Addr → Prop) : Prop := np ≤ 8 ∧ ∀ a, P a → ∃ j, j < np ∧ IsMut δ j ∧ σ[j]? = some (some (.ref a))
structure Lk (K : PySem.W.Frag) (Mx : Addr → Prop) (σ : St) (δ : Dst) (H : Hp) (P : Addr → Prop) (De : DEnds) (Dn : Ends) : Prop where
  nx : ∀ σ' δ' H', Rp K Mx σ' δ' H' → Tr σ δ H σ' δ' H' → De.nx δ' → Dn.nx σ' H'
  bk : ∀ σ' δ' H', Rp K Mx σ' δ' H' → Tr σ δ H σ' δ' H' → De.bk δ' → Dn.bk σ' H'
  ct : ∀ σ' δ' H', Rp K Mx σ' δ' H' → Tr σ δ H σ' δ' H' → De.ct δ' → Dn.ct σ' H'
  rt : ∀ v d σ' δ' H', Rp K Mx σ' δ' H' → Tr σ δ H σ' δ' H' → At K (fun a => P a ∨ Mx a) H' d v → De.rt d δ' → Dn.rt v H'
def SS (K : PySem.W.Frag) (xw : XK) (np : Nat) (ts : TS) (t : DS) : Prop := ∀ (Mx : Addr → Prop) (σ : St) (δ : Dst) (H : Hp) (E : Addr → Prop) (De : DEnds) (Dn : Ends) (P : Addr → Prop), Rp K Mx σ δ H → Pm np σ δ P → XL xw σ δ H E → t E De δ → Lk K Mx σ δ H P De Dn → ts Dn σ H
section
variable {K : PySem.W.Frag} {Mx : Addr → Prop} {σ σ' σ1 : St} {δ δ' δ1 : Dst} {H H' H1 : Hp} {E P : Addr → Prop} {xw : XK} {De : DEnds} {Dn : Ends} {np : Nat}
theorem Lk.tr (t : Tr σ δ H σ' δ' H') (l : Lk K Mx σ δ H P De Dn) : Lk K Mx σ' δ' H' P De Dn :=
  ⟨fun a b c r u => l.nx a b c r (t.trans u), fun a b c r u => l.bk a b c r (t.trans u), fun a b c r u => l.ct a b c r (t.trans u), fun v d a b c r u => l.rt v d a b c r (t.trans u)⟩
theorem Pm.tr (t : Tr σ δ H σ' δ' H') (p : Pm np σ δ P) : Pm np σ' δ' P := ⟨p.1, fun a h => by
  obtain ⟨j, l, m, e⟩ := p.2 a h
  obtain ⟨e', m'⟩ := t.par j _ (Nat.lt_of_lt_of_le l p.1) m e
  exact ⟨j, l, m', e'⟩⟩
theorem Pm.mu (p : Pm np σ δ P) {a : Addr} (h : P a) : Mu σ δ a := by
  obtain ⟨j, _, m, e⟩ := p.2 a h
  exact ⟨j, m, e⟩
theorem At.par {d : D} {v : V} (p : Pm np σ δ P) (h : At K (Mm σ δ Mx) H d v) : At K (fun a => P a ∨ Mx a) H d v := h.mono (fun _ _ e _ => e) fun a _ _ m => m.elim (fun m => .inl (p.mu m)) .inr
theorem ArAts.tr (t : Tr σ δ H σ δ' H') : ∀ {as : List Ar} {vs : List V}, ArAts K (Mm σ δ Mx) σ H as vs → ArAts K (Mm σ δ' Mx) σ H' as vs
  | [], _, h => h
  | .v d :: r, _, ⟨v, u, e, h1, h2⟩ => ⟨v, u, e, At.tr t h1, ArAts.tr t h2⟩
  | .s i :: r, _, ⟨v, u, e, h1, h2⟩ => ⟨v, u, e, h1, ArAts.tr t h2⟩
theorem ArAts.len : ∀ {as : List Ar} {vs : List V} {M : Addr → Prop}, ArAts K M σ H as vs → vs.length = as.length
  | [], _, _, h => by cases (show _ = _ from h); rfl
  | a :: r, _, _, ⟨v, u, e, h1, h2⟩ => by rw [e, List.length_cons, List.length_cons, ArAts.len h2]
end
end Dq

/- Part 4: expressions, tests, arguments. -/
namespace Dq
open PySem PySem.Spec PyProof.Rows L2

/-! ### data as the library's data -/
mutual
def D.toPy : D → PyData
  | .non => .none
  | .bl b => .bool b
  | .int i => .int i
  | .str x => .str x
  | .tup ds => .tuple (D.toPys ds)
  | .lst ds => .list (D.toPys ds)
  | .dct _ _ => .none
  | .scr ns => .list (ns.map PyData.int)
def D.toPys : List D → List PyData
  | [] => []
  | d :: r => d.toPy :: D.toPys r
end
def okS (x : Str) : Bool := x.cps.all fun c => decide (c < 0x110000)
mutual
/-- no dict, no list of numbers of the script's kind, at most n deep -/
def D.shp : Nat → D → Bool
  | _, .non => true
  | _, .bl _ => true
  | _, .int _ => true
  | _, .str x => okS x
  | 0, .tup _ => false
  | n + 1, .tup ds => D.shps n ds
  | 0, .lst _ => false
  | n + 1, .lst ds => D.shps n ds
  | _, .dct _ _ => false
  | _, .scr _ => false
def D.shps : Nat → List D → Bool
  | _, [] => true
  | n, d :: r => d.shp n && D.shps n r
end
/-- as Python's == tells them apart -/
def D.eq (x y : D) : Bool := PyData.eqv x.toPy y.toPy
def D.flat : D → Bool
  | .non => true | .bl _ => true | .int _ => true | .str _ => true
  | _ => false
section
variable {K : PySem.W.Frag} {M : Addr → Prop} {H : Hp}
mutual
theorem dp_of : ∀ {n : Nat} {d : D} {v : V}, D.shp n d = true → At K M H d v → Dp K H v d.toPy
  | n, .non, v, _, h => by rw [At] at h; rw [h]; exact .non
  | n, .bl b, v, _, h => by rw [At] at h; rw [h]; exact .bl b
  | n, .int b, v, _, h => by rw [At] at h; rw [h]; exact .int b
  | n, .str b, v, _, h => by rw [At] at h; rw [h]; exact .str b
  | 0, .tup ds, v, s, h => by rw [D.shp] at s; cases s
  | n + 1, .tup ds, v, s, h => by
    rw [D.shp] at s
    rw [At] at h
    obtain ⟨a, vs, e, _, q, r⟩ := h
    rw [e, D.toPy]
    exact .tup (SqT.of q) (dps_of s r)
  | 0, .lst ds, v, s, h => by rw [D.shp] at s; cases s
  | n + 1, .lst ds, v, s, h => by
    rw [D.shp] at s
    rw [At] at h
    obtain ⟨a, vs, e, _, q, r⟩ := h
    rw [e, D.toPy]
    exact .lst (SqL.of q) (dps_of s r)
  | n, .dct ks ds, v, s, h => by cases n <;> (rw [D.shp] at s; cases s)
  | n, .scr ns, v, s, h => by cases n <;> (rw [D.shp] at s; cases s)
theorem dps_of : ∀ {n : Nat} {ds : List D} {vs : List V}, D.shps n ds = true → Ats K M H ds vs → DpAll K H vs (D.toPys ds)
  | n, [], vs, _, h => by rw [Ats] at h; rw [h]; exact .nil
  | n, d :: r, vs, s, h => by
    rw [D.shps, Bool.and_eq_true] at s
    rw [Ats] at h
    obtain ⟨v, t, e, h1, h2⟩ := h
    rw [e, D.toPys]
    exact .cons (dp_of s.1 h1) (dps_of s.2 h2)
end
end

theorem toPys_len : ∀ ds : List D, (D.toPys ds).length = ds.length
  | [] => rfl
  | d :: r => by rw [D.toPys, List.length_cons, List.length_cons, toPys_len r]
theorem toPys_any (p : PyData → Bool) : ∀ ds : List D, (D.toPys ds).any p = ds.any fun d => p d.toPy
  | [] => rfl
  | d :: r => by rw [D.toPys, List.any_cons, List.any_cons, toPys_any p r]
mutual
theorem lay_of : ∀ {n : Nat} {d : D}, D.shp n d = true → d.toPy.canLay0 = true ∧ d.toPy.depth ≤ n
  | n, .non, _ => by simp [D.toPy, PyData.canLay0, PyData.depth]
  | n, .bl b, _ => by simp [D.toPy, PyData.canLay0, PyData.depth]
  | n, .int b, _ => by simp [D.toPy, PyData.canLay0, PyData.depth]
  | n, .str b, s => by
    have s' : okS b = true := by cases n <;> simpa [D.shp] using s
    simp only [D.toPy, PyData.canLay0, PyData.depth]
    exact ⟨s', Nat.zero_le _⟩
  | 0, .tup ds, s => by rw [D.shp] at s; cases s
  | n + 1, .tup ds, s => by
    rw [D.shp] at s
    have q := lays_of s
    simp only [D.toPy, PyData.canLay0, PyData.depth]
    exact ⟨q.1, Nat.succ_le_succ q.2⟩
  | 0, .lst ds, s => by rw [D.shp] at s; cases s
  | n + 1, .lst ds, s => by
    rw [D.shp] at s
    have q := lays_of s
    simp only [D.toPy, PyData.canLay0, PyData.depth]
    exact ⟨q.1, Nat.succ_le_succ q.2⟩
  | n, .dct ks ds, s => by cases n <;> (rw [D.shp] at s; cases s)
  | n, .scr ns, s => by cases n <;> (rw [D.shp] at s; cases s)
theorem lays_of : ∀ {n : Nat} {ds : List D}, D.shps n ds = true → PyData.canLayAll0 (D.toPys ds) = true ∧ PyData.depthAll (D.toPys ds) ≤ n
  | n, [], _ => by simp [D.toPys, PyData.canLayAll0, PyData.depthAll]
  | n, d :: r, s => by
    rw [D.shps, Bool.and_eq_true] at s
    have a := lay_of s.1
    have b := lays_of s.2
    simp only [D.toPys, PyData.canLayAll0, PyData.depthAll, a.1, b.1]
    exact ⟨rfl, Nat.max_le.mpr ⟨a.2, b.2⟩⟩
end
theorem shaped_of {n : Nat} {d : D} (h : D.shp n d = true) (hn : n ≤ 64) : SeqAt.shaped d.toPy = true := by
  have q := lay_of h
  unfold SeqAt.shaped
  rw [q.1, decide_eq_true (Nat.le_trans q.2 hn)]
  rfl

/-! ### operations on data -/
def onSome {α : Type} : Option α → (α → Prop) → Prop
  | some x, k => k x
  | none, _ => False
abbrev F2 := D → D → (D → Prop) → Prop
def fAdd : F2
  | .int i, .int j, k => k (.int (i + j))
  | .str a, .str b, k => a.length + b.length ≤ sizeLine ∧ k (.str (a ++ b))
  | .lst a, .lst b, k => a.length + b.length ≤ sizeLine ∧ k (.lst (a ++ b))
  | .tup a, .tup b, k => a ≠ [] ∧ a.length + b.length ≤ sizeLine ∧ k (.tup (a ++ b))
  | _, _, _ => False
def fI (C : Int → Int → Prop) (g : Int → Int → D) : F2
  | .int i, .int j, k => C i j ∧ k (g i j)
  | _, _, _ => False
def fI0 (g : Int → Int → D) : F2
  | .int i, .int j, k => k (g i j)
  | _, _, _ => False
def scalD : D → D → Bool
  | .int _, .int _ => true | .bl _, .bl _ => true | .str _, .str _ => true | .int _, .str _ => true | .str _, .int _ => true | .bl _, .str _ => true | .str _, .bl _ => true
  | .non, .non => true | .non, .int _ => true | .int _, .non => true | .non, .str _ => true | .str _, .non => true | .non, .bl _ => true | .bl _, .non => true
  | _, _ => false
def okEq (x y : D) : Bool := scalD x y || (D.shp 64 x && D.shp 64 y)
def fEq : F2 := fun x y k => okEq x y = true ∧ k (.bl (D.eq x y))
def fNe : F2 := fun x y k => okEq x y = true ∧ k (.bl (!D.eq x y))
def inD (x : D) (ys : List D) : Bool := ys.any fun y => D.eq y x
def fIn (neg : Bool) : F2
  | x, .tup ys, k => (x.flat && ys.all D.flat) = true ∧ k (.bl (if neg then !inD x ys else inD x ys))
  | x, .lst ys, k => ((x.flat && ys.all D.flat) || (D.shp 64 x && D.shps 63 ys)) = true ∧ k (.bl (if neg then !inD x ys else inD x ys))
  | _, _, _ => False
def fIx : F2
  | .tup ds, .int i, k => onSome (atI ds i) k
  | .lst ds, .int i, k => onSome (atI ds i) k
  | .scr ns, .int i, k => onSome (atI ns i) fun n => k (.int n)
  | .str z, .int i, k => z.length ≤ sizeLine ∧ onSome (atI z.cps.toList i) fun c => k (.str ⟨#[c]⟩)
  | _, _, _ => False
/-- r does on values what f does on data -/
def OS (K : PySem.W.Frag) (r : R2) (f : F2) : Prop := ∀ (M : Addr → Prop) (H : Hp) (x y : D) (vx vy : V) (Qd : D → Prop) (k : VK), (∀ a, M a → ∃ o, H a = some o) → At K M H x vx → At K M H y vy → f x y Qd →
  (∀ z vz H', (∀ a o, H a = some o → H' a = some o) → At K M H' z vz → Qd z → k vz H') → r vx vy H k
section
variable {K : PySem.W.Frag} {M : Addr → Prop} {H : Hp} {X : Cx}
theorem OpR.or {f : Value → Value → Sem Value} {r r' : R2} (h : OpR X f r) (h' : OpR X f r') : OpR X f (fun x y H Q => r x y H Q ∨ r' x y H Q) := by
  intro pins s σ H x y v u Q I rx ry q
  exact q.elim (h pins s σ H x y v u Q I rx ry) (h' pins s σ H x y v u Q I rx ry)
theorem keepH (H : Hp) : ∀ (a : Addr) (o : HO), H a = some o → H a = some o := fun _ _ h => h
theorem newH {p : Addr} {o : HO} (h : H p = none) : ∀ (a : Addr) (u : HO), H a = some u → upd H p o a = some u := fun a u e => by rw [upd_ne (ne_of_none e h)]; exact e
theorem no_new {p : Addr} (hM : ∀ a, M a → ∃ o, H a = some o) (h : H p = none) : ¬ M p := fun m => by
  obtain ⟨o, e⟩ := hM p m
  rw [h] at e; cases e
theorem at_int {i : Int} {v : V} (h : At K M H (.int i) v) : v = .int i := by rw [At] at h; exact h
theorem at_str {i : Str} {v : V} (h : At K M H (.str i) v) : v = .str i := by rw [At] at h; exact h
theorem at_bl {i : Bool} {v : V} (h : At K M H (.bl i) v) : v = .bl i := by rw [At] at h; exact h
theorem at_int' (i : Int) : At K M H (.int i) (.int i) := by rw [At]
theorem at_str' (i : Str) : At K M H (.str i) (.str i) := by rw [At]
theorem at_bl' (i : Bool) : At K M H (.bl i) (.bl i) := by rw [At]
theorem at_non' : At K M H .non .non := by rw [At]
theorem at_tup {ds : List D} {v : V} (h : At K M H (.tup ds) v) : ∃ a vs, v = .ref a ∧ ¬ M a ∧ H a = some (.tup vs) ∧ Ats K M H ds vs := by rw [At] at h; exact h
theorem at_lst {ds : List D} {v : V} (h : At K M H (.lst ds) v) : ∃ a vs, v = .ref a ∧ ¬ M a ∧ H a = some (.lst vs) ∧ Ats K M H ds vs := by rw [At] at h; exact h
theorem at_tup' {ds : List D} {vs : List V} {p : Addr} (hM : ∀ a, M a → ∃ o, H a = some o) (h : H p = none) (z : Ats K M H ds vs) : At K M (upd H p (.tup vs)) (.tup ds) (.ref p) := by
  rw [At]
  exact ⟨p, vs, rfl, no_new hM h, upd_same, z.new h⟩
theorem at_lst' {ds : List D} {vs : List V} {p : Addr} (hM : ∀ a, M a → ∃ o, H a = some o) (h : H p = none) (z : Ats K M H ds vs) : At K M (upd H p (.lst vs)) (.lst ds) (.ref p) := by
  rw [At]
  exact ⟨p, vs, rfl, no_new hM h, upd_same, z.new h⟩
def rAddA (K : PySem.W.Frag) : R2 := fun x y H Q => rI0 (fun i j => .int (i + j)) x y H Q ∨ (fun x y H Q => ∃ i j, x = .str i ∧ y = .str j ∧ i.length + j.length ≤ sizeLine ∧ Q (.str (i ++ j)) H) x y H Q ∨ rCat x y H Q ∨ rCatT K x y H Q
theorem opAdd : OpR X (binaryOp .Add) (rAddA X.K) := OpR.or op_add (OpR.or op_add_str (OpR.or op_cat op_catT))
theorem sAdd : OS K (rAddA K) fAdd := by
  intro M H x y vx vy Qd k hM hx hy hf hk
  match x, y, hf with
  | .int i, .int j, hf =>
    rw [at_int hx, at_int hy]
    exact .inl ⟨i, j, rfl, rfl, hk _ _ H (keepH H) (at_int' _) hf⟩
  | .str i, .str j, hf =>
    rw [at_str hx, at_str hy]
    exact .inr (.inl ⟨i, j, rfl, rfl, hf.1, hk _ _ H (keepH H) (at_str' _) hf.2⟩)
  | .lst i, .lst j, hf =>
    obtain ⟨a, vs, rfl, _, q1, r1⟩ := at_lst hx
    obtain ⟨b, us, rfl, _, q2, r2⟩ := at_lst hy
    exact .inr (.inr (.inl ⟨a, b, vs, us, rfl, rfl, q1, q2, by rw [r1.len, r2.len]; exact hf.1, fun p hp => hk _ _ _ (newH hp) (at_lst' hM hp (r1.append r2)) hf.2⟩))
  | .tup i, .tup j, hf =>
    have hx' := hx
    obtain ⟨a, vs, rfl, _, q1, r1⟩ := at_tup hx
    obtain ⟨b, us, rfl, _, q2, r2⟩ := at_tup hy
    refine .inr (.inr (.inr ⟨a, b, vs, us, rfl, rfl, SqT.of q1, SqT.of q2, fun z => hf.1 (List.length_eq_zero_iff.mp (by rw [← r1.len, z]; rfl)), by rw [r1.len, r2.len]; exact hf.2.1, fun z => ?_, fun _ p hp => hk _ _ _ (newH hp) (at_tup' hM hp (r1.append r2)) hf.2.2⟩))
    have e : j = [] := List.length_eq_zero_iff.mp (by rw [← r2.len, z]; rfl)
    refine hk _ _ H (keepH H) ?_ hf.2.2
    rw [e, List.append_nil]
    exact hx'
theorem sI {C : Int → Int → Prop} {g : Int → Int → V} {gd : Int → Int → D} (h : ∀ M H i j, At K M H (gd i j) (g i j)) : OS K (rI C g) (fI C gd) := by
  intro M H x y vx vy Qd k hM hx hy hf hk
  match x, y, hf with
  | .int i, .int j, hf =>
    rw [at_int hx, at_int hy]
    exact ⟨i, j, rfl, rfl, hf.1, hk _ _ H (keepH H) (h M H i j) hf.2⟩
theorem sI0 {g : Int → Int → V} {gd : Int → Int → D} (h : ∀ M H i j, At K M H (gd i j) (g i j)) : OS K (rI0 g) (fI0 gd) := by
  intro M H x y vx vy Qd k hM hx hy hf hk
  match x, y, hf with
  | .int i, .int j, hf =>
    rw [at_int hx, at_int hy]
    exact ⟨i, j, rfl, rfl, hk _ _ H (keepH H) (h M H i j) hf⟩
theorem flatV_of {d : D} {v : V} (h : At K M H d v) (f : d.flat = true) : flatV v = true := by
  cases d <;> first | exact absurd (show false = true from f) Bool.false_ne_true | (rw [At] at h; rw [h]; rfl)
theorem eqV_of {x y : D} {vx vy : V} (hx : At K M H x vx) (hy : At K M H y vy) (fx : x.flat = true) (fy : y.flat = true) : eqV vx vy = D.eq x y := by
  cases x <;> first
    | exact absurd (show false = true from fx) Bool.false_ne_true
    | (cases y <;> first
        | exact absurd (show false = true from fy) Bool.false_ne_true
        | (simp only [At] at hx hy; rw [hx, hy]; rfl))
theorem scal_of {x y : D} {vx vy : V} (hx : At K M H x vx) (hy : At K M H y vy) (h : scalD x y = true) : scal vx vy = true ∧ decide (vx = vy) = D.eq x y := by
  cases x <;> first
    | exact absurd (show false = true from h) Bool.false_ne_true
    | (cases y <;> first
        | exact absurd (show false = true from h) Bool.false_ne_true
        | (simp only [At] at hx hy; rw [hx, hy]; exact ⟨rfl, by first | exact dec_int | exact dec_bl | exact dec_str | rfl | exact decide_eq_false (fun z => nomatch z)⟩))
def rEqA (K : PySem.W.Frag) : R2 := fun x y H Q => rEq x y H Q ∨ rEqD K x y H Q
def rNeA (K : PySem.W.Frag) : R2 := fun x y H Q => rNe x y H Q ∨ rNeD K x y H Q
theorem opEq (hu : X.A.units + 64 < cLine) : OpR X (compareOp .Eq) (rEqA X.K) := OpR.or op_eq (op_eqD hu)
theorem opNe (hu : X.A.units + 64 < cLine) : OpR X (compareOp .NotEq) (rNeA X.K) := OpR.or op_ne (op_neD hu)
theorem sEq : OS K (rEqA K) fEq := by
  intro M H x y vx vy Qd k hM hx hy hf hk
  obtain ⟨ok, q⟩ := hf
  unfold okEq at ok
  rw [Bool.or_eq_true] at ok
  rcases ok with ok | ok
  · obtain ⟨s1, s2⟩ := scal_of hx hy ok
    refine .inl ⟨s1, ?_⟩
    rw [s2]
    exact hk _ _ H (keepH H) (at_bl' _) q
  · rw [Bool.and_eq_true] at ok
    exact .inr ⟨_, _, dp_of ok.1 hx, dp_of ok.2 hy, shaped_of ok.1 (Nat.le_refl _), shaped_of ok.2 (Nat.le_refl _), hk _ _ H (keepH H) (at_bl' _) q⟩
theorem sNe : OS K (rNeA K) fNe := by
  intro M H x y vx vy Qd k hM hx hy hf hk
  obtain ⟨ok, q⟩ := hf
  unfold okEq at ok
  rw [Bool.or_eq_true] at ok
  rcases ok with ok | ok
  · obtain ⟨s1, s2⟩ := scal_of hx hy ok
    refine .inl ⟨s1, ?_⟩
    rw [s2]
    exact hk _ _ H (keepH H) (at_bl' _) q
  · rw [Bool.and_eq_true] at ok
    exact .inr ⟨_, _, dp_of ok.1 hx, dp_of ok.2 hy, shaped_of ok.1 (Nat.le_refl _), shaped_of ok.2 (Nat.le_refl _), hk _ _ H (keepH H) (at_bl' _) q⟩
theorem flats_of : ∀ {ds : List D} {vs : List V}, Ats K M H ds vs → ds.all D.flat = true → vs.all flatV = true
  | [], _, h, _ => by rw [Ats] at h; rw [h]; rfl
  | d :: r, _, h, f => by
    rw [Ats] at h
    obtain ⟨v, t, rfl, h1, h2⟩ := h
    rw [List.all_cons, Bool.and_eq_true] at f
    rw [List.all_cons, flatV_of h1 f.1, flats_of h2 f.2]
    rfl
theorem inV_of {x : D} {vx : V} (hx : At K M H x vx) (fx : x.flat = true) : ∀ {ds : List D} {vs : List V}, Ats K M H ds vs → ds.all D.flat = true → inV vx vs = inD x ds
  | [], _, h, _ => by rw [Ats] at h; rw [h]; rfl
  | d :: r, _, h, f => by
    rw [Ats] at h
    obtain ⟨v, t, rfl, h1, h2⟩ := h
    rw [List.all_cons, Bool.and_eq_true] at f
    have ih := inV_of hx fx h2 f.2
    unfold inV inD at ih ⊢
    rw [List.any_cons, List.any_cons, eqV_of h1 hx f.1 fx, ih]
def rInA (K : PySem.W.Frag) : R2 := fun x y H Q => rIn K false x y H Q ∨ rInD K x y H Q
def rNotInA (K : PySem.W.Frag) : R2 := fun x y H Q => rIn K true x y H Q ∨ rNotInD K x y H Q
theorem opIn (hu : X.A.units + 65 < cLine) : OpR X (compareOp .In) (rInA X.K) := OpR.or op_in_seq (op_inD hu)
theorem opNotIn (hu : X.A.units + 65 < cLine) : OpR X (compareOp .NotIn) (rNotInA X.K) := OpR.or op_notIn_seq (op_notInD hu)
theorem sIn : OS K (rInA K) (fIn false) := by
  intro M H x y vx vy Qd k hM hx hy hf hk
  match y, hf with
  | .tup ys, hf =>
    obtain ⟨ok, q⟩ := hf
    rw [Bool.and_eq_true] at ok
    obtain ⟨a, vs, rfl, _, q1, r1⟩ := at_tup hy
    refine .inl ⟨a, vs, rfl, .inr (SqT.of q1), flatV_of hx ok.1, flats_of r1 ok.2, ?_⟩
    rw [inV_of hx ok.1 r1 ok.2]
    exact hk _ _ H (keepH H) (at_bl' _) q
  | .lst ys, hf =>
    obtain ⟨ok, q⟩ := hf
    rw [Bool.or_eq_true, Bool.and_eq_true, Bool.and_eq_true] at ok
    have hy' := hy
    obtain ⟨a, vs, rfl, _, q1, r1⟩ := at_lst hy
    rcases ok with ok | ok
    · refine .inl ⟨a, vs, rfl, .inl (SqL.of q1), flatV_of hx ok.1, flats_of r1 ok.2, ?_⟩
      rw [inV_of hx ok.1 r1 ok.2]
      exact hk _ _ H (keepH H) (at_bl' _) q
    · have sh : D.shp 64 (.lst ys) = true := by rw [D.shp]; exact ok.2
      have z := dp_of sh hy'
      have w := shaped_of sh (Nat.le_refl _)
      rw [D.toPy] at z w
      refine .inr ⟨_, _, dp_of ok.1 hx, z, shaped_of ok.1 (Nat.le_refl _), w, ?_⟩
      rw [toPys_any]
      exact hk _ _ H (keepH H) (at_bl' _) q
theorem sNotIn : OS K (rNotInA K) (fIn true) := by
  intro M H x y vx vy Qd k hM hx hy hf hk
  match y, hf with
  | .tup ys, hf =>
    obtain ⟨ok, q⟩ := hf
    rw [Bool.and_eq_true] at ok
    obtain ⟨a, vs, rfl, _, q1, r1⟩ := at_tup hy
    refine .inl ⟨a, vs, rfl, .inr (SqT.of q1), flatV_of hx ok.1, flats_of r1 ok.2, ?_⟩
    rw [inV_of hx ok.1 r1 ok.2]
    exact hk _ _ H (keepH H) (at_bl' _) q
  | .lst ys, hf =>
    obtain ⟨ok, q⟩ := hf
    rw [Bool.or_eq_true, Bool.and_eq_true, Bool.and_eq_true] at ok
    have hy' := hy
    obtain ⟨a, vs, rfl, _, q1, r1⟩ := at_lst hy
    rcases ok with ok | ok
    · refine .inl ⟨a, vs, rfl, .inl (SqL.of q1), flatV_of hx ok.1, flats_of r1 ok.2, ?_⟩
      rw [inV_of hx ok.1 r1 ok.2]
      exact hk _ _ H (keepH H) (at_bl' _) q
    · have sh : D.shp 64 (.lst ys) = true := by rw [D.shp]; exact ok.2
      have z := dp_of sh hy'
      have w := shaped_of sh (Nat.le_refl _)
      rw [D.toPy] at z w
      refine .inr ⟨_, _, dp_of ok.1 hx, z, shaped_of ok.1 (Nat.le_refl _), w, ?_⟩
      rw [toPys_any]
      exact hk _ _ H (keepH H) (at_bl' _) q
theorem Ats.atI {ds : List D} {vs : List V} {i : Int} {d : D} (h : Ats K M H ds vs) (e : L2.atI ds i = some d) : ∃ v, L2.atI vs i = some v ∧ At K M H d v := by
  unfold L2.atI at e ⊢
  rw [h.len]
  cases q : ixN ds.length i with
  | none => rw [q] at e; cases e
  | some j =>
    rw [q] at e
    exact h.get e
theorem scr_sq {ns : List Int} {v : V} (h : At K M H (.scr ns) v) : ∃ a, v = .ref a ∧ SqL K H a (ns.map V.int) := by
  rw [At] at h
  obtain ⟨a, e, ⟨_, o, q⟩ | q⟩ := h
  · exact ⟨a, e, .inl (.inr ⟨o, q⟩)⟩
  · exact ⟨a, e, .inr q⟩
theorem atI_map {α β : Type} {f : α → β} {xs : List α} {i : Int} {x : α} (h : L2.atI xs i = some x) : L2.atI (xs.map f) i = some (f x) := by
  unfold L2.atI at h ⊢
  rw [List.length_map]
  cases q : ixN xs.length i with
  | none => rw [q] at h; cases h
  | some j =>
    rw [q] at h
    have h' : xs[j]? = some x := h
    show (xs.map f)[j]? = some (f x)
    rw [List.getElem?_map, h'] <;> rfl
theorem sIx : OS K (rIx K) fIx := by
  intro M H x y vx vy Qd k hM hx hy hf hk
  match x, y, hf with
  | .tup ds, .int i, hf =>
    rw [at_int hy]
    obtain ⟨a, vs, rfl, _, q1, r1⟩ := at_tup hx
    have hf' : onSome (L2.atI ds i) Qd := hf
    cases e : L2.atI ds i with
    | none => rw [e] at hf'; exact hf'.elim
    | some d =>
      rw [e] at hf'
      obtain ⟨v, e2, z⟩ := r1.atI e
      exact .inr (.inl ⟨a, vs, i, v, rfl, rfl, SqT.of q1, e2, hk _ _ H (keepH H) z hf'⟩)
  | .lst ds, .int i, hf =>
    rw [at_int hy]
    obtain ⟨a, vs, rfl, _, q1, r1⟩ := at_lst hx
    have hf' : onSome (L2.atI ds i) Qd := hf
    cases e : L2.atI ds i with
    | none => rw [e] at hf'; exact hf'.elim
    | some d =>
      rw [e] at hf'
      obtain ⟨v, e2, z⟩ := r1.atI e
      exact .inl ⟨a, vs, i, v, rfl, rfl, SqL.of q1, e2, hk _ _ H (keepH H) z hf'⟩
  | .scr ns, .int i, hf =>
    rw [at_int hy]
    obtain ⟨a, rfl, q⟩ := scr_sq hx
    have hf' : onSome (L2.atI ns i) fun n => Qd (.int n) := hf
    cases e : L2.atI ns i with
    | none => rw [e] at hf'; exact hf'.elim
    | some n =>
      rw [e] at hf'
      exact .inl ⟨a, _, i, .int n, rfl, rfl, q, atI_map e, hk _ _ H (keepH H) (at_int' _) hf'⟩
  | .str z, .int i, hf =>
    rw [at_int hy, at_str hx]
    obtain ⟨hl, hf'⟩ := hf
    have hf' : onSome (L2.atI z.cps.toList i) fun c => Qd (.str ⟨#[c]⟩) := hf'
    cases e : L2.atI z.cps.toList i with
    | none => rw [e] at hf'; exact hf'.elim
    | some c =>
      rw [e] at hf'
      exact .inr (.inr ⟨z, i, c, rfl, rfl, hl, e, hk _ _ H (keepH H) (at_str' _) hf'⟩)
end
end Dq

/- Part 5: a def's promise on data; its call. -/
namespace Dq
open PySem PySem.Spec PyProof.Rows L2

/-- a promise on data: the arguments' slots, what is wished of an exception's class, what is wished of the answer and of the slots behind -/
abbrev DSp := List Sl → (Addr → Prop) → (D → List Sl → Prop) → Prop
def liftSp (K : PySem.W.Frag) (sp : DSp) : Sp := fun vs H Q Eh => ∃ (ss : List Sl) (Ed : Addr → Prop) (Mx : Addr → Prop) (Qd : D → List Sl → Prop), Rp K Mx (vs.map some) (ss.map some) H ∧ XL Eh (vs.map some) (ss.map some) H Ed ∧
  sp ss Ed Qd ∧ ∀ (d : D) (ss' : List Sl) (v : V) (H' : Hp), Qd d ss' → Rp K Mx (vs.map some) (ss'.map some) H' → Tr (vs.map some) (ss.map some) H (vs.map some) (ss'.map some) H' → At K (Mm (vs.map some) (ss'.map some) Mx) H' d v → Q v H'

def onMut : Option (Option Sl) → (Sl → Prop) → Prop
  | some (some s), k => s.mut = true ∧ k s
  | _, _ => False
def onArgs (δ : Dst) : List Ar → (List Sl → Prop) → Prop
  | [], k => k []
  | .v d :: r, k => onArgs δ r fun ss => k (.val d :: ss)
  | .s i :: r, k => onMut δ[i]? fun s => onArgs δ r fun ss => k (s :: ss)
def refs : List Ar → List Nat
  | [] => []
  | .v _ :: r => refs r
  | .s i :: r => i :: refs r
def putS : List Ar → List Sl → Dst → Dst
  | .v _ :: r, _ :: ss, δ => putS r ss δ
  | .s i :: r, s :: ss, δ => putS r ss (δ.set i (some s))
  | _, _, δ => δ
def dCall (sp : DSp) (da : DA) : DE := fun E δ Q => da E δ fun as δ1 => (refs as).Nodup ∧ as.length ≤ 8 ∧ onArgs δ1 as fun ss => sp ss E fun d ss' => Q d (putS as ss' δ1)

section
variable {K : PySem.W.Frag} {Mx : Addr → Prop} {σ : St} {δ : Dst} {H H' : Hp}
/-- an argument, its slot, its value -/
def Is3 (K : PySem.W.Frag) (M : Addr → Prop) (σ : St) (δ : Dst) (H : Hp) (a : Ar) (s : Sl) (v : V) : Prop :=
  (∃ d, a = .v d ∧ s = .val d ∧ At K M H d v) ∨ ∃ i, a = .s i ∧ δ[i]? = some (some s) ∧ s.mut = true ∧ σ[i]? = some (some v)
theorem args_of {M : Addr → Prop} : ∀ {as : List Ar} {vs : List V} {k : List Sl → Prop}, ArAts K M σ H as vs → onArgs δ as k →
    ∃ ss, k ss ∧ ss.length = as.length ∧ ∀ (j : Nat) (s : Sl), ss[j]? = some s → ∃ a v, as[j]? = some a ∧ vs[j]? = some v ∧ Is3 K M σ δ H a s v
  | [], _, _, _, h => ⟨[], h, rfl, fun j s e => by simp at e⟩
  | .v d :: r, _, k, ⟨v, t, e, h1, h2⟩, h => by
    obtain ⟨ss, hk, hl, hs⟩ := args_of h2 h
    refine ⟨.val d :: ss, hk, by simp [hl], fun j s q => ?_⟩
    cases j with
    | zero => simp at q; subst q; exact ⟨.v d, v, rfl, by rw [e]; rfl, .inl ⟨d, rfl, rfl, h1⟩⟩
    | succ j =>
      obtain ⟨a, u, z1, z2, z3⟩ := hs j s (by simpa using q)
      exact ⟨a, u, by simpa using z1, by rw [e]; simpa using z2, z3⟩
  | .s i :: r, _, k, ⟨v, t, e, h1, h2⟩, h => by
    have h' : onMut δ[i]? fun s => onArgs δ r fun ss => k (s :: ss) := h
    cases q0 : δ[i]? with
    | none => rw [q0] at h'; exact h'.elim
    | some o =>
      cases o with
      | none => rw [q0] at h'; exact h'.elim
      | some s0 =>
        rw [q0] at h'
        obtain ⟨hm, h'⟩ := h'
        obtain ⟨ss, hk, hl, hs⟩ := args_of h2 h'
        refine ⟨s0 :: ss, hk, by simp [hl], fun j s q => ?_⟩
        cases j with
        | zero => simp at q; subst q; exact ⟨.s i, v, rfl, by rw [e]; rfl, .inr ⟨i, rfl, q0, hm, h1⟩⟩
        | succ j =>
          obtain ⟨a, u, z1, z2, z3⟩ := hs j s (by simpa using q)
          exact ⟨a, u, by simpa using z1, by rw [e]; simpa using z2, z3⟩
theorem mem_refs : ∀ {as : List Ar} {j i : Nat}, as[j]? = some (.s i) → i ∈ refs as
  | [], _, _, h => by simp at h
  | .v _ :: r, 0, _, h => by simp at h
  | .v _ :: r, j + 1, i, h => mem_refs (as := r) (j := j) (by simpa using h)
  | .s k :: r, 0, i, h => by simp at h; subst h; exact List.mem_cons_self
  | .s k :: r, j + 1, i, h => List.mem_cons_of_mem _ (mem_refs (as := r) (j := j) (by simpa using h))
theorem of_refs : ∀ {as : List Ar} {i : Nat}, i ∈ refs as → ∃ j : Nat, as[j]? = some (.s i)
  | [], _, h => by cases h
  | .v _ :: r, i, h => by
    obtain ⟨j, e⟩ := of_refs (as := r) h
    exact ⟨j + 1, by simpa using e⟩
  | .s k :: r, i, h => by
    rcases List.mem_cons.mp h with e | h
    · subst e; exact ⟨0, rfl⟩
    · obtain ⟨j, e⟩ := of_refs (as := r) h
      exact ⟨j + 1, by simpa using e⟩
theorem refs_inj : ∀ {as : List Ar} {j k i : Nat}, (refs as).Nodup → as[j]? = some (.s i) → as[k]? = some (.s i) → j = k
  | [], _, _, _, _, h, _ => by simp at h
  | .v _ :: r, 0, _, _, _, h, _ => by simp at h
  | .v _ :: r, _ + 1, 0, _, _, _, h => by simp at h
  | .v _ :: r, j + 1, k + 1, i, n, h, g => congrArg (· + 1) (refs_inj (as := r) n (by simpa using h) (by simpa using g))
  | .s x :: r, 0, 0, i, n, h, g => rfl
  | .s x :: r, 0, k + 1, i, n, h, g => by
    simp at h; subst h
    exact absurd (mem_refs (as := r) (j := k) (by simpa using g)) (List.nodup_cons.mp n).1
  | .s x :: r, j + 1, 0, i, n, h, g => by
    simp at g; subst g
    exact absurd (mem_refs (as := r) (j := j) (by simpa using h)) (List.nodup_cons.mp n).1
  | .s x :: r, j + 1, k + 1, i, n, h, g => congrArg (· + 1) (refs_inj (as := r) (List.nodup_cons.mp n).2 (by simpa using h) (by simpa using g))
theorem putS_len : ∀ (as : List Ar) (ss : List Sl) (δ : Dst), (putS as ss δ).length = δ.length
  | .v _ :: r, _ :: ss, δ => putS_len r ss δ
  | .s i :: r, s :: ss, δ => by rw [putS, putS_len r ss, List.length_set]
  | [], _, _ => by rw [putS]; all_goals (intros; first | contradiction | simp_all)
  | .v _ :: _, [], _ => by rw [putS]; all_goals (intros; first | contradiction | simp_all)
  | .s _ :: _, [], _ => by rw [putS]; all_goals (intros; first | contradiction | simp_all)
theorem putS_out {i : Nat} : ∀ {as : List Ar} {ss : List Sl} {δ : Dst}, i ∉ refs as → (putS as ss δ)[i]? = δ[i]?
  | .v _ :: r, _ :: ss, δ, h => putS_out (as := r) h
  | .s k :: r, s :: ss, δ, h => by
    rw [putS, putS_out (as := r) (fun z => h (List.mem_cons_of_mem _ z)), List.getElem?_set_ne (fun z => h (by rw [← z]; exact List.mem_cons_self))]
  | [], _, _, _ => by rw [putS]; all_goals (intros; first | contradiction | simp_all)
  | .v _ :: _, [], _, _ => by rw [putS]; all_goals (intros; first | contradiction | simp_all)
  | .s _ :: _, [], _, _ => by rw [putS]; all_goals (intros; first | contradiction | simp_all)
theorem putS_in {i : Nat} {s : Sl} : ∀ {as : List Ar} {ss : List Sl} {δ : Dst} {j : Nat}, (refs as).Nodup → as[j]? = some (.s i) → ss[j]? = some s → i < δ.length → (putS as ss δ)[i]? = some (some s)
  | .v _ :: r, _ :: ss, δ, 0, _, h, _, _ => by simp at h
  | .v _ :: r, _ :: ss, δ, j + 1, n, h, g, l => putS_in (as := r) (j := j) n (by simpa using h) (by simpa using g) l
  | .s k :: r, x :: ss, δ, 0, n, h, g, l => by
    simp at h g; subst h; subst g
    rw [putS, putS_out (as := r) (List.nodup_cons.mp n).1, List.getElem?_set_self l]
  | .s k :: r, x :: ss, δ, j + 1, n, h, g, l => by
    rw [putS]
    exact putS_in (as := r) (j := j) (List.nodup_cons.mp n).2 (by simpa using h) (by simpa using g) (by simpa using l)
  | [], _, _, _, _, h, _, _ => by simp at h
  | .v _ :: _, [], _, _, _, _, g, _ => by simp at g
  | .s _ :: _, [], _, _, _, _, g, _ => by simp at g
theorem mapS {α : Type} {l : List α} {j : Nat} {s : α} : (l.map some)[j]? = some (some s) ↔ l[j]? = some s := by
  rw [List.getElem?_map]
  cases l[j]? <;> simp

/-- the call's state, out of the caller's -/
theorem into_call {as : List Ar} {vs : List V} {ss : List Sl} (r : Rp K Mx σ δ H) (nd : (refs as).Nodup) (hl : ss.length = vs.length)
    (hs : ∀ (j : Nat) (s : Sl), ss[j]? = some s → ∃ a v, as[j]? = some a ∧ vs[j]? = some v ∧ Is3 K (Mm σ δ Mx) σ δ H a s v) :
    (∀ a, Mu (vs.map some) (ss.map some) a → ∃ i, i ∈ refs as ∧ IsMut δ i ∧ σ[i]? = some (some (.ref a))) ∧
    Rp K (fun a => Mm σ δ Mx a ∧ ¬ Mu (vs.map some) (ss.map some) a) (vs.map some) (ss.map some) H := by
  have sub : ∀ (j : Nat) (a : Addr), IsMut (ss.map some) j → (vs.map some)[j]? = some (some (.ref a)) → ∃ i, as[j]? = some (.s i) ∧ IsMut δ i ∧ σ[i]? = some (some (.ref a)) := by
    rintro j a ⟨s, e, m⟩ q
    obtain ⟨x, v, e1, e2, z⟩ := hs j s (mapS.mp e)
    rw [mapS] at q
    rw [q] at e2; cases e2
    rcases z with ⟨d, _, rfl, _⟩ | ⟨i, rfl, h1, h2, h3⟩
    · cases m
    · exact ⟨i, e1, ⟨s, h1, h2⟩, h3⟩
  have sub2 : ∀ a, Mu (vs.map some) (ss.map some) a → ∃ i, i ∈ refs as ∧ IsMut δ i ∧ σ[i]? = some (some (.ref a)) := by
    rintro a ⟨j, m, q⟩
    obtain ⟨i, e, m', q'⟩ := sub j a m q
    exact ⟨i, mem_refs e, m', q'⟩
  have le : ∀ a, Mm (vs.map some) (ss.map some) (fun a => Mm σ δ Mx a ∧ ¬ Mu (vs.map some) (ss.map some) a) a → Mm σ δ Mx a := by
    rintro a (m | m)
    · obtain ⟨i, _, m, q⟩ := sub2 a m
      exact .inl ⟨i, m, q⟩
    · exact m.1
  refine ⟨sub2, fun j s e => ?_, fun j k a m1 m2 q1 q2 => ?_, fun a m => r.mdom m.1, fun a m => m.2, by simp [hl]⟩
  · obtain ⟨x, v, e1, e2, z⟩ := hs j s (mapS.mp e)
    refine ⟨v, mapS.mpr e2, ?_⟩
    rcases z with ⟨d, _, rfl, h⟩ | ⟨i, rfl, h1, h2, h3⟩
    · exact At.mono (fun _ _ e _ => e) (fun a _ _ m => le a m) h
    · obtain ⟨u, g1, g2⟩ := r.get i s h1
      rw [h3] at g1; cases g1
      exact g2.mono (fun _ _ e _ => e) (fun a _ _ m => le a m) fun _ _ _ _ e => e
  · obtain ⟨i1, e1, m1', q1'⟩ := sub j a m1 q1
    obtain ⟨i2, e2, m2', q2'⟩ := sub k a m2 q2
    have e := r.sep i1 i2 a m1' m2' q1' q2'
    subst e
    exact refs_inj nd e1 e2
/-- behind the call -/
theorem out_of_call {as : List Ar} {vs : List V} {ss ss' : List Sl} {d : D} {v : V} (r : Rp K Mx σ δ H) (nd : (refs as).Nodup) (h8 : as.length ≤ 8) (hl : ss.length = vs.length) (hl2 : ss.length = as.length)
    (hs : ∀ (j : Nat) (s : Sl), ss[j]? = some s → ∃ a v, as[j]? = some a ∧ vs[j]? = some v ∧ Is3 K (Mm σ δ Mx) σ δ H a s v)
    (r' : Rp K (fun a => Mm σ δ Mx a ∧ ¬ Mu (vs.map some) (ss.map some) a) (vs.map some) (ss'.map some) H') (t : Tr (vs.map some) (ss.map some) H (vs.map some) (ss'.map some) H')
    (hd : At K (Mm (vs.map some) (ss'.map some) fun a => Mm σ δ Mx a ∧ ¬ Mu (vs.map some) (ss.map some) a) H' d v) :
    Rp K Mx σ (putS as ss' δ) H' ∧ Tr σ δ H σ (putS as ss' δ) H' ∧ At K (Mm σ (putS as ss' δ) Mx) H' d v := by
  obtain ⟨sub2, _⟩ := into_call r nd hl hs
  have hl' : ss'.length = as.length := by have := r'.len; simp at this; omega
  -- a place that is referred to
  have ref : ∀ i, i ∈ refs as → ∃ (j : Nat) (s s' : Sl) (u : V), as[j]? = some (.s i) ∧ ss[j]? = some s ∧ ss'[j]? = some s' ∧ vs[j]? = some u ∧ δ[i]? = some (some s) ∧ s.mut = true ∧ s'.mut = true ∧ σ[i]? = some (some u) := by
    intro i hi
    obtain ⟨j, e⟩ := of_refs hi
    have hj : j < as.length := (List.getElem?_eq_some_iff.mp e).1
    obtain ⟨s, es⟩ : ∃ s, ss[j]? = some s := ⟨_, List.getElem?_eq_getElem (by omega)⟩
    obtain ⟨x, u, e1, e2, z⟩ := hs j s es
    rw [e] at e1; cases e1
    rcases z with ⟨_, z, _⟩ | ⟨i', z, h1, h2, h3⟩
    · cases z
    · cases z
      obtain ⟨_, s', es', m'⟩ := t.par j u (by omega) ⟨s, mapS.mpr es, h2⟩ (mapS.mpr e2)
      exact ⟨j, s, s', u, e, es, mapS.mp es', e2, h1, h2, m', h3⟩
  have lt : ∀ {i : Nat} {x : Option Sl}, δ[i]? = some x → i < δ.length := fun e => (List.getElem?_eq_some_iff.mp e).1
  have mt : ∀ i, IsMut (putS as ss' δ) i ↔ IsMut δ i := by
    intro i
    by_cases hi : i ∈ refs as
    · obtain ⟨j, s, s', u, e1, e2, e3, e4, e5, m, m', e6⟩ := ref i hi
      have q := putS_in nd e1 e3 (lt e5)
      exact ⟨fun _ => ⟨s, e5, m⟩, fun _ => ⟨s', q, m'⟩⟩
    · unfold IsMut
      rw [putS_out hi]
  have mu : ∀ a, Mu σ (putS as ss' δ) a ↔ Mu σ δ a := fun a => ⟨fun ⟨i, m, q⟩ => ⟨i, (mt i).mp m, q⟩, fun ⟨i, m, q⟩ => ⟨i, (mt i).mpr m, q⟩⟩
  have muV : ∀ a, Mu (vs.map some) (ss.map some) a → Mu (vs.map some) (ss'.map some) a := fun a ⟨j, m, q⟩ => ⟨j, (t.par j _ (by obtain ⟨s, e, _⟩ := m; have := (List.getElem?_eq_some_iff.mp e).1; simp at this; omega) m q).2, q⟩
  have hm : ∀ a, Mm σ (putS as ss' δ) Mx a → Mm (vs.map some) (ss'.map some) (fun a => Mm σ δ Mx a ∧ ¬ Mu (vs.map some) (ss.map some) a) a := by
    intro a m
    have m' : Mm σ δ Mx a := m.elim (fun m => .inl ((mu a).mp m)) .inr
    by_cases c : Mu (vs.map some) (ss.map some) a
    · exact .inl (muV a c)
    · exact .inr ⟨m', c⟩
  have hm2 : ∀ a, Mm σ (putS as ss' δ) Mx a → Mm σ δ Mx a := fun a m => m.elim (fun m => .inl ((mu a).mp m)) .inr
  have le : ∀ a, Mu (vs.map some) (ss.map some) a → Mu σ δ a := fun a m => by
    obtain ⟨i, _, m, q⟩ := sub2 a m
    exact ⟨i, m, q⟩
  refine ⟨⟨fun i s e => ?_, fun i j a m1 m2 => r.sep i j a ((mt i).mp m1) ((mt j).mp m2), fun a m => ?_, fun a m z => r.dis a m ((mu a).mp z), by rw [putS_len]; exact r.len⟩,
    ⟨fun a o e n => t.ext a o e fun z => n (le a z), t.dom, fun a m => .inl ((mu a).mp m), fun i u _ m e => ⟨e, (mt i).mpr m⟩⟩, hd.mono (fun _ _ e _ => e) fun a _ _ m => hm a m⟩
  · by_cases hi : i ∈ refs as
    · obtain ⟨j, s0, s', u, e1, e2, e3, e4, e5, m, m', e6⟩ := ref i hi
      rw [putS_in nd e1 e3 (lt e5)] at e
      cases e
      obtain ⟨w, g1, g2⟩ := r'.get j s (mapS.mpr e3)
      rw [mapS] at g1
      rw [g1] at e4; cases e4
      exact ⟨_, e6, g2.mono (fun _ _ e _ => e) (fun a _ _ m => hm a m) fun _ _ _ _ e => e⟩
    · rw [putS_out hi] at e
      obtain ⟨u, e2, z⟩ := r.get i s e
      refine ⟨u, e2, z.mono (fun a o q n => t.ext a o q fun m => n (.inl (le a m))) (fun a _ _ m => hm2 a m) fun m a o hu q => t.ext a o q fun z => ?_⟩
      obtain ⟨i', hi', m2, q2⟩ := sub2 a z
      rw [hu] at e2
      exact hi (by rw [r.sep i i' a ⟨s, e, m⟩ m2 e2 q2]; exact hi')
  · obtain ⟨o, q⟩ := r.ex a m
    exact t.dom a o q
end

section
variable {X : Cx} {xw : XK} {n : Nat} {f : Addr} {fd : FuncData} {ps : List Str} {sp : DSp} {K : PySem.W.Frag}
theorem se_call {ta : TA} {da : DA} (h : SA K xw ta da) : SE K xw (tCall (liftSp K sp) [] xw ta) (dCall sp da) := by
  intro Mx σ δ H E Q k rp xl ht hk
  refine h Mx σ δ H E _ _ rp xl ht fun vs as δ1 H1 r1 t1 a1 q1 => ?_
  obtain ⟨nd, h8, q1⟩ := q1
  obtain ⟨ss, hq, hl, hs⟩ := args_of a1 q1
  have hl' : ss.length = vs.length := by rw [a1.len, hl]
  obtain ⟨sub2, rc⟩ := into_call r1 nd hl' hs
  have x1 : XL xw σ δ1 H1 E := xl.tr t1
  show liftSp K sp (vs ++ []) H1 k xw
  rw [List.append_nil]
  refine ⟨ss, E, _, _, rc, fun c H2 hx he => x1 c H2 (fun a o e nn => hx a o e fun z => nn ?_) he, hq, fun d ss' v H' q rr tt aa => ?_⟩
  · obtain ⟨i, _, m, q⟩ := sub2 a z
    exact ⟨i, m, q⟩
  · obtain ⟨g1, g2, g3⟩ := out_of_call r1 nd h8 hl' hl hs rr tt aa
    exact hk v d _ H' g1 (t1.trans g2) g3 q
end
end Dq

/- Part 6: what readings of HandS say, on data: expressions, tests, statements, loops. -/
namespace Dq
open PySem PySem.Spec PyProof.Rows L2

def onVal : Option (Option Sl) → (D → Prop) → Prop
  | some (some (.val d)), k => k d
  | _, _ => False
def onVals : List Ar → (List D → Prop) → Prop
  | [], k => k []
  | .v d :: r, k => onVals r fun ds => k (d :: ds)
  | .s _ :: _, _ => False
def onBl : D → (Bool → Prop) → Prop
  | .bl b, k => k b
  | _, _ => False
def dVar (i : Nat) : DE := fun _ δ Q => onVal δ[i]? fun d => Q d δ
def dC (d : D) : DE := fun _ δ Q => Q d δ
def dOp (f : F2) (ta tb : DE) : DE := fun E δ Q => ta E δ fun x δ1 => tb E δ1 fun y δ2 => f x y fun z => Q z δ2
def dUn (f : D → (D → Prop) → Prop) (ta : DE) : DE := fun E δ Q => ta E δ fun x δ1 => f x fun z => Q z δ1
def dNil : DA := fun _ δ Q => Q [] δ
def dCons (t : DE) (r : DA) : DA := fun E δ Q => t E δ fun d δ1 => r E δ1 fun as δ2 => Q (.v d :: as) δ2
def dConsS (i : Nat) (r : DA) : DA := fun E δ Q => onMut δ[i]? fun _ => r E δ fun as δ2 => Q (.s i :: as) δ2
def dTup (r : DA) : DE := fun E δ Q => r E δ fun as δ1 => onVals as fun ds => decide (ds.length ≤ 1000) = true ∧ Q (.tup ds) δ1
def dLst (r : DA) : DE := fun E δ Q => r E δ fun as δ1 => onVals as fun ds => decide (ds.length ≤ 1000) = true ∧ Q (.lst ds) δ1
/-- a built-in, called -/
def dCB (f : List D → (D → Prop) → Prop) (r : DA) : DE := fun E δ Q => r E δ fun as δ1 => onVals as fun ds => f ds fun z => Q z δ1
def dTest (t : DE) : DT := fun E δ Q => t E δ fun d δ1 => onBl d fun b => Q b δ1
def dAnd (t u : DT) : DT := fun E δ Q => t E δ fun b δ1 => if b = true then u E δ1 Q else Q false δ1
def dOr (t u : DT) : DT := fun E δ Q => t E δ fun b δ1 => if b = true then Q true δ1 else u E δ1 Q
def dNot (t : DT) : DT := fun E δ Q => t E δ fun b δ1 => Q (!b) δ1
def dAndV (t u : DE) : DE := fun E δ Q => t E δ fun d δ1 => onBl d fun b => if b = true then u E δ1 Q else Q (.bl false) δ1
def dOrV (t u : DE) : DE := fun E δ Q => t E δ fun d δ1 => onBl d fun b => if b = true then Q (.bl true) δ1 else u E δ1 Q
def dNotV (t : DE) : DE := fun E δ Q => t E δ fun d δ1 => onBl d fun b => Q (.bl (!b)) δ1
def dIf (t : DT) (u w : DE) : DE := fun E δ Q => t E δ fun b δ1 => if b = true then u E δ1 Q else w E δ1 Q
abbrev FS := D → Option Int → Option Int → (D → Prop) → Prop
def cutD {α : Type} (xs : List α) (lo hi : Option Int) : List α := (xs.drop (HT.sIx xs.length 0 lo)).take (HT.sIx xs.length xs.length hi - HT.sIx xs.length 0 lo)
def fSl : FS
  | .tup ds, lo, hi, k => ¬ (HT.sIx ds.length 0 lo = 0 ∧ HT.sIx ds.length ds.length hi = ds.length) ∧ k (.tup (cutD ds lo hi))
  | .lst ds, lo, hi, k => k (.lst (cutD ds lo hi))
  | .str z, lo, hi, k => z.length ≤ sizeLine ∧ k (.str (cutS z lo hi))
  | _, _, _, _ => False
def onInt : D → (Int → Prop) → Prop
  | .int i, k => k i
  | _, _ => False
abbrev DO := (Addr → Prop) → Dst → (Option Int → Dst → Prop) → Prop
def dNo : DO := fun _ δ Q => Q none δ
def dPart (t : DE) : DO := fun E δ Q => t E δ fun d δ1 => onInt d fun i => Q (some i) δ1
def dSl (f : FS) (t : DE) (l h : DO) : DE := fun E δ Q => t E δ fun d δ1 => l E δ1 fun a δ2 => h E δ2 fun b δ3 => f d a b fun z => Q z δ3

section
variable {K : PySem.W.Frag} {xw : XK} {ta tb te : TE} {da db dt : DE} {tt tu : TT} {dtt dtu : DT} {tar : TA} {dar : DA} {i : Nat}
theorem Tr.heap {σ : St} {δ : Dst} {H H' : Hp} (k : ∀ a o, H a = some o → H' a = some o) : Tr σ δ H σ δ H' := ⟨fun a o e _ => k a o e, fun a o e => ⟨o, k a o e⟩, fun _ m => .inl m, fun _ _ _ m e => ⟨e, m⟩⟩
theorem se_var : SE K xw (tVar i) (dVar i) := by
  intro Mx σ δ H E Q k rp xl ht hk
  have ht' : onVal δ[i]? fun d => Q d δ := ht
  cases e : δ[i]? with
  | none => rw [e] at ht'; exact ht'.elim
  | some o =>
    cases o with
    | none => rw [e] at ht'; exact ht'.elim
    | some s =>
      rw [e] at ht'
      cases s with
      | val d =>
        obtain ⟨v, e2, z⟩ := rp.get i _ e
        exact ⟨v, e2, hk v d δ H rp Tr.refl z ht'⟩
      | own ds => exact ht'.elim
      | dic ks ds => exact ht'.elim
      | obj C fs => exact ht'.elim
      | exc a => exact ht'.elim
theorem se_c {v : V} {d : D} (h : ∀ M H, At K M H d v) : SE K xw (tC v) (dC d) := fun Mx σ δ H E Q k rp xl ht hk => hk v d δ H rp Tr.refl (h _ _) ht
theorem se_int {z : Int} : SE K xw (tC (.int z)) (dC (.int z)) := se_c fun _ _ => at_int' z
theorem se_str {z : Str} : SE K xw (tC (.str z)) (dC (.str z)) := se_c fun _ _ => at_str' z
theorem se_bl {z : Bool} : SE K xw (tC (.bl z)) (dC (.bl z)) := se_c fun _ _ => at_bl' z
theorem se_non : SE K xw (tC .non) (dC .non) := se_c fun _ _ => at_non'
theorem se_op {r : R2} {f : F2} (ho : OS K r f) (ha : SE K xw ta da) (hb : SE K xw tb db) : SE K xw (tOp r ta tb) (dOp f da db) := by
  intro Mx σ δ H E Q k rp xl ht hk
  refine ha Mx σ δ H E _ _ rp xl ht fun v x δ1 H1 r1 t1 a1 q1 => ?_
  refine hb Mx σ δ1 H1 E _ _ r1 (xl.tr t1) q1 fun u y δ2 H2 r2 t2 a2 q2 => ?_
  refine ho (Mm σ δ2 Mx) H2 x y v u _ _ (fun a m => r2.mdom m) (a1.tr t2) a2 q2 fun z vz H3 k3 a3 q3 => ?_
  exact hk vz z δ2 H3 (r2.heap k3) ((t1.trans t2).trans (Tr.heap k3)) a3 q3
/-- a one-place operation -/
def US (K : PySem.W.Frag) (r : V → Hp → VK → Prop) (f : D → (D → Prop) → Prop) : Prop := ∀ (M : Addr → Prop) (H : Hp) (x : D) (vx : V) (Qd : D → Prop) (k : VK), (∀ a, M a → ∃ o, H a = some o) → At K M H x vx → f x Qd →
  (∀ z vz H', (∀ a o, H a = some o → H' a = some o) → At K M H' z vz → Qd z → k vz H') → r vx H k
theorem se_un {r : V → Hp → VK → Prop} {f : D → (D → Prop) → Prop} (ho : US K r f) (ha : SE K xw ta da) : SE K xw (tUn r ta) (dUn f da) := by
  intro Mx σ δ H E Q k rp xl ht hk
  refine ha Mx σ δ H E _ _ rp xl ht fun v x δ1 H1 r1 t1 a1 q1 => ?_
  refine ho (Mm σ δ1 Mx) H1 x v _ _ (fun a m => r1.mdom m) a1 q1 fun z vz H3 k3 a3 q3 => ?_
  exact hk vz z δ1 H3 (r1.heap k3) (t1.trans (Tr.heap k3)) a3 q3
theorem sa_nil : SA K xw tNil dNil := fun Mx σ δ H E Q k rp xl ht hk => hk [] [] δ H rp Tr.refl rfl ht
theorem sa_cons (ha : SE K xw ta da) (hr : SA K xw tar dar) : SA K xw (tCons ta tar) (dCons da dar) := by
  intro Mx σ δ H E Q k rp xl ht hk
  refine ha Mx σ δ H E _ _ rp xl ht fun v x δ1 H1 r1 t1 a1 q1 => ?_
  refine hr Mx σ δ1 H1 E _ _ r1 (xl.tr t1) q1 fun vs as δ2 H2 r2 t2 a2 q2 => ?_
  exact hk (v :: vs) (.v x :: as) δ2 H2 r2 (t1.trans t2) ⟨v, vs, rfl, a1.tr t2, a2⟩ q2
theorem sa_consS (hr : SA K xw tar dar) : SA K xw (tCons (tVar i) tar) (dConsS i dar) := by
  intro Mx σ δ H E Q k rp xl ht hk
  have ht' : onMut δ[i]? fun _ => dar E δ fun as δ2 => Q (.s i :: as) δ2 := ht
  cases e : δ[i]? with
  | none => rw [e] at ht'; exact ht'.elim
  | some o =>
    cases o with
    | none => rw [e] at ht'; exact ht'.elim
    | some s =>
      rw [e] at ht'
      obtain ⟨v, e2, z⟩ := rp.get i _ e
      refine ⟨v, e2, hr Mx σ δ H E _ _ rp xl ht'.2 fun vs as δ2 H2 r2 t2 a2 q2 => ?_⟩
      exact hk (v :: vs) (.s i :: as) δ2 H2 r2 t2 ⟨v, vs, rfl, e2, a2⟩ q2
theorem vals_of {M : Addr → Prop} {σ : St} {H : Hp} : ∀ {as : List Ar} {vs : List V} {k : List D → Prop}, ArAts K M σ H as vs → onVals as k → ∃ ds, k ds ∧ Ats K M H ds vs
  | [], vs, k, h, q => ⟨[], q, by rw [Ats]; exact h⟩
  | .v d :: r, vs, k, ⟨v, t, e, h1, h2⟩, q => by
    obtain ⟨ds, hk, hs⟩ := vals_of (as := r) h2 q
    exact ⟨d :: ds, hk, by rw [Ats]; exact ⟨v, t, e, h1, hs⟩⟩
theorem small_line {n : Nat} (h : decide (n ≤ 1000) = true) : n ≤ sizeLine := Nat.le_of_lt (small1000 (of_decide_eq_true h))
theorem se_tup (h : SA K xw tar dar) : SE K xw (tTup tar) (dTup dar) := by
  intro Mx σ δ H E Q k rp xl ht hk
  refine h Mx σ δ H E _ _ rp xl ht fun vs as δ1 H1 r1 t1 a1 q1 => ?_
  obtain ⟨ds, ⟨l, q⟩, z⟩ := vals_of a1 q1
  exact ⟨by rw [z.len]; exact small_line l, fun p hp => hk _ _ δ1 _ (r1.new hp) (t1.trans (Tr.new hp)) (at_tup' (fun a m => r1.mdom m) hp z) q⟩
theorem se_lst (h : SA K xw tar dar) : SE K xw (tLst tar) (dLst dar) := by
  intro Mx σ δ H E Q k rp xl ht hk
  refine h Mx σ δ H E _ _ rp xl ht fun vs as δ1 H1 r1 t1 a1 q1 => ?_
  obtain ⟨ds, ⟨l, q⟩, z⟩ := vals_of a1 q1
  exact ⟨by rw [z.len]; exact small_line l, fun p hp => hk _ _ δ1 _ (r1.new hp) (t1.trans (Tr.new hp)) (at_lst' (fun a m => r1.mdom m) hp z) q⟩
/-- a built-in on values -/
def CS (K : PySem.W.Frag) (r : List V → Hp → VK → Prop) (f : List D → (D → Prop) → Prop) : Prop := ∀ (M : Addr → Prop) (H : Hp) (xs : List D) (vs : List V) (Qd : D → Prop) (k : VK), (∀ a, M a → ∃ o, H a = some o) → Ats K M H xs vs → f xs Qd →
  (∀ z vz H', (∀ a o, H a = some o → H' a = some o) → At K M H' z vz → Qd z → k vz H') → r vs H k
theorem se_cb {r : List V → Hp → VK → Prop} {f : List D → (D → Prop) → Prop} (ho : CS K r f) (h : SA K xw tar dar) : SE K xw (tCB r tar) (dCB f dar) := by
  intro Mx σ δ H E Q k rp xl ht hk
  refine h Mx σ δ H E _ _ rp xl ht fun vs as δ1 H1 r1 t1 a1 q1 => ?_
  obtain ⟨ds, q, z⟩ := vals_of a1 q1
  refine ho (Mm σ δ1 Mx) H1 ds vs _ _ (fun a m => r1.mdom m) z q fun z vz H3 k3 a3 q3 => ?_
  exact hk vz z δ1 H3 (r1.heap k3) (t1.trans (Tr.heap k3)) a3 q3
theorem onBl_of {d : D} {k : Bool → Prop} (h : onBl d k) : ∃ b, d = .bl b ∧ k b := by
  cases d with
  | bl b => exact ⟨b, rfl, h⟩
  | _ => exact h.elim
theorem onInt_of {d : D} {k : Int → Prop} (h : onInt d k) : ∃ b, d = .int b ∧ k b := by
  cases d with
  | int b => exact ⟨b, rfl, h⟩
  | _ => exact h.elim
theorem st_test (h : SE K xw te dt) : ST K xw (tTest te) (dTest dt) := by
  intro Mx σ δ H E Q k rp xl ht hk
  refine h Mx σ δ H E _ _ rp xl ht fun v x δ1 H1 r1 t1 a1 q1 => ?_
  obtain ⟨b, rfl, q⟩ := onBl_of q1
  exact ⟨b, at_bl a1, hk b δ1 H1 r1 t1 q⟩
theorem st_B (h : SE K xw te dt) : ST K xw (tB te) (dTest dt) := st_test h
theorem st_and (h : ST K xw tt dtt) (g : ST K xw tu dtu) : ST K xw (tAnd tt tu) (dAnd dtt dtu) := by
  intro Mx σ δ H E Q k rp xl ht hk
  refine h Mx σ δ H E _ _ rp xl ht fun b δ1 H1 r1 t1 q1 => ?_
  cases b with
  | true =>
    rw [if_pos rfl] at q1 ⊢
    exact g Mx σ δ1 H1 E _ _ r1 (xl.tr t1) q1 fun c δ2 H2 r2 t2 q2 => hk c δ2 H2 r2 (t1.trans t2) q2
  | false =>
    rw [if_neg Bool.false_ne_true] at q1 ⊢
    exact hk false δ1 H1 r1 t1 q1
theorem st_or (h : ST K xw tt dtt) (g : ST K xw tu dtu) : ST K xw (tOr tt tu) (dOr dtt dtu) := by
  intro Mx σ δ H E Q k rp xl ht hk
  refine h Mx σ δ H E _ _ rp xl ht fun b δ1 H1 r1 t1 q1 => ?_
  cases b with
  | true =>
    rw [if_pos rfl] at q1 ⊢
    exact hk true δ1 H1 r1 t1 q1
  | false =>
    rw [if_neg Bool.false_ne_true] at q1 ⊢
    exact g Mx σ δ1 H1 E _ _ r1 (xl.tr t1) q1 fun c δ2 H2 r2 t2 q2 => hk c δ2 H2 r2 (t1.trans t2) q2
theorem st_not (h : ST K xw tt dtt) : ST K xw (tNot tt) (dNot dtt) := by
  intro Mx σ δ H E Q k rp xl ht hk
  exact h Mx σ δ H E _ _ rp xl ht fun b δ1 H1 r1 t1 q1 => hk _ δ1 H1 r1 t1 q1
theorem se_and (h : SE K xw ta da) (g : SE K xw tb db) : SE K xw (tAndV ta tb) (dAndV da db) := by
  intro Mx σ δ H E Q k rp xl ht hk
  refine h Mx σ δ H E _ _ rp xl ht fun v x δ1 H1 r1 t1 a1 q1 => ?_
  obtain ⟨b, rfl, q⟩ := onBl_of q1
  refine ⟨b, at_bl a1, ?_⟩
  cases b with
  | true =>
    rw [if_pos rfl] at q ⊢
    exact g Mx σ δ1 H1 E _ _ r1 (xl.tr t1) q fun c y δ2 H2 r2 t2 a2 q2 => hk c y δ2 H2 r2 (t1.trans t2) a2 q2
  | false =>
    rw [if_neg Bool.false_ne_true] at q ⊢
    exact hk _ _ δ1 H1 r1 t1 (at_bl' false) q
theorem se_or (h : SE K xw ta da) (g : SE K xw tb db) : SE K xw (tOrV ta tb) (dOrV da db) := by
  intro Mx σ δ H E Q k rp xl ht hk
  refine h Mx σ δ H E _ _ rp xl ht fun v x δ1 H1 r1 t1 a1 q1 => ?_
  obtain ⟨b, rfl, q⟩ := onBl_of q1
  refine ⟨b, at_bl a1, ?_⟩
  cases b with
  | true =>
    rw [if_pos rfl] at q ⊢
    exact hk _ _ δ1 H1 r1 t1 (at_bl' true) q
  | false =>
    rw [if_neg Bool.false_ne_true] at q ⊢
    exact g Mx σ δ1 H1 E _ _ r1 (xl.tr t1) q fun c y δ2 H2 r2 t2 a2 q2 => hk c y δ2 H2 r2 (t1.trans t2) a2 q2
theorem se_not (h : SE K xw ta da) : SE K xw (tNotV ta) (dNotV da) := by
  intro Mx σ δ H E Q k rp xl ht hk
  refine h Mx σ δ H E _ _ rp xl ht fun v x δ1 H1 r1 t1 a1 q1 => ?_
  obtain ⟨b, rfl, q⟩ := onBl_of q1
  exact ⟨b, at_bl a1, hk _ _ δ1 H1 r1 t1 (at_bl' _) q⟩
theorem se_if (h : ST K xw tt dtt) (ha : SE K xw ta da) (hb : SE K xw tb db) : SE K xw (tIf tt ta tb) (dIf dtt da db) := by
  intro Mx σ δ H E Q k rp xl ht hk
  refine h Mx σ δ H E _ _ rp xl ht fun b δ1 H1 r1 t1 q1 => ?_
  cases b with
  | true =>
    rw [if_pos rfl] at q1 ⊢
    exact ha Mx σ δ1 H1 E _ _ r1 (xl.tr t1) q1 fun c y δ2 H2 r2 t2 a2 q2 => hk c y δ2 H2 r2 (t1.trans t2) a2 q2
  | false =>
    rw [if_neg Bool.false_ne_true] at q1 ⊢
    exact hb Mx σ δ1 H1 E _ _ r1 (xl.tr t1) q1 fun c y δ2 H2 r2 t2 a2 q2 => hk c y δ2 H2 r2 (t1.trans t2) a2 q2
/-! slices -/
def SO (K : PySem.W.Frag) (xw : XK) (to : TO) (t : DO) : Prop := ∀ (Mx : Addr → Prop) (σ : St) (δ : Dst) (H : Hp) (E : Addr → Prop) (Q : Option Int → Dst → Prop) (k : Option Int → Hp → Prop), Rp K Mx σ δ H → XL xw σ δ H E → t E δ Q →
  (∀ o δ' H', Rp K Mx σ δ' H' → Tr σ δ H σ δ' H' → Q o δ' → k o H') → to σ H k
theorem so_no : SO K xw tNoPart dNo := fun Mx σ δ H E Q k rp xl ht hk => hk none δ H rp Tr.refl ht
theorem so_part (h : SE K xw te dt) : SO K xw (tPart te) (dPart dt) := by
  intro Mx σ δ H E Q k rp xl ht hk
  refine h Mx σ δ H E _ _ rp xl ht fun v x δ1 H1 r1 t1 a1 q1 => ?_
  obtain ⟨i, rfl, q⟩ := onInt_of q1
  exact ⟨i, at_int a1, hk _ δ1 H1 r1 t1 q⟩
abbrev RS := V → Option Int → Option Int → Hp → VK → Prop
def LS (K : PySem.W.Frag) (r : RS) (f : FS) : Prop := ∀ (M : Addr → Prop) (H : Hp) (x : D) (vx : V) (lo hi : Option Int) (Qd : D → Prop) (k : VK), (∀ a, M a → ∃ o, H a = some o) → At K M H x vx → f x lo hi Qd →
  (∀ z vz H', (∀ a o, H a = some o → H' a = some o) → At K M H' z vz → Qd z → k vz H') → r vx lo hi H k
def rSlA (K : PySem.W.Frag) : RS := fun x lo hi H Q => rSlT K x lo hi H Q ∨ (fun x lo hi H Q => rSlL K x lo hi H Q ∨ rSlS x lo hi H Q) x lo hi H Q
theorem slA {X : Cx} : SlR X (rSlA X.K) := SlR.or sl_tup (SlR.or sl_list sl_str)
theorem Ats.cut {M : Addr → Prop} {H : Hp} {ds : List D} {vs : List V} (h : Ats K M H ds vs) (lo hi : Option Int) : Ats K M H (cutD ds lo hi) (cutV vs lo hi) := by
  unfold cutD cutV
  rw [h.len]
  exact (h.drop _).take _
theorem sSl : LS K (rSlA K) fSl := by
  intro M H x vx lo hi Qd k hM hx hf hk
  match x, hf with
  | .tup ds, hf =>
    obtain ⟨a, vs, rfl, _, q1, r1⟩ := at_tup hx
    exact .inl ⟨a, vs, rfl, SqT.of q1, by rw [r1.len]; exact hf.1, fun p hp => hk _ _ _ (newH hp) (at_tup' hM hp (r1.cut lo hi)) hf.2⟩
  | .lst ds, hf =>
    obtain ⟨a, vs, rfl, _, q1, r1⟩ := at_lst hx
    exact .inr (.inl ⟨a, vs, rfl, SqL.of q1, fun p hp => hk _ _ _ (newH hp) (at_lst' hM hp (r1.cut lo hi)) hf⟩)
  | .str z, hf =>
    rw [at_str hx]
    exact .inr (.inr ⟨z, rfl, hf.1, hk _ _ H (keepH H) (at_str' _) hf.2⟩)
theorem se_sl {r : RS} {f : FS} {tl th : TO} {dl dh : DO} (hr : LS K r f) (h : SE K xw te dt) (hl : SO K xw tl dl) (hh : SO K xw th dh) : SE K xw (tSl r te tl th) (dSl f dt dl dh) := by
  intro Mx σ δ H E Q k rp xl ht hk
  refine h Mx σ δ H E _ _ rp xl ht fun v x δ1 H1 r1 t1 a1 q1 => ?_
  refine hl Mx σ δ1 H1 E _ _ r1 (xl.tr t1) q1 fun o δ2 H2 r2 t2 q2 => ?_
  refine hh Mx σ δ2 H2 E _ _ r2 (xl.tr (t1.trans t2)) q2 fun o' δ3 H3 r3 t3 q3 => ?_
  refine hr (Mm σ δ3 Mx) H3 x v o o' _ _ (fun a m => r3.mdom m) ((a1.tr t2).tr t3) q3 fun z vz H4 k4 a4 q4 => ?_
  exact hk vz z δ3 H4 (r3.heap k4) (((t1.trans t2).trans t3).trans (Tr.heap k4)) a4 q4
end

/-! ### statements -/
def okSet (δ : Dst) (i : Nat) : Prop := match δ[i]? with
  | some (some s) => s.mut = false
  | some none => True
  | none => False
def dSeq (t u : DS) : DS := fun E De δ => t E { De with nx := u E De } δ
def dNext : DS := fun _ De δ => De.nx δ
def dSet (i : Nat) (t : DE) : DS := fun E De δ => t E δ fun d δ1 => okSet δ1 i ∧ De.nx (δ1.set i (some (.val d)))
def dRet (t : DE) : DS := fun E De δ => t E δ De.rt
def dDrop (t : DE) : DS := fun E De δ => t E δ fun _ δ1 => De.nx δ1
def dIfS (t : DT) (u w : DS) : DS := fun E De δ => t E δ fun b δ1 => if b = true then u E De δ1 else w E De δ1
section
variable {K : PySem.W.Frag} {xw : XK} {np : Nat} {te : TE} {dt : DE} {tt : TT} {dtt : DT} {t u : TS} {dt' du dw : DS} {i : Nat}
theorem not_mut {δ : Dst} (h : okSet δ i) : ¬ IsMut δ i := by
  rintro ⟨s, e, m⟩
  unfold okSet at h
  rw [e] at h
  have h' : s.mut = false := h
  rw [m] at h'
  cases h'
theorem ss_next : SS K xw np tNext dNext := fun Mx σ δ H E De Dn P rp pm xl ht lk => lk.nx σ δ H rp Tr.refl ht
theorem ss_seq (h : SS K xw np t dt') (g : SS K xw np u du) : SS K xw np (tSeq t u) (dSeq dt' du) := by
  intro Mx σ δ H E De Dn P rp pm xl ht lk
  exact h Mx σ δ H E { De with nx := du E De } { Dn with nx := u Dn } P rp pm xl ht ⟨fun σ1 δ1 H1 r1 t1 q1 => g Mx σ1 δ1 H1 E De Dn P r1 (pm.tr t1) (xl.tr t1) q1 (lk.tr t1), lk.bk, lk.ct, lk.rt⟩
theorem ss_set (h : SE K xw te dt) : SS K xw np (tAsg te (gName i)) (dSet i dt) := by
  intro Mx σ δ H E De Dn P rp pm xl ht lk
  refine h Mx σ δ H E _ _ rp xl ht fun v d δ1 H1 r1 t1 a1 q1 => ?_
  have n := not_mut q1.1
  exact lk.nx _ _ _ (r1.val n a1) (t1.trans (Tr.val n)) q1.2
theorem ss_ret (h : SE K xw te dt) : SS K xw np (tRet te) (dRet dt) := by
  intro Mx σ δ H E De Dn P rp pm xl ht lk
  exact h Mx σ δ H E _ _ rp xl ht fun v d δ1 H1 r1 t1 a1 q1 => lk.rt v d σ δ1 H1 r1 t1 (a1.par (pm.tr t1)) q1
theorem ss_drop (h : SE K xw te dt) : SS K xw np (tDrop te) (dDrop dt) := by
  intro Mx σ δ H E De Dn P rp pm xl ht lk
  exact h Mx σ δ H E _ _ rp xl ht fun v d δ1 H1 r1 t1 a1 q1 => lk.nx σ δ1 H1 r1 t1 q1
theorem ss_if (h : ST K xw tt dtt) (g : SS K xw np t du) (f : SS K xw np u dw) : SS K xw np (tIfS tt t u) (dIfS dtt du dw) := by
  intro Mx σ δ H E De Dn P rp pm xl ht lk
  refine h Mx σ δ H E _ _ rp xl ht fun b δ1 H1 r1 t1 q1 => ?_
  cases b with
  | true =>
    rw [if_pos rfl] at q1 ⊢
    exact g Mx σ δ1 H1 E De Dn P r1 (pm.tr t1) (xl.tr t1) q1 (lk.tr t1)
  | false =>
    rw [if_neg Bool.false_ne_true] at q1 ⊢
    exact f Mx σ δ1 H1 E De Dn P r1 (pm.tr t1) (xl.tr t1) q1 (lk.tr t1)
theorem ss_never {t : DS} (h : ∀ E De δ, ¬ t E De δ) : SS K xw np tNever t := fun Mx σ δ H E De Dn P rp pm xl ht lk => absurd ht (h _ _ _)
end
end Dq

/- Part 7: a def keeps a promise on data, by its body. -/
namespace Dq
open PySem PySem.Spec PyProof.Rows L2

def outs : List Sl → Dst → List Sl
  | [], _ => []
  | s :: r, [] => s :: outs r []
  | s :: r, o :: δ => (match s.mut, o with | true, some s' => s' | _, _ => s) :: outs r δ
def dst0 (n : Nat) (ss : List Sl) : Dst := ss.map some ++ List.replicate (n - ss.length) none
theorem pad_get {α : Type} {l : List α} {n j : Nat} {v : α} : (l.map some ++ List.replicate n none)[j]? = some (some v) ↔ l[j]? = some v := by
  by_cases h : j < l.length
  · rw [List.getElem?_append_left (by simpa using h)]
    exact mapS
  · rw [List.getElem?_append_right (by simpa using h), List.getElem?_replicate, List.getElem?_eq_none (by omega)]
    split <;> simp
theorem outs_get : ∀ {ss : List Sl} {δ : Dst} {j : Nat} {s : Sl}, ss[j]? = some s → (s.mut = false → (outs ss δ)[j]? = some s) ∧ ∀ s', s.mut = true → δ[j]? = some (some s') → (outs ss δ)[j]? = some s'
  | [], _, _, _, h => by simp at h
  | s :: r, [], 0, x, h => by
    simp at h; subst h
    exact ⟨fun _ => rfl, fun s' _ e => by simp at e⟩
  | s :: r, [], j + 1, x, h => by
    obtain ⟨a, b⟩ := outs_get (ss := r) (δ := []) (j := j) (by simpa using h)
    exact ⟨fun m => by simpa [outs] using a m, fun s' m e => by simp at e⟩
  | s :: r, o :: δ, 0, x, h => by
    simp at h; subst h
    refine ⟨fun m => ?_, fun s' m e => ?_⟩
    · simp [outs, m]
    · simp at e; subst e; simp [outs, m]
  | s :: r, o :: δ, j + 1, x, h => by
    obtain ⟨a, b⟩ := outs_get (ss := r) (δ := δ) (j := j) (by simpa using h)
    exact ⟨fun m => by simpa [outs] using a m, fun s' m e => by simpa [outs] using b s' m (by simpa using e)⟩
theorem outs_len : ∀ (ss : List Sl) (δ : Dst), (outs ss δ).length = ss.length
  | [], _ => by simp [outs]
  | s :: r, [] => by simp [outs, outs_len r []]
  | s :: r, o :: δ => by simp [outs, outs_len r δ]

theorem okD {P : Program} {w : World} {K : PySem.W.Frag} {mg : Str → Option Value} {base : Heap} {x qual : Str} {st : Stmt} {f : Addr} {fd : FuncData} {N ps : List Str} {n : Nat} {sp : DSp} (F : Fun K x qual st f fd) (S : FnScope N ps (defScope st)) (len : ∀ ss E Q, sp ss E Q → ss.length = ps.length)
    (hbody : ∀ (cdv : Value) (A : Around) (outer : List Env) (s : Shared) (H : Hp) (E : XK), Rm n (A.deeper (envOfC qual (defScope st) s.heap.objs.size f cdv)) →
      ∃ ts t, PSs (cxOf (L2.CX P w) P w K mg base N qual (defScope st) f cdv A outer s H E) (defBody st) ts ∧ SS K E ps.length ts t ∧
        ∀ (ss : List Sl) (Ed : Addr → Prop) (Q : D → List Sl → Prop), sp ss Ed Q → t Ed { nx := fun δ => Q .non (outs ss δ), rt := fun d δ => Q d (outs ss δ) } (dst0 N.length ss)) (h8 : ps.length ≤ 8 := by decide) :
    FnR P w K mg base (n + 1) f fd ps (liftSp K sp) := by
  refine okR F S (fun vs H Q E h => ?_) fun cdv A outer s H vs Q E hr hsp => ?_
  · obtain ⟨ss, Ed, Mx, Qd, rp, _, hs, _⟩ := h
    have e := rp.len
    simp only [List.length_map] at e
    rw [← e]
    exact len _ _ _ hs
  obtain ⟨ss, Ed, Mx, Qd, rp, xl, hs, hk⟩ := hsp
  obtain ⟨ts, t, hp, hss, hd⟩ := hbody cdv A outer s H E hr
  refine ⟨ts, hp, ?_⟩
  have el : ss.length = vs.length := by simpa using rp.len
  have el2 : ss.length = ps.length := len _ _ _ hs
  have m0 : ∀ j, IsMut (dst0 N.length ss) j ↔ IsMut (ss.map some) j := fun j => by
    unfold IsMut dst0
    constructor
    · rintro ⟨s, e, m⟩
      exact ⟨s, mapS.mpr (pad_get.mp e), m⟩
    · rintro ⟨s, e, m⟩
      exact ⟨s, pad_get.mpr (mapS.mp e), m⟩
  have mu0 : ∀ a, Mu (L2.start N vs) (dst0 N.length ss) a ↔ Mu (vs.map some) (ss.map some) a := fun a => by
    unfold Mu L2.start
    constructor
    · rintro ⟨j, m, q⟩
      exact ⟨j, (m0 j).mp m, mapS.mpr (pad_get.mp q)⟩
    · rintro ⟨j, m, q⟩
      exact ⟨j, (m0 j).mpr m, pad_get.mpr (mapS.mp q)⟩
  have mm0 : ∀ a, Mm (L2.start N vs) (dst0 N.length ss) Mx a → Mm (vs.map some) (ss.map some) Mx a := fun a m => m.elim (fun m => .inl ((mu0 a).mp m)) .inr
  have rp0 : Rp K Mx (L2.start N vs) (dst0 N.length ss) H := by
    refine ⟨fun j s e => ?_, fun i j a m1 m2 q1 q2 => ?_, rp.ex, fun a m z => rp.dis a m ((mu0 a).mp z), by simp [dst0, L2.start, el]⟩
    · obtain ⟨v, e2, z⟩ := rp.get j s (mapS.mpr (pad_get.mp e))
      exact ⟨v, pad_get.mpr (mapS.mp e2), z.mono (fun _ _ e _ => e) (fun a _ _ m => mm0 a m) fun _ _ _ _ e => e⟩
    · exact rp.sep i j a ((m0 i).mp m1) ((m0 j).mp m2) (mapS.mpr (pad_get.mp q1)) (mapS.mpr (pad_get.mp q2))
  have fin : ∀ v d σ' δ' H', Rp K Mx σ' δ' H' → Tr (L2.start N vs) (dst0 N.length ss) H σ' δ' H' → At K (fun a => Mu (vs.map some) (ss.map some) a ∨ Mx a) H' d v → Qd d (outs ss δ') → Q v H' := by
    intro v d σ' δ' H' r' t' a' q'
    -- a changed place of the arguments
    have ch : ∀ (j : Nat) (s : Sl) (u : V), ss[j]? = some s → s.mut = true → vs[j]? = some u → ∃ s' : Sl, δ'[j]? = some (some s') ∧ s'.mut = true ∧ σ'[j]? = some (some u) ∧ (outs ss δ')[j]? = some s' := by
      intro j s u e m eu
      obtain ⟨h1, s', h2, h3⟩ := t'.par j u (by have := (List.getElem?_eq_some_iff.mp e).1; omega) ((m0 j).mpr ⟨s, mapS.mpr e, m⟩) (pad_get.mpr eu)
      exact ⟨s', h2, h3, h1, (outs_get e).2 s' m h2⟩
    have vat : ∀ (j : Nat) (s : Sl), ss[j]? = some s → ∃ u, vs[j]? = some u := fun j s e => by
      have := (List.getElem?_eq_some_iff.mp e).1
      exact ⟨_, List.getElem?_eq_getElem (by omega)⟩
    have mo : ∀ j, IsMut ((outs ss δ').map some) j → IsMut (ss.map some) j := by
      rintro j ⟨s', e', m'⟩
      rw [mapS] at e'
      have hj := (List.getElem?_eq_some_iff.mp e').1
      rw [outs_len] at hj
      obtain ⟨s, e⟩ : ∃ s, ss[j]? = some s := ⟨_, List.getElem?_eq_getElem hj⟩
      cases hm : s.mut with
      | true => exact ⟨s, mapS.mpr e, hm⟩
      | false =>
        have q := (outs_get (δ := δ') e).1 hm
        rw [q] at e'; cases e'
        rw [hm] at m'; cases m'
    have mo2 : ∀ j, IsMut (ss.map some) j → IsMut ((outs ss δ').map some) j := by
      rintro j ⟨s, e, m⟩
      rw [mapS] at e
      obtain ⟨u, eu⟩ := vat j s e
      obtain ⟨s', _, h2, _, h4⟩ := ch j s u e m eu
      exact ⟨s', mapS.mpr h4, h2⟩
    have muo : ∀ a, Mu (vs.map some) ((outs ss δ').map some) a ↔ Mu (vs.map some) (ss.map some) a := fun a => ⟨fun ⟨j, m, q⟩ => ⟨j, mo j m, q⟩, fun ⟨j, m, q⟩ => ⟨j, mo2 j m, q⟩⟩
    have up : ∀ a, Mm (vs.map some) ((outs ss δ').map some) Mx a → Mm σ' δ' Mx a := fun a m => m.elim (fun m => by
      obtain ⟨j, ⟨s, e, hm⟩, q⟩ := (muo a).mp m
      rw [mapS] at e q
      obtain ⟨s', h1, h2, h3, _⟩ := ch j s _ e hm q
      exact .inl ⟨j, ⟨s', h1, h2⟩, h3⟩) .inr
    refine hk d (outs ss δ') v H' q' ⟨fun j s' e' => ?_, fun i j a m1 m2 => rp.sep i j a (mo i m1) (mo j m2), fun a m => ?_, fun a m z => rp.dis a m ((muo a).mp z), by simp [outs_len, el]⟩
      ⟨fun a o e nn => t'.ext a o e fun z => nn ((mu0 a).mp z), t'.dom, fun a m => .inl ((muo a).mp m), fun j u _ m e => ⟨e, mo2 j m⟩⟩ (a'.mono (fun _ _ e _ => e) fun a _ _ m => m.elim (fun m => .inl ((muo a).mp m)) .inr)
    · rw [mapS] at e'
      have hj := (List.getElem?_eq_some_iff.mp e').1
      rw [outs_len] at hj
      obtain ⟨s, e⟩ : ∃ s, ss[j]? = some s := ⟨_, List.getElem?_eq_getElem hj⟩
      obtain ⟨u, eu⟩ := vat j s e
      cases hm : s.mut with
      | true =>
        obtain ⟨s'', h1, h2, h3, h4⟩ := ch j s u e hm eu
        rw [h4] at e'; cases e'
        obtain ⟨w, g1, g2⟩ := r'.get j _ h1
        rw [h3] at g1; cases g1
        exact ⟨_, mapS.mpr eu, g2.mono (fun _ _ e _ => e) (fun a _ _ m => up a m) fun _ _ _ _ e => e⟩
      | false =>
        rw [(outs_get (δ := δ') e).1 hm] at e'; cases e'
        obtain ⟨w, g1, g2⟩ := rp.get j _ (mapS.mpr e)
        exact ⟨w, g1, g2.mono (fun a o e nn => t'.ext a o e fun z => nn (.inl ((mu0 a).mp z))) (fun a _ _ m => m.elim (fun m => .inl ((muo a).mp m)) .inr) fun m => by rw [hm] at m; cases m⟩
    · obtain ⟨o, e⟩ := rp.ex a m
      exact t'.dom a o e
  refine hss Mx (L2.start N vs) (dst0 N.length ss) H Ed _ _ (Mu (vs.map some) (ss.map some)) rp0 ⟨h8, fun a m => ?_⟩ (fun c H' hx he => xl c H' (fun a o e nn => hx a o e fun z => nn ((mu0 a).mp z)) he) (hd ss Ed Qd hs) ⟨fun σ' δ' H' r' t' q' => ?_, fun _ _ _ _ _ q' => q'.elim, fun _ _ _ _ _ q' => q'.elim, fun v d σ' δ' H' r' t' a' q' => fin v d σ' δ' H' r' t' a' q'⟩
  · obtain ⟨j, m', q⟩ := (mu0 a).mpr m
    have hj : j < ss.length := by
      obtain ⟨s, e, _⟩ := (m0 j).mp m'
      exact (List.getElem?_eq_some_iff.mp (mapS.mp e)).1
    exact ⟨j, by omega, m', q⟩
  · exact fin .non .non σ' δ' H' r' t' at_non' q'
end Dq

/- Part 8: new lists, comprehensions, loops. -/
namespace Dq
open PySem PySem.Spec PyProof.Rows L2

abbrev DF := (Addr → Prop) → Dst → (Sl → Dst → Prop) → Prop
/-- what makes a new list (or dict), which nothing else speaks of -/
def SF (K : PySem.W.Frag) (xw : XK) (te : TE) (t : DF) : Prop := ∀ (Mx : Addr → Prop) (σ : St) (δ : Dst) (H : Hp) (E : Addr → Prop) (Q : Sl → Dst → Prop) (k : VK), Rp K Mx σ δ H → XL xw σ δ H E → t E δ Q →
  (∀ a s δ' H', Rp K (fun b => Mx b ∨ b = a) σ δ' H' → Tr σ δ H σ δ' H' → H a = none → s.mut = true → SlAt K (Mm σ δ' fun b => Mx b ∨ b = a) H' s (.ref a) → Q s δ' → k (.ref a) H') → te σ H k
def Sl.toD : Sl → D
  | .val d => d
  | .own ds => .lst ds
  | .dic ks ds => .dct ks ds
  | .obj _ _ => .non
  | .exc _ => .non
def Sl.isObj : Sl → Bool
  | .obj _ _ => true
  | _ => false
def dF (t : DF) : DE := fun E δ Q => t E δ fun s δ' => s.isObj = false ∧ Q s.toD δ'
def dSetF (i : Nat) (t : DF) : DS := fun E De δ => t E δ fun s δ1 => okSet δ1 i ∧ De.nx (δ1.set i (some s))
def fLst (r : DA) : DF := fun E δ Q => r E δ fun as δ1 => onVals as fun ds => decide (ds.length ≤ 1000) = true ∧ Q (.own ds) δ1

section
variable {K : PySem.W.Frag} {xw : XK} {te : TE} {t : DF} {tar : TA} {dar : DA} {np i : Nat}
theorem se_f (h : SF K xw te t) : SE K xw te (dF t) := by
  intro Mx σ δ H E Q k rp xl ht hk
  refine h Mx σ δ H E _ _ rp xl ht fun a s δ' H' r t1 ha hm hs q => ?_
  refine hk _ _ δ' H' (r.less fun _ => .inl) t1 ?_ q.2
  have nm : ¬ Mm σ δ' Mx a := fun m => m.elim (r.dis a (.inr rfl)) fun m => by
    obtain ⟨o, e⟩ := rp.ex a m
    rw [ha] at e; cases e
  have up : ∀ b, Mm σ δ' Mx b → Mm σ δ' (fun b => Mx b ∨ b = a) b := fun b m => m.elim .inl fun m => .inr (.inl m)
  cases s with
  | val d => cases hm
  | own ds =>
    obtain ⟨b, vs, e, q1, q2⟩ := hs
    cases e
    show At K _ H' (.lst ds) _
    rw [At]
    exact ⟨a, vs, rfl, nm, q1, q2.mono (fun _ _ e _ => e) fun b _ _ m => up b m⟩
  | dic ks ds =>
    obtain ⟨b, vs, e, q1, l, q2⟩ := hs
    cases e
    show At K _ H' (.dct ks ds) _
    rw [At]
    exact ⟨a, vs, rfl, nm, q1, l, q2.mono (fun _ _ e _ => e) fun b _ _ m => up b m⟩
  | obj C fs => cases q.1
  | exc a => cases hm
theorem none_back {σ σ' : St} {δ δ' : Dst} {H H' : Hp} {p : Addr} (t : Tr σ δ H σ' δ' H') (h : H' p = none) : H p = none := by
  cases e : H p with
  | none => rfl
  | some o =>
    obtain ⟨o', e'⟩ := t.dom p o e
    rw [h] at e'; cases e'
theorem Ats.more {σ : St} {δ : Dst} {H : Hp} {Mx : Addr → Prop} {p : Addr} {o : HO} {ds : List D} {vs : List V} (z : Ats K (Mm σ δ Mx) H ds vs) (hp : H p = none) : Ats K (Mm σ δ fun b => Mx b ∨ b = p) (upd H p o) ds vs :=
  z.mono (fun b u e _ => by rw [upd_ne (ne_of_none e hp)]; exact e) fun b u e m => m.elim .inl fun m => m.elim .inr fun m => by rw [m, hp] at e; cases e
theorem sf_lst (h : SA K xw tar dar) : SF K xw (tLst tar) (fLst dar) := by
  intro Mx σ δ H E Q k rp xl ht hk
  refine h Mx σ δ H E _ _ rp xl ht fun vs as δ1 H1 r1 t1 a1 q1 => ?_
  obtain ⟨ds, ⟨l, q⟩, z⟩ := vals_of a1 q1
  exact ⟨by rw [z.len]; exact small_line l, fun p hp => hk p (.own ds) δ1 _ (r1.more hp) (t1.trans (Tr.new hp)) (none_back t1 hp) rfl ⟨p, vs, rfl, upd_same, z.more hp⟩ q⟩
/-- a new list (or dict) is stored -/
theorem Rp.own {σ : St} {δ : Dst} {H : Hp} {Mx : Addr → Prop} {a : Addr} {s : Sl} (r : Rp K (fun b => Mx b ∨ b = a) σ δ H) (na : ¬ Mx a) (n : ¬ IsMut δ i) (hs : SlAt K (Mm σ δ fun b => Mx b ∨ b = a) H s (.ref a)) (hm : s.mut = true) (hi : i < δ.length) :
    Rp K Mx (σ.set i (some (.ref a))) (δ.set i (some s)) H ∧ ∀ b, Mu (σ.set i (some (.ref a))) (δ.set i (some s)) b ↔ (Mu σ δ b ∨ b = a) := by
  have hl : i < σ.length := by rw [← r.len]; exact hi
  have mt : ∀ j, j ≠ i → (IsMut (δ.set i (some s)) j ↔ IsMut δ j) := fun j hj => by
    unfold IsMut
    rw [List.getElem?_set_ne (Ne.symm hj)]
  have mu : ∀ b, Mu (σ.set i (some (.ref a))) (δ.set i (some s)) b ↔ (Mu σ δ b ∨ b = a) := by
    intro b
    constructor
    · rintro ⟨j, m, q⟩
      by_cases hj : j = i
      · subst hj
        rw [List.getElem?_set_self hl] at q
        cases q
        exact .inr rfl
      · rw [List.getElem?_set_ne (Ne.symm hj)] at q
        exact .inl ⟨j, (mt j hj).mp m, q⟩
    · rintro (⟨j, m, q⟩ | e)
      · have hj : j ≠ i := fun z => n (z ▸ m)
        exact ⟨j, (mt j hj).mpr m, by rw [List.getElem?_set_ne (Ne.symm hj)]; exact q⟩
      · exact ⟨i, ⟨s, List.getElem?_set_self hi, hm⟩, by rw [e]; exact List.getElem?_set_self hl⟩
  have nmu : ¬ Mu σ δ a := r.dis a (.inr rfl)
  have le : ∀ b, Mm (σ.set i (some (.ref a))) (δ.set i (some s)) Mx b → Mm σ δ (fun b => Mx b ∨ b = a) b := fun b m => m.elim (fun m => ((mu b).mp m).elim .inl fun m => .inr (.inr m)) fun m => .inr (.inl m)
  refine ⟨⟨fun j s' e => ?_, fun j k b m1 m2 q1 q2 => ?_, fun b m => r.ex b (.inl m), fun b m z => ?_, by simp [r.len]⟩, mu⟩
  · by_cases hj : j = i
    · subst hj
      rw [List.getElem?_set_self hi] at e; cases e
      exact ⟨.ref a, List.getElem?_set_self hl, hs.mono (fun _ _ e _ => e) (fun b _ _ m => le b m) fun _ _ _ _ e => e⟩
    · rw [List.getElem?_set_ne (Ne.symm hj)] at e
      obtain ⟨v, e2, z⟩ := r.get j s' e
      exact ⟨v, by rw [List.getElem?_set_ne (Ne.symm hj)]; exact e2, z.mono (fun _ _ e _ => e) (fun b _ _ m => le b m) fun _ _ _ _ e => e⟩
  · by_cases hj : j = i
    · by_cases hk : k = i
      · rw [hj, hk]
      · subst hj
        rw [List.getElem?_set_self hl] at q1
        cases q1
        rw [List.getElem?_set_ne (Ne.symm hk)] at q2
        exact absurd ⟨k, (mt k hk).mp m2, q2⟩ nmu
    · rw [List.getElem?_set_ne (Ne.symm hj)] at q1
      by_cases hk : k = i
      · subst hk
        rw [List.getElem?_set_self hl] at q2
        cases q2
        exact absurd ⟨j, (mt j hj).mp m1, q1⟩ nmu
      · rw [List.getElem?_set_ne (Ne.symm hk)] at q2
        exact r.sep j k b ((mt j hj).mp m1) ((mt k hk).mp m2) q1 q2
  · rcases (mu b).mp z with z | z
    · exact r.dis b (.inl m) z
    · rw [z] at m; exact na m
theorem ok_lt {δ : Dst} (h : okSet δ i) : i < δ.length := by
  by_cases hl : i < δ.length
  · exact hl
  · unfold okSet at h
    rw [List.getElem?_eq_none (by omega)] at h
    exact h.elim
theorem ss_setF (h : SF K xw te t) : SS K xw np (tAsg te (gName i)) (dSetF i t) := by
  intro Mx σ δ H E De Dn P rp pm xl ht lk
  refine h Mx σ δ H E _ _ rp xl ht fun a s δ1 H1 r1 t1 ha hm hs q1 => ?_
  have n := not_mut q1.1
  have na : ¬ Mx a := fun m => by
    obtain ⟨o, e⟩ := rp.ex a m
    rw [ha] at e; cases e
  obtain ⟨r2, mu⟩ := r1.own na n hs hm (ok_lt q1.1)
  refine lk.nx _ _ _ r2 ⟨t1.ext, t1.dom, fun b m => ((mu b).mp m).elim (t1.fr b) fun e => .inr (by rw [e]; exact ha), fun j u l m e => ?_⟩ q1.2
  obtain ⟨e1, m1⟩ := t1.par j u l m e
  have hj : i ≠ j := fun z => n (z ▸ m1)
  obtain ⟨s', e', m'⟩ := m1
  exact ⟨by rw [List.getElem?_set_ne hj]; exact e1, s', by rw [List.getElem?_set_ne hj]; exact e', m'⟩
end
end Dq

/- Part 9: a list of one's own, changed and read; loops; comprehensions. -/
namespace Dq
open PySem PySem.Spec PyProof.Rows L2

def onOwn : Option (Option Sl) → (List D → Prop) → Prop
  | some (some (.own ds)), k => k ds
  | _, _ => False
theorem onOwn_of {o : Option (Option Sl)} {k : List D → Prop} (h : onOwn o k) : ∃ ds, o = some (some (.own ds)) ∧ k ds := by
  cases o with
  | none => exact h.elim
  | some o =>
    cases o with
    | none => exact h.elim
    | some s =>
      cases s with
      | own ds => exact ⟨ds, rfl, h⟩
      | _ => exact h.elim
/-- l.append(e), l in the slot i -/
def dApp (i : Nat) (t : DE) : DS := fun E De δ => onOwn δ[i]? fun _ => t E δ fun d δ1 => onOwn δ1[i]? fun ds => decide (ds.length < 100000) = true ∧ De.nx (δ1.set i (some (.own (ds ++ [d]))))
/-- l[j] = e -/
def dPutIx (i : Nat) (tj t : DE) : DS := fun E De δ => t E δ fun d δ1 => onOwn δ1[i]? fun _ => tj E δ1 fun y δ2 => onInt y fun k => onOwn δ2[i]? fun ds => onSome (ixN ds.length k) fun j => De.nx (δ2.set i (some (.own (ds.set j d))))
/-- return l -/
def dRetOwn (np i : Nat) : DS := fun _ De δ => onOwn δ[i]? fun ds => np ≤ i ∧ De.rt (.lst ds) δ
/-- l[j] -/
def dIxOwn (i : Nat) (t : DE) : DE := fun E δ Q => onOwn δ[i]? fun _ => t E δ fun y δ1 => onInt y fun k => onOwn δ1[i]? fun ds => onSome (atI ds k) fun d => Q d δ1
/-- e in l, e not in l -/
def dInOwn (neg : Bool) (i : Nat) (t : DE) : DE := fun E δ Q => t E δ fun x δ1 => onOwn δ1[i]? fun ds => fIn neg x (.lst ds) fun z => Q z δ1
/-- len(l) -/
def dLenOwn (i : Nat) : DE := fun _ δ Q => onOwn δ[i]? fun ds => Q (.int ds.length) δ
section
variable {K : PySem.W.Frag} {xw : XK} {te ti : TE} {dt di : DE} {np i : Nat} {σ : St} {δ : Dst} {H : Hp} {Mx : Addr → Prop}
theorem own_at (rp : Rp K Mx σ δ H) {ds : List D} (e : δ[i]? = some (some (.own ds))) : ∃ a vs, σ[i]? = some (some (.ref a)) ∧ H a = some (.lst vs) ∧ Ats K (Mm σ δ Mx) H ds vs := by
  obtain ⟨v, e2, z⟩ := rp.get i _ e
  obtain ⟨a, vs, rfl, q1, q2⟩ := z
  exact ⟨a, vs, e2, q1, q2⟩
/-- one's own object changes -/
theorem Rp.chg {a : Addr} {s s' : Sl} {o : HO} (rp : Rp K Mx σ δ H) (e : δ[i]? = some (some s)) (hm : s.mut = true) (hm' : s'.mut = true) (ea : σ[i]? = some (some (.ref a))) (hs : SlAt K (Mm σ δ Mx) (upd H a o) s' (.ref a)) :
    Rp K Mx σ (δ.set i (some s')) (upd H a o) ∧ Tr σ δ H σ (δ.set i (some s')) (upd H a o) := by
  have hi : i < δ.length := (List.getElem?_eq_some_iff.mp e).1
  have mt : ∀ j, IsMut (δ.set i (some s')) j ↔ IsMut δ j := fun j => by
    by_cases hj : i = j
    · subst hj
      exact ⟨fun _ => ⟨s, e, hm⟩, fun _ => ⟨s', List.getElem?_set_self hi, hm'⟩⟩
    · unfold IsMut
      rw [List.getElem?_set_ne hj]
  have mu : ∀ b, Mu σ (δ.set i (some s')) b ↔ Mu σ δ b := fun b => ⟨fun ⟨j, m, q⟩ => ⟨j, (mt j).mp m, q⟩, fun ⟨j, m, q⟩ => ⟨j, (mt j).mpr m, q⟩⟩
  have ma : Mu σ δ a := ⟨i, ⟨s, e, hm⟩, ea⟩
  have le : ∀ b, Mm σ (δ.set i (some s')) Mx b → Mm σ δ Mx b := fun b m => m.elim (fun m => .inl ((mu b).mp m)) .inr
  refine ⟨⟨fun j s2 e2 => ?_, fun j k b m1 m2 => rp.sep j k b ((mt j).mp m1) ((mt k).mp m2), fun b m => ?_, fun b m z => rp.dis b m ((mu b).mp z), by simp [rp.len]⟩,
    ⟨fun b u q n => ?_, fun b u q => ?_, fun b m => .inl ((mu b).mp m), fun j u _ m q => ⟨q, (mt j).mpr m⟩⟩⟩
  · by_cases hj : i = j
    · subst hj
      rw [List.getElem?_set_self hi] at e2; cases e2
      exact ⟨.ref a, ea, hs.mono (fun _ _ e _ => e) (fun b _ _ m => le b m) fun _ _ _ _ e => e⟩
    · rw [List.getElem?_set_ne hj] at e2
      obtain ⟨v, e3, z⟩ := rp.get j s2 e2
      refine ⟨v, e3, z.mono (fun b u q n => ?_) (fun b _ _ m => le b m) fun m2 b u hv q => ?_⟩
      · rw [upd_ne (fun z => n (by rw [z]; exact .inl ma))]; exact q
      · rw [upd_ne (fun z => ?_)]
        · exact q
        · rw [hv, z] at e3
          exact hj (rp.sep i j a ⟨s, e, hm⟩ ⟨s2, e2, m2⟩ ea e3)
  · obtain ⟨u, q⟩ := rp.ex b m
    exact ⟨u, by rw [upd_ne (fun z => rp.dis b m (by rw [z]; exact ma))]; exact q⟩
  · rw [upd_ne (fun z => n (by rw [z]; exact ma))]; exact q
  · by_cases hb : b = a
    · rw [hb]; exact ⟨o, upd_same⟩
    · exact ⟨u, by rw [upd_ne hb]; exact q⟩
theorem Ats.upd {a : Addr} {o : HO} {M : Addr → Prop} {ds : List D} {vs : List V} (z : Ats K M H ds vs) (m : M a) : Ats K M (upd H a o) ds vs := z.mono (fun b u q n => by rw [upd_ne (fun z => n (by rw [z]; exact m))]; exact q) fun _ _ _ m => m
theorem At.upd {a : Addr} {o : HO} {M : Addr → Prop} {d : D} {v : V} (z : At K M H d v) (m : M a) : At K M (L2.upd H a o) d v := z.mono (fun b u q n => by rw [upd_ne (fun z => n (by rw [z]; exact m))]; exact q) fun _ _ _ m => m
theorem ats_one {M : Addr → Prop} {d : D} {v : V} (h : At K M H d v) : Ats K M H [d] [v] := by
  rw [Ats]
  exact ⟨v, [], rfl, h, by rw [Ats]⟩
theorem ss_app (h : SE K xw te dt) : SS K xw np (tDrop (tBM K "list" rAppend (tVar i) (tCons te tNil))) (dApp i dt) := by
  intro Mx σ δ H E De Dn P rp pm xl ht lk
  obtain ⟨ds, e, ht⟩ := onOwn_of ht
  obtain ⟨a, vs, ea, ha, za⟩ := own_at rp e
  refine ⟨.ref a, ea, .inl ⟨rfl, _, .inl (.inl ha)⟩, ?_⟩
  refine h Mx σ δ H E _ _ rp xl ht fun v d δ1 H1 r1 t1 a1 q1 => ?_
  obtain ⟨ds1, e1, hl, q⟩ := onOwn_of q1
  obtain ⟨a', vs1, ea1, ha1, z1⟩ := own_at r1 e1
  rw [ea] at ea1; cases ea1
  have ma : Mm σ δ1 Mx a := .inl ⟨i, ⟨_, e1, rfl⟩, ea⟩
  obtain ⟨r2, t2⟩ := r1.chg (i := i) (a := a) (s' := .own (ds1 ++ [d])) (o := .lst (vs1 ++ [v])) e1 rfl rfl ea ⟨a, _, rfl, upd_same, (z1.upd ma).append (ats_one (a1.upd ma))⟩
  refine ⟨a, vs1, v, rfl, rfl, ha1, ?_, lk.nx _ _ _ r2 (t1.trans t2) q⟩
  have : vs1.length < 100000 := by rw [z1.len]; exact of_decide_eq_true hl
  exact Nat.lt_of_lt_of_le this (by decide)
theorem Ats.set {M : Addr → Prop} {d : D} {v : V} (h : At K M H d v) : ∀ {ds : List D} {vs : List V} (j : Nat), Ats K M H ds vs → Ats K M H (ds.set j d) (vs.set j v)
  | [], _, j, z => by rw [Ats] at z; rw [z]; simp [Ats]
  | x :: r, _, 0, z => by
    rw [Ats] at z
    obtain ⟨u, t, rfl, h1, h2⟩ := z
    rw [List.set_cons_zero, List.set_cons_zero, Ats]
    exact ⟨v, t, rfl, h, h2⟩
  | x :: r, _, j + 1, z => by
    rw [Ats] at z
    obtain ⟨u, t, rfl, h1, h2⟩ := z
    rw [List.set_cons_succ, List.set_cons_succ, Ats]
    exact ⟨u, _, rfl, h1, Ats.set h j h2⟩
theorem onSome_of {α : Type} {o : Option α} {k : α → Prop} (h : onSome o k) : ∃ x, o = some x ∧ k x := by
  cases o with
  | none => exact h.elim
  | some x => exact ⟨x, rfl, h⟩
theorem ss_putIx (hi : SE K xw ti di) (h : SE K xw te dt) : SS K xw np (tAsg te (gSub (tVar i) ti rSetL)) (dPutIx i di dt) := by
  intro Mx σ δ H E De Dn P rp pm xl ht lk
  refine h Mx σ δ H E _ _ rp xl ht fun v d δ1 H1 r1 t1 a1 q1 => ?_
  obtain ⟨ds, e, q1⟩ := onOwn_of q1
  obtain ⟨a, vs, ea, ha, za⟩ := own_at r1 e
  refine ⟨.ref a, ea, ?_⟩
  refine hi Mx σ δ1 H1 E _ _ r1 (xl.tr t1) q1 fun vi y δ2 H2 r2 t2 a2 q2 => ?_
  obtain ⟨k, rfl, q2⟩ := onInt_of q2
  obtain ⟨ds2, e2, q2⟩ := onOwn_of q2
  obtain ⟨j, ej, q2⟩ := onSome_of q2
  obtain ⟨a', vs2, ea2, ha2, z2⟩ := own_at r2 e2
  rw [ea] at ea2; cases ea2
  have ma : Mm σ δ2 Mx a := .inl ⟨i, ⟨_, e2, rfl⟩, ea⟩
  obtain ⟨r3, t3⟩ := r2.chg (i := i) (a := a) (s' := .own (ds2.set j d)) (o := .lst (vs2.set j v)) e2 rfl rfl ea ⟨a, _, rfl, upd_same, Ats.set ((a1.tr t2).upd ma) j (z2.upd ma)⟩
  exact ⟨a, vs2, k, j, rfl, at_int a2, ha2, by rw [z2.len]; exact ej, lk.nx _ _ _ r3 ((t1.trans t2).trans t3) q2⟩
theorem ss_retOwn : SS K xw np (tRet (tVar i)) (dRetOwn np i) := by
  intro Mx σ δ H E De Dn P rp pm xl ht lk
  obtain ⟨ds, e, l, q⟩ := onOwn_of ht
  obtain ⟨a, vs, ea, ha, za⟩ := own_at rp e
  refine ⟨.ref a, ea, lk.rt _ _ σ δ H rp Tr.refl ?_ q⟩
  rw [At]
  refine ⟨a, vs, rfl, fun m => m.elim (fun m => ?_) (fun m => rp.dis a m ⟨i, ⟨_, e, rfl⟩, ea⟩), ha, za.mono (fun _ _ e _ => e) fun b _ _ m => m.elim (fun m => .inl (pm.mu m)) .inr⟩
  obtain ⟨j, hj, m', q'⟩ := pm.2 a m
  have := rp.sep i j a ⟨_, e, rfl⟩ m' ea q'
  omega
theorem se_ixOwn (h : SE K xw te dt) : SE K xw (tOp (rIx K) (tVar i) te) (dIxOwn i dt) := by
  intro Mx σ δ H E Q k rp xl ht hk
  obtain ⟨ds, e, ht⟩ := onOwn_of ht
  obtain ⟨a, vs, ea, ha, za⟩ := own_at rp e
  refine ⟨.ref a, ea, ?_⟩
  refine h Mx σ δ H E _ _ rp xl ht fun v y δ1 H1 r1 t1 a1 q1 => ?_
  obtain ⟨z, rfl, q1⟩ := onInt_of q1
  obtain ⟨ds1, e1, q1⟩ := onOwn_of q1
  obtain ⟨d, ed, q1⟩ := onSome_of q1
  obtain ⟨a', vs1, ea1, ha1, z1⟩ := own_at r1 e1
  rw [ea] at ea1; cases ea1
  obtain ⟨w, ew, zw⟩ := z1.atI ed
  exact .inl ⟨a, vs1, z, w, rfl, at_int a1, SqL.of ha1, ew, hk w d δ1 H1 r1 t1 zw q1⟩
/-- as a list that stands still -/
theorem own_lst (rp : Rp K Mx σ δ H) {ds : List D} {a : Addr} (e : δ[i]? = some (some (.own ds))) (ea : σ[i]? = some (some (.ref a))) : At K (fun b => Mm σ δ Mx b ∧ b ≠ a) H (.lst ds) (.ref a) := by
  obtain ⟨a', vs, ea', ha, za⟩ := own_at rp e
  rw [ea] at ea'; cases ea'
  rw [At]
  exact ⟨a, vs, rfl, fun m => m.2 rfl, ha, za.mono (fun _ _ e _ => e) fun _ _ _ m => m.1⟩
theorem se_inOwn (h : SE K xw te dt) : SE K xw (tOp (rInA K) te (tVar i)) (dInOwn false i dt) := by
  intro Mx σ δ H E Q k rp xl ht hk
  refine h Mx σ δ H E _ _ rp xl ht fun v x δ1 H1 r1 t1 a1 q1 => ?_
  obtain ⟨ds, e, q1⟩ := onOwn_of q1
  obtain ⟨a, vs, ea, ha, za⟩ := own_at r1 e
  refine ⟨.ref a, ea, ?_⟩
  have q1' : fIn false x (.lst ds) fun z => (∃ b, z = .bl b) ∧ Q z δ1 := ⟨q1.1, ⟨_, rfl⟩, q1.2⟩
  refine sIn (fun b => Mm σ δ1 Mx b ∧ b ≠ a) H1 x (.lst ds) v (.ref a) _ _ (fun b m => r1.mdom m.1) (a1.mono (fun _ _ e _ => e) fun _ _ _ m => m.1) (own_lst r1 e ea) q1' fun z vz H2 k2 a2 q2 => ?_
  obtain ⟨⟨b, rfl⟩, q2⟩ := q2
  exact hk vz (.bl b) δ1 H2 (r1.heap k2) (t1.trans (Tr.heap k2)) (by rw [at_bl a2]; exact at_bl' b) q2
theorem se_notInOwn (h : SE K xw te dt) : SE K xw (tOp (rNotInA K) te (tVar i)) (dInOwn true i dt) := by
  intro Mx σ δ H E Q k rp xl ht hk
  refine h Mx σ δ H E _ _ rp xl ht fun v x δ1 H1 r1 t1 a1 q1 => ?_
  obtain ⟨ds, e, q1⟩ := onOwn_of q1
  obtain ⟨a, vs, ea, ha, za⟩ := own_at r1 e
  refine ⟨.ref a, ea, ?_⟩
  have q1' : fIn true x (.lst ds) fun z => (∃ b, z = .bl b) ∧ Q z δ1 := ⟨q1.1, ⟨_, rfl⟩, q1.2⟩
  refine sNotIn (fun b => Mm σ δ1 Mx b ∧ b ≠ a) H1 x (.lst ds) v (.ref a) _ _ (fun b m => r1.mdom m.1) (a1.mono (fun _ _ e _ => e) fun _ _ _ m => m.1) (own_lst r1 e ea) q1' fun z vz H2 k2 a2 q2 => ?_
  obtain ⟨⟨b, rfl⟩, q2⟩ := q2
  exact hk vz (.bl b) δ1 H2 (r1.heap k2) (t1.trans (Tr.heap k2)) (by rw [at_bl a2]; exact at_bl' b) q2
end
end Dq

/- Part 10: loops; comprehensions. -/
namespace Dq
open PySem PySem.Spec PyProof.Rows L2

/-- what a list, a tuple, the script has in it -/
def D.items : D → Option (List D)
  | .lst ds => some ds
  | .tup ds => some ds
  | .scr ns => some (ns.map D.int)
  | _ => none
abbrev DG := D → Dst → (Dst → Prop) → Prop
def gN (i : Nat) : DG := fun d δ Q => okSet δ i ∧ Q (δ.set i (some (.val d)))
def dLoop (g : DG) (tb : DS) (E : Addr → Prop) (De : DEnds) : List D → Dst → Prop
  | [], δ => De.nx δ
  | x :: r, δ => g x δ fun δ1 => tb E { De with nx := dLoop g tb E De r, ct := dLoop g tb E De r, bk := De.nx } δ1
def dFor (src : DE) (g : DG) (tb : DS) : DS := fun E De δ => src E δ fun d δ1 => onSome d.items fun xs => dLoop g tb E De xs δ1
def rngD (lo : Int) (n : Nat) : List D := (List.range n).map fun i : Nat => D.int (lo + (i : Int))
def dRng1 (r : DA) : (Addr → Prop) → Dst → (List D → Dst → Prop) → Prop := fun E δ Q => r E δ fun as δ1 => onVals as fun ds => match ds with
  | [.int j] => -(2 ^ 62) ≤ j ∧ j < 2 ^ 62 ∧ Q (rngD 0 j.toNat) δ1
  | _ => False
def dForR (src : (Addr → Prop) → Dst → (List D → Dst → Prop) → Prop) (g : DG) (tb : DS) : DS := fun E De δ => src E δ fun xs δ1 => dLoop g tb E De xs δ1
def dWh (t : DT) (tb : DS) (E : Addr → Prop) (De : DEnds) : Nat → Dst → Prop
  | 0, _ => False
  | n + 1, δ => t E δ fun b δ1 => if b = true then tb E { De with nx := dWh t tb E De n, ct := dWh t tb E De n, bk := De.nx } δ1 else De.nx δ1
def dWhile (t : DT) (tb : DS) : DS := fun E De δ => ∃ n, dWh t tb E De n δ
/-- a comprehension's turns -/
def lcGo (j : Nat) (dt : DT) (de : DE) : List D → List D → Dst → (List D → Dst → Prop) → Prop
  | [], acc, δ, Q => Q acc δ
  | x :: r, acc, δ, Q => dt (fun _ => False) (δ.set j (some (.val x))) fun b δ2 =>
      if b = true then de (fun _ => False) δ2 fun y δ3 => (decide (acc.length < 100000) = true ∧ okSet δ3 j) ∧ lcGo j dt de r (acc ++ [y]) (δ3.set j none) Q else okSet δ2 j ∧ lcGo j dt de r acc (δ2.set j none) Q
def dYes : DT := fun _ δ Q => Q true δ
def fLc (src : (Addr → Prop) → Dst → (List D → Dst → Prop) → Prop) (j : Nat) (dt : DT) (de : DE) : DF := fun E δ Q => src E δ fun xs δ1 => δ1[j]? = some none ∧ lcGo j dt de xs [] δ1 fun ys δ2 => Q (.own ys) δ2
def dSrc (t : DE) : (Addr → Prop) → Dst → (List D → Dst → Prop) → Prop := fun E δ Q => t E δ fun d δ1 => onSome d.items fun xs => Q xs δ1

/-! ### what is walked -/
/-- a list or a tuple -/
def iAny (K : PySem.W.Frag) (tl : TE) : TI := fun σ H R => tl σ H fun x H1 => (∃ a, x = .ref a ∧ (∃ xs, SqL K H1 a xs) ∧ R (Itl K a) H1) ∨ ∃ a, x = .ref a ∧ (∃ xs, SqT K H1 a xs) ∧ R (Itt K a) H1
theorem pi_any {X : Cx} {tg l : Expr} {tl : TE} (hl : PE X l tl) : PI X tg l (iAny X.K tl) := by
  refine ⟨fun pins s σ H R I h => ?_⟩
  -- the value alone; then as a list or as a tuple
  refine thn (hl.run pins s σ H _ I h) fun v s1 ⟨x, H1, I1, r1, q1⟩ => ?_
  rcases q1 with ⟨a, rfl, ⟨xs, hq⟩, q⟩ | ⟨a, rfl, ⟨xs, hq⟩, q⟩
  · cases r1
    obtain ⟨its, rv, p, hz⟩ := I1.list hq
    refine wpAny_pyIter_list p.isList ?_
    refine ⟨s1.heap.objs.size, [s1.heap.objs.size], _, _, H1, rfl, I1.kept (t' := s1.toks) fun b o e => Heap.get?_push_of_some _ e, turn_list a _, ⟨_, Heap.get?_push_size _ rfl, rfl, rfl⟩, fun b hb => ?_, q⟩
    cases List.mem_singleton.mp hb
    exact I1.fpOk (Nat.le_refl _) (I1.hok.fresh (Nat.le_refl _))
  · cases r1
    obtain ⟨its, rv, p, hz⟩ := I1.tuple hq
    refine wpAny_pyIter_tuple (show s1.heap.IsTuple a its.toArray from p) ?_
    refine ⟨s1.heap.objs.size, [s1.heap.objs.size], _, _, H1, rfl, I1.kept (t' := s1.toks) fun b o e => Heap.get?_push_of_some _ e, turn_tuple a _, ⟨_, Heap.get?_push_size _ rfl, rfl, rfl⟩, fun b hb => ?_, q⟩
    cases List.mem_singleton.mp hb
    exact I1.fpOk (Nat.le_refl _) (I1.hok.fresh (Nat.le_refl _))

/-- an iterator J over the items xs, as long as G stands -/
structure Wk (G : Hp → Prop) (n : Nat) (J : It) (y : Nat → V) : Prop where
  go : ∀ i H, i < n → G H → J.go i H
  yld : ∀ i H x H', i < n → G H → J.yld i H x H' → x = y i ∧ H' = H
  stop : ∀ i H, i = n → G H → J.stop i H
section
variable {K : PySem.W.Frag} {xw : XK} {np j : Nat}
/-- a source of items: behind it J walks them at every heap that is reached -/
def SI (K : PySem.W.Frag) (xw : XK) (wi : TI) (t : (Addr → Prop) → Dst → (List D → Dst → Prop) → Prop) : Prop := ∀ (Mx : Addr → Prop) (σ : St) (δ : Dst) (H : Hp) (E : Addr → Prop) (Q : List D → Dst → Prop) (R : It → Hp → Prop), Rp K Mx σ δ H → XL xw σ δ H E → t E δ Q →
  (∀ (xs : List D) (y : Nat → V) (J : It) (δ' : Dst) (H' : Hp) (G : Hp → Prop), Rp K Mx σ δ' H' → Tr σ δ H σ δ' H' → Q xs δ' → Wk G xs.length J y → G H' →
    (∀ H2, G H2 → ∀ H3, (∀ a o, H2 a = some o → (Mm σ δ' Mx a → False) → H3 a = some o) → G H3) →
    (∀ (i : Nat) (d : D), xs[i]? = some d → At K (Mm σ δ' Mx) H' d (y i)) → R J H') → wi σ H R
theorem vget {α : Type} {l : List α} {i : Nat} {x : α} (h : l[i]? = some x) (d : α) : l.getD i d = x := by
  rw [List.getD_eq_getElem?_getD, h] <;> rfl
theorem si_any {tl : TE} {dl : DE} (h : SE K xw tl dl) : SI K xw (iAny K tl) (dSrc dl) := by
  intro Mx σ δ H E Q R rp xl ht hk
  refine h Mx σ δ H E _ _ rp xl ht fun v d δ1 H1 r1 t1 a1 q1 => ?_
  obtain ⟨xs, ex, q⟩ := onSome_of q1
  cases d with
  | lst ds =>
    cases ex
    obtain ⟨a, vs, rfl, na, ha, za⟩ := at_lst a1
    refine .inl ⟨a, rfl, ⟨vs, SqL.of ha⟩, ?_⟩
    refine hk xs (fun i => vs.getD i .non) (Itl K a) δ1 H1 (fun H' => H' a = some (.lst vs) ∧ Ats K (Mm σ δ1 Mx) H' xs vs) r1 t1 q ⟨fun i H' hi g => ?_, fun i H' x H'' hi g y => ?_, fun i H' hi g => ⟨vs, SqL.of g.1, by rw [g.2.len]; omega⟩⟩ ⟨ha, za⟩ (fun H2 g H3 k => ⟨k a _ g.1 na, g.2.mono (fun b o e n => k b o e n) fun _ _ _ m => m⟩) fun i d e => ?_
    · exact ⟨vs, _, SqL.of g.1, List.getElem?_eq_getElem (by rw [g.2.len]; exact hi)⟩
    · exact ⟨(vget (y.2 vs (SqL.of g.1)) .non).symm, y.1⟩
    · obtain ⟨w, ew, zw⟩ := za.get e
      rw [vget ew]
      exact zw
  | tup ds =>
    cases ex
    obtain ⟨a, vs, rfl, na, ha, za⟩ := at_tup a1
    refine .inr ⟨a, rfl, ⟨vs, SqT.of ha⟩, ?_⟩
    refine hk xs (fun i => vs.getD i .non) (Itt K a) δ1 H1 (fun H' => H' a = some (.tup vs) ∧ Ats K (Mm σ δ1 Mx) H' xs vs) r1 t1 q ⟨fun i H' hi g => ?_, fun i H' x H'' hi g y => ?_, fun i H' hi g => ⟨vs, SqT.of g.1, by rw [g.2.len]; omega⟩⟩ ⟨ha, za⟩ (fun H2 g H3 k => ⟨k a _ g.1 na, g.2.mono (fun b o e n => k b o e n) fun _ _ _ m => m⟩) fun i d e => ?_
    · exact ⟨vs, _, SqT.of g.1, List.getElem?_eq_getElem (by rw [g.2.len]; exact hi)⟩
    · exact ⟨(vget (y.2 vs (SqT.of g.1)) .non).symm, y.1⟩
    · obtain ⟨w, ew, zw⟩ := za.get e
      rw [vget ew]
      exact zw
  | scr ns =>
    cases ex
    rw [At] at a1
    obtain ⟨a, rfl, c⟩ := a1
    have sq : ∀ H', ((¬ Mm σ δ1 Mx a ∧ ∃ o, H' a = some (.frz o (.lst (ns.map V.int)))) ∨ Wr K a (ns.map V.int)) → SqL K H' a (ns.map V.int) := fun H' c => by
      rcases c with ⟨_, o, q⟩ | q
      · exact .inl (.inr ⟨o, q⟩)
      · exact .inr q
    refine .inl ⟨a, rfl, ⟨_, sq H1 c⟩, ?_⟩
    refine hk (ns.map D.int) (fun i => (ns.map V.int).getD i .non) (Itl K a) δ1 H1 (fun H' => (¬ Mm σ δ1 Mx a ∧ ∃ o, H' a = some (.frz o (.lst (ns.map V.int)))) ∨ Wr K a (ns.map V.int)) r1 t1 q ⟨fun i H' hi g => ?_, fun i H' x H'' hi g y => ?_, fun i H' hi g => ⟨_, sq H' g, by simp [hi]⟩⟩ c (fun H2 g H3 k => ?_) fun i d e => ?_
    · exact ⟨_, _, sq H' g, List.getElem?_eq_getElem (by simpa using hi)⟩
    · exact ⟨(vget (y.2 _ (sq H' g)) .non).symm, y.1⟩
    · rcases g with ⟨n, o, q⟩ | q
      · exact .inl ⟨n, o, k a _ q n⟩
      · exact .inr q
    · rw [List.getElem?_map] at e
      cases en : ns[i]? with
      | none => rw [en] at e; cases e
      | some n =>
        rw [en] at e
        cases e
        have ev : (ns.map V.int)[i]? = some (.int n) := by rw [List.getElem?_map, en] <;> rfl
        rw [vget ev]
        exact at_int' n
  | non => cases ex
  | bl b => cases ex
  | int b => cases ex
  | str b => cases ex
  | dct ks b => cases ex
theorem rng_get {lo : Int} {n i : Nat} {d : D} (h : (rngD lo n)[i]? = some d) : i < n ∧ d = .int (lo + (i : Int)) := by
  have hi : i < n := by simpa [rngD] using (List.getElem?_eq_some_iff.mp h).1
  unfold rngD at h
  rw [List.getElem?_map, List.getElem?_range hi] at h
  exact ⟨hi, (Option.some.inj h).symm⟩
theorem si_rng1 {ta : TA} {da : DA} (h : SA K xw ta da) : SI K xw (iRng1 ta) (dRng1 da) := by
  intro Mx σ δ H E Q R rp xl ht hk
  refine h Mx σ δ H E _ _ rp xl ht fun vs as δ1 H1 r1 t1 a1 q1 => ?_
  obtain ⟨ds, q, z⟩ := vals_of a1 q1
  match ds, q with
  | [.int j], q =>
    rw [Ats] at z
    obtain ⟨v, t, rfl, z1, z2⟩ := z
    rw [Ats] at z2
    rw [z2, at_int z1]
    have hl : (rngD 0 j.toNat).length = j.toNat := by simp [rngD]
    refine ⟨j, rfl, q.1, q.2.1, hk (rngD 0 j.toNat) (fun i => .int ((0 : Int) + (i : Int))) _ δ1 H1 (fun _ => True) r1 t1 q.2.2 ⟨fun i H' hi _ => by rw [hl] at hi; exact hi, fun i H' x H'' hi _ y => ⟨y.2, y.1⟩, fun i H' hi _ => by rw [hl] at hi; exact Nat.le_of_eq hi.symm⟩ trivial (fun _ _ _ _ => trivial) fun i d e => ?_⟩
    rw [(rng_get e).2]
    exact at_int' _
end
end Dq

/- Part 11: loops and comprehensions run as their data say. -/
namespace Dq
open PySem PySem.Spec PyProof.Rows L2
section
variable {K : PySem.W.Frag} {xw : XK} {np j : Nat}
/-- a target -/
def SG (K : PySem.W.Frag) (tg : TG) (g : DG) : Prop := ∀ (Mx : Addr → Prop) (σ : St) (δ : Dst) (H : Hp) (d : D) (v : V) (Q : Dst → Prop) (k : St → Hp → Prop), Rp K Mx σ δ H → At K (Mm σ δ Mx) H d v → g d δ Q →
  (∀ σ' δ' H', Rp K Mx σ' δ' H' → Tr σ δ H σ' δ' H' → Q δ' → k σ' H') → tg v σ H k
theorem sg_name : SG K (gName j) (gN j) := by
  intro Mx σ δ H d v Q k rp a hg hk
  have n := not_mut hg.1
  exact hk _ _ H (rp.val n a) (Tr.val n) hg.2
theorem ss_forI {wi : TI} {src : (Addr → Prop) → Dst → (List D → Dst → Prop) → Prop} {tg : TG} {g : DG} {tb : TS} {db : DS} (hs : SI K xw wi src) (hg : SG K tg g) (hb : SS K xw np tb db) :
    SS K xw np (tFor wi tg tb) (dForR src g db) := by
  intro Mx σ δ H E De Dn P rp pm xl ht lk
  refine hs Mx σ δ H E _ _ rp xl ht fun xs y J δ1 H1 G r1 t1 q1 wk g1 gk items => ?_
  refine ⟨fun i m σ2 H2 => m = xs.length - i ∧ i ≤ xs.length ∧ G H2 ∧ ∃ δ2, Rp K Mx σ2 δ2 H2 ∧ Tr σ δ1 H1 σ2 δ2 H2 ∧ dLoop g db E De (xs.drop i) δ2, ⟨xs.length, by simp, Nat.zero_le _, g1, δ1, r1, Tr.refl, by simpa using q1⟩, ?_⟩
  rintro i m σ2 H2 ⟨rfl, hi, g2, δ2, r2, t2, q2⟩
  by_cases hlt : i < xs.length
  · obtain ⟨d, ed⟩ : ∃ d, xs[i]? = some d := ⟨_, List.getElem?_eq_getElem hlt⟩
    have edrop : xs.drop i = d :: xs.drop (i + 1) := by
      rw [List.drop_eq_getElem_cons hlt]
      rw [List.getElem?_eq_getElem hlt] at ed
      cases ed
      rfl
    rw [edrop] at q2
    refine .inr ⟨wk.go i H2 hlt g2, fun σ3 H3 => G H3 ∧ ∃ δ3, Rp K Mx σ3 δ3 H3 ∧ Tr σ δ1 H1 σ3 δ3 H3 ∧ dLoop g db E De (xs.drop (i + 1)) δ3, fun σ3 H3 ⟨g3, δ3, r3, t3, q3⟩ => ⟨xs.length - (i + 1), by omega, rfl, hlt, g3, δ3, r3, t3, q3⟩, fun x H2' yl => ?_⟩
    obtain ⟨ex, eH⟩ := wk.yld i H2 x H2' hlt g2 yl
    subst ex
    subst eH
    have ai : At K (Mm σ2 δ2 Mx) H2' d (y i) := (items i d ed).tr t2
    refine hg Mx σ2 δ2 H2' d (y i) _ _ r2 ai q2 fun σ3 δ3 H3 r3 t3 q3 => ?_
    have tt : Tr σ δ1 H1 σ3 δ3 H3 := t2.trans t3
    have keep : ∀ σ4 δ4 H4, Tr σ3 δ3 H3 σ4 δ4 H4 → G H4 := fun σ4 δ4 H4 t4 => gk H1 g1 H4 fun a o e n => (tt.trans t4).ext a o e fun m => n (.inl m)
    refine hb Mx σ3 δ3 H3 E _ _ P r3 (pm.tr (t1.trans tt)) (xl.tr (t1.trans tt)) q3 ⟨fun σ4 δ4 H4 r4 t4 q4 => ⟨keep σ4 δ4 H4 t4, δ4, r4, tt.trans t4, q4⟩, fun σ4 δ4 H4 r4 t4 q4 => lk.nx σ4 δ4 H4 r4 ((t1.trans tt).trans t4) q4,
      fun σ4 δ4 H4 r4 t4 q4 => ⟨keep σ4 δ4 H4 t4, δ4, r4, tt.trans t4, q4⟩, fun v d σ4 δ4 H4 r4 t4 a4 q4 => lk.rt v d σ4 δ4 H4 r4 ((t1.trans tt).trans t4) a4 q4⟩
  · have e : i = xs.length := by omega
    subst e
    rw [List.drop_eq_nil_of_le (Nat.le_refl _)] at q2
    exact .inl ⟨wk.stop _ H2 rfl g2, lk.nx σ2 δ2 H2 r2 (t1.trans t2) q2⟩
theorem ss_for {tl : TE} {dl : DE} {tg : TG} {g : DG} {tb : TS} {db : DS} (h : SE K xw tl dl) (hg : SG K tg g) (hb : SS K xw np tb db) : SS K xw np (tFor (iAny K tl) tg tb) (dFor dl g db) := by
  intro Mx σ δ H E De Dn P rp pm xl ht lk
  exact ss_forI (si_any h) hg hb Mx σ δ H E De Dn P rp pm xl ht lk
theorem ss_while {tt : TT} {dt : DT} {tb : TS} {db : DS} (h : ST K xw tt dt) (hb : SS K xw np tb db) : SS K xw np (tWhile tt tb) (dWhile dt db) := by
  intro Mx σ δ H E De Dn P rp pm xl ht lk
  obtain ⟨n, ht⟩ := ht
  refine ⟨fun m σ2 H2 => ∃ δ2, Rp K Mx σ2 δ2 H2 ∧ Tr σ δ H σ2 δ2 H2 ∧ dWh dt db E De m δ2, ⟨n, δ, rp, Tr.refl, ht⟩, ?_⟩
  rintro m σ2 H2 ⟨δ2, r2, t2, q2⟩
  cases m with
  | zero => exact q2.elim
  | succ m =>
    refine h Mx σ2 δ2 H2 E _ _ r2 (xl.tr t2) q2 fun b δ3 H3 r3 t3 q3 => ?_
    have tt := t2.trans t3
    cases b with
    | true =>
      rw [if_pos rfl] at q3 ⊢
      refine ⟨fun σ4 H4 => ∃ δ4, Rp K Mx σ4 δ4 H4 ∧ Tr σ δ H σ4 δ4 H4 ∧ dWh dt db E De m δ4, fun σ4 H4 w => ⟨m, Nat.lt_succ_self m, w⟩, ?_⟩
      exact hb Mx σ2 δ3 H3 E _ _ P r3 (pm.tr tt) (xl.tr tt) q3 ⟨fun σ4 δ4 H4 r4 t4 q4 => ⟨δ4, r4, tt.trans t4, q4⟩, fun σ4 δ4 H4 r4 t4 q4 => lk.nx σ4 δ4 H4 r4 (tt.trans t4) q4, fun σ4 δ4 H4 r4 t4 q4 => ⟨δ4, r4, tt.trans t4, q4⟩,
        fun v d σ4 δ4 H4 r4 t4 a4 q4 => lk.rt v d σ4 δ4 H4 r4 (tt.trans t4) a4 q4⟩
    | false =>
      rw [if_neg Bool.false_ne_true] at q3 ⊢
      exact lk.nx σ2 δ3 H3 r3 tt q3

/-! ### comprehensions -/
section
variable {σ : St} {δ δ' : Dst} {H H' : Hp} {Mx : Addr → Prop}
theorem mu_wipe {x : Option V} (h : δ[j]? = some none) (a : Addr) : Mu (σ.set j x) δ a ↔ Mu σ δ a := by
  constructor
  · rintro ⟨i, ⟨s, e, m⟩, q⟩
    have hj : j ≠ i := fun z => by rw [← z, h] at e; cases e
    rw [List.getElem?_set_ne hj] at q
    exact ⟨i, ⟨s, e, m⟩, q⟩
  · rintro ⟨i, ⟨s, e, m⟩, q⟩
    have hj : j ≠ i := fun z => by rw [← z, h] at e; cases e
    exact ⟨i, ⟨s, e, m⟩, by rw [List.getElem?_set_ne hj]; exact q⟩
theorem Rp.wipe {x : Option V} (h : δ[j]? = some none) : Rp K Mx (σ.set j x) δ H ↔ Rp K Mx σ δ H := by
  have ne : ∀ {i : Nat} {s : Sl}, δ[i]? = some (some s) → j ≠ i := fun e z => by rw [← z, h] at e; cases e
  have mm : ∀ a, Mm (σ.set j x) δ Mx a ↔ Mm σ δ Mx a := fun a => or_congr (mu_wipe h a) Iff.rfl
  constructor
  · intro r
    refine ⟨fun i s e => ?_, fun i k a m1 m2 q1 q2 => ?_, r.ex, fun a m z => r.dis a m ((mu_wipe h a).mpr z), by simpa using r.len⟩
    · obtain ⟨v, e2, z⟩ := r.get i s e
      rw [List.getElem?_set_ne (ne e)] at e2
      exact ⟨v, e2, z.mono (fun _ _ e _ => e) (fun a _ _ m => (mm a).mpr m) fun _ _ _ _ e => e⟩
    · obtain ⟨s1, e1, _⟩ := id m1
      obtain ⟨s2, e2, _⟩ := id m2
      exact r.sep i k a m1 m2 (by rw [List.getElem?_set_ne (ne e1)]; exact q1) (by rw [List.getElem?_set_ne (ne e2)]; exact q2)
  · intro r
    refine ⟨fun i s e => ?_, fun i k a m1 m2 q1 q2 => ?_, r.ex, fun a m z => r.dis a m ((mu_wipe h a).mp z), by simpa using r.len⟩
    · obtain ⟨v, e2, z⟩ := r.get i s e
      exact ⟨v, by rw [List.getElem?_set_ne (ne e)]; exact e2, z.mono (fun _ _ e _ => e) (fun a _ _ m => (mm a).mp m) fun _ _ _ _ e => e⟩
    · obtain ⟨s1, e1, _⟩ := id m1
      obtain ⟨s2, e2, _⟩ := id m2
      rw [List.getElem?_set_ne (ne e1)] at q1
      rw [List.getElem?_set_ne (ne e2)] at q2
      exact r.sep i k a m1 m2 q1 q2
theorem Tr.wipe {x : Option V} (h : δ[j]? = some none) (h' : δ'[j]? = some none) (t : Tr (σ.set j x) δ H (σ.set j x) δ' H') : Tr σ δ H σ δ' H' :=
  ⟨fun a o e n => t.ext a o e fun m => n ((mu_wipe h a).mp m), t.dom, fun a m => (t.fr a ((mu_wipe h' a).mpr m)).imp (mu_wipe h a).mp id, fun i v l m e => by
    have hj : j ≠ i := fun z => by
      obtain ⟨s, e2, _⟩ := id m
      rw [← z, h] at e2; cases e2
    obtain ⟨e2, m2⟩ := t.par i v l m (by rw [List.getElem?_set_ne hj]; exact e)
    rw [List.getElem?_set_ne hj] at e2
    exact ⟨e2, m2⟩⟩
/-- a slot that nothing is asked of any more -/
theorem Rp.drop (r : Rp K Mx σ δ H) (n : ¬ IsMut δ j) : Rp K Mx σ (δ.set j none) H ∧ Tr σ δ H σ (δ.set j none) H := by
  have g : ∀ (i : Nat) (s : Sl), (δ.set j none)[i]? = some (some s) → j ≠ i ∧ δ[i]? = some (some s) := fun i s e => by
    by_cases hj : j = i
    · subst hj
      by_cases hl : j < δ.length
      · rw [List.getElem?_set_self hl] at e; cases e
      · rw [List.getElem?_eq_none (by simpa using hl)] at e; cases e
    · rw [List.getElem?_set_ne hj] at e
      exact ⟨hj, e⟩
  have mt : ∀ i, IsMut (δ.set j none) i ↔ IsMut δ i := fun i => ⟨fun ⟨s, e, m⟩ => ⟨s, (g i s e).2, m⟩, fun ⟨s, e, m⟩ => by
    have hj : j ≠ i := fun z => n (z ▸ ⟨s, e, m⟩)
    exact ⟨s, by rw [List.getElem?_set_ne hj]; exact e, m⟩⟩
  have mu : ∀ a, Mu σ (δ.set j none) a ↔ Mu σ δ a := fun a => ⟨fun ⟨i, m, q⟩ => ⟨i, (mt i).mp m, q⟩, fun ⟨i, m, q⟩ => ⟨i, (mt i).mpr m, q⟩⟩
  refine ⟨⟨fun i s e => ?_, fun i k a m1 m2 => r.sep i k a ((mt i).mp m1) ((mt k).mp m2), r.ex, fun a m z => r.dis a m ((mu a).mp z), by simp [r.len]⟩, ⟨fun _ _ e _ => e, fun _ o e => ⟨o, e⟩, fun a m => .inl ((mu a).mp m), fun i v _ m e => ⟨e, (mt i).mpr m⟩⟩⟩
  obtain ⟨v, e2, z⟩ := r.get i s (g i s e).2
  exact ⟨v, e2, z.mono (fun _ _ e _ => e) (fun a _ _ m => m.imp (mu a).mp id) fun _ _ _ _ e => e⟩
/-- what is held apart changes -/
theorem Rp.put {a : Addr} {o : HO} (r : Rp K Mx σ δ H) (m : Mx a) : Rp K Mx σ δ (upd H a o) := by
  have n := r.dis a m
  refine ⟨fun i s e => ?_, r.sep, fun b mb => ?_, r.dis, r.len⟩
  · obtain ⟨v, e2, z⟩ := r.get i s e
    refine ⟨v, e2, z.mono (fun b u q nb => by rw [upd_ne (fun z => nb (by rw [z]; exact .inr m))]; exact q) (fun _ _ _ m => m) fun hm b u hv q => ?_⟩
    rw [upd_ne (fun z => n ⟨i, ⟨s, e, hm⟩, by rw [e2, hv, z]⟩)]
    exact q
  · by_cases h : b = a
    · rw [h]; exact ⟨o, upd_same⟩
    · obtain ⟨u, q⟩ := r.ex b mb
      exact ⟨u, by rw [upd_ne h]; exact q⟩
end
theorem st_yes : ST K xw tYes dYes := fun Mx σ δ H E Q k rp xl ht hk => hk true δ H rp Tr.refl ht
theorem sf_lc {wi : TI} {src : (Addr → Prop) → Dst → (List D → Dst → Prop) → Prop} {tt : TT} {dt : DT} {te : TE} {de : DE} (hs : SI K xw wi src) (ht : ST K E0 tt dt) (he : SE K E0 te de) :
    SF K xw (tLc wi (gName j) tt te [j]) (fLc src j dt de) := by
  intro Mx σ δ H E Q k rp xl hq hk
  refine hs Mx σ δ H E _ _ rp xl hq fun xs y J δ1 H1 G r1 t1 q1 wk g1 gk items => ?_
  obtain ⟨hj, q1⟩ := q1
  intro Dl hD
  have hD0 : H Dl = none := none_back t1 hD
  have rw0 : Rp K Mx (σ.set j none) δ1 H1 := (Rp.wipe hj).mpr r1
  have rm0 := rw0.more (o := .lst []) hD
  refine ⟨fun i m H2 => m = xs.length - i ∧ i ≤ xs.length ∧ G H2 ∧ ∃ δ2 acc avs, Rp K (fun b => Mx b ∨ b = Dl) (σ.set j none) δ2 H2 ∧ Tr (σ.set j none) δ1 H1 (σ.set j none) δ2 H2 ∧ H2 Dl = some (.lst avs) ∧ Ats K (Mm (σ.set j none) δ2 fun b => Mx b ∨ b = Dl) H2 acc avs ∧ δ2[j]? = some none ∧
      lcGo j dt de (xs.drop i) acc δ2 fun ys δ3 => Q (.own ys) δ3,
    ⟨xs.length, by simp, Nat.zero_le _, gk H1 g1 _ fun a o e _ => by rw [upd_ne (ne_of_none e hD)]; exact e, δ1, [], [], rm0, Tr.new hD, upd_same, by rw [Ats], hj, by simpa using q1⟩, ?_⟩
  rintro i m H2 ⟨rfl, hi, g2, δ2, acc, avs, r2, t2, hDv, za, hj2, q2⟩
  by_cases hlt : i < xs.length
  · obtain ⟨d, ed⟩ : ∃ d, xs[i]? = some d := ⟨_, List.getElem?_eq_getElem hlt⟩
    have edrop : xs.drop i = d :: xs.drop (i + 1) := by
      rw [List.drop_eq_getElem_cons hlt]
      rw [List.getElem?_eq_getElem hlt] at ed
      cases ed
      rfl
    rw [edrop] at q2
    refine .inr ⟨wk.go i H2 hlt g2, fun H3 => G H3 ∧ ∃ δ2 acc avs, Rp K (fun b => Mx b ∨ b = Dl) (σ.set j none) δ2 H3 ∧ Tr (σ.set j none) δ1 H1 (σ.set j none) δ2 H3 ∧ H3 Dl = some (.lst avs) ∧ Ats K (Mm (σ.set j none) δ2 fun b => Mx b ∨ b = Dl) H3 acc avs ∧ δ2[j]? = some none ∧
      lcGo j dt de (xs.drop (i + 1)) acc δ2 fun ys δ3 => Q (.own ys) δ3, fun H3 ⟨g3, rest⟩ => ⟨xs.length - (i + 1), by omega, rfl, hlt, g3, rest⟩, fun x H2' yl => ?_⟩
    obtain ⟨ex, eH⟩ := wk.yld i H2 x H2' hlt g2 yl
    subst ex
    subst eH
    have n2 : ¬ IsMut δ2 j := fun ⟨s, e, _⟩ => by rw [hj2] at e; cases e
    have jl : j < δ2.length := (List.getElem?_eq_some_iff.mp hj2).1
    -- the item, held apart from the new list too
    have ai : At K (Mm (σ.set j none) δ2 fun b => Mx b ∨ b = Dl) H2' d (y i) := by
      have a0 : At K (Mm (σ.set j none) δ1 Mx) H1 d (y i) := (items i d ed).mono (fun _ _ e _ => e) fun a _ _ m => m.imp (mu_wipe hj a).mp id
      exact a0.mono (fun a o e n => t2.ext a o e fun m => n (.inl m)) fun a o e m => m.elim (fun m => (t2.fr a m).elim .inl fun z => by rw [e] at z; cases z) fun m => m.elim .inr fun z => by rw [z, hD] at e; cases e
    have r3 := r2.val (d := d) (v := y i) n2 ai
    have t3 : Tr (σ.set j none) δ2 H2' ((σ.set j none).set j (some (y i))) (δ2.set j (some (.val d))) H2' := Tr.val n2
    have wp : wipe ((σ.set j none).set j (some (y i))) [j] = σ.set j none := by
      show ((σ.set j none).set j (some (y i))).set j none = σ.set j none
      rw [List.set_set, List.set_set]
    show wipe ((wipe σ [j]).set j (some (y i))) [j] = wipe σ [j] ∧ _
    refine ⟨wp, ?_⟩
    refine ht (fun b => Mx b ∨ b = Dl) ((σ.set j none).set j (some (y i))) (δ2.set j (some (.val d))) H2' (fun _ => False) _ _ r3 XL.no q2 fun b δ4 H4 r4 t4 q4 => ?_
    -- back at the block's own slots
    have back : ∀ {δ5 : Dst} {H5 : Hp}, Rp K (fun b => Mx b ∨ b = Dl) ((σ.set j none).set j (some (y i))) δ5 H5 → Tr (σ.set j none) δ2 H2' ((σ.set j none).set j (some (y i))) δ5 H5 → okSet δ5 j →
        Rp K (fun b => Mx b ∨ b = Dl) (σ.set j none) (δ5.set j none) H5 ∧ Tr (σ.set j none) δ1 H1 (σ.set j none) (δ5.set j none) H5 ∧ (δ5.set j none)[j]? = some none := fun {δ5 H5} r5 t5 ok => by
      obtain ⟨r6, t6⟩ := r5.drop (not_mut ok)
      have e0 : (δ5.set j none)[j]? = some none := List.getElem?_set_self (ok_lt ok)
      have es : σ.set j none = ((σ.set j none).set j (some (y i))).set j none := by rw [List.set_set, List.set_set]
      refine ⟨by rw [es]; exact (Rp.wipe e0).mpr r6, ?_, e0⟩
      have tt := t2.trans (t5.trans t6)
      refine ⟨tt.ext, tt.dom, fun a m => tt.fr a ?_, fun k u l m e => ?_⟩
      · rw [es] at m
        exact (mu_wipe e0 a).mp m
      · have hjk : j ≠ k := fun z => by
          obtain ⟨s, e2, _⟩ := id m
          rw [← z, hj] at e2; cases e2
        obtain ⟨e2, m2⟩ := tt.par k u l m e
        exact ⟨e, m2⟩
    have tt4 : Tr (σ.set j none) δ2 H2' ((σ.set j none).set j (some (y i))) δ4 H4 := t3.trans t4
    have nD : ∀ {δ5 : Dst} {H5 : Hp}, Tr (σ.set j none) δ2 H2' ((σ.set j none).set j (some (y i))) δ5 H5 → H5 Dl = some (.lst avs) := fun t5 => t5.ext Dl _ hDv (r2.dis Dl (.inr rfl))
    have zaT : ∀ {δ5 : Dst} {H5 : Hp}, Tr (σ.set j none) δ2 H2' ((σ.set j none).set j (some (y i))) δ5 H5 → Ats K (Mm ((σ.set j none).set j (some (y i))) δ5 fun b => Mx b ∨ b = Dl) H5 acc avs := fun t5 => za.tr t5
    have muB : ∀ {δ5 : Dst}, okSet δ5 j → ∀ a, Mm (σ.set j none) (δ5.set j none) (fun b => Mx b ∨ b = Dl) a → Mm ((σ.set j none).set j (some (y i))) δ5 (fun b => Mx b ∨ b = Dl) a := fun {δ5} ok a m => by
      have e0 : (δ5.set j none)[j]? = some none := List.getElem?_set_self (ok_lt ok)
      have es : σ.set j none = ((σ.set j none).set j (some (y i))).set j none := by rw [List.set_set, List.set_set]
      refine m.imp (fun m => ?_) id
      rw [es] at m
      obtain ⟨k, ⟨s, e, hm⟩, q⟩ := (mu_wipe e0 a).mp m
      have hjk : j ≠ k := fun z => by rw [← z, e0] at e; cases e
      rw [List.getElem?_set_ne hjk] at e
      exact ⟨k, ⟨s, e, hm⟩, q⟩
    cases b with
    | true =>
      rw [if_pos rfl] at q4 ⊢
      refine he (fun b => Mx b ∨ b = Dl) ((σ.set j none).set j (some (y i))) δ4 H4 (fun _ => False) _ _ r4 XL.no q4 fun v dv δ5 H5 r5 t5 a5 q5 => ?_
      obtain ⟨⟨hl, ok⟩, q5⟩ := q5
      have tt5 := tt4.trans t5
      obtain ⟨r6, t6, e6⟩ := back r5 tt5 ok
      have hD5 := nD tt5
      have sz : avs.length < sizeLine := by
        have : avs.length < 100000 := by rw [za.len]; exact of_decide_eq_true hl
        exact Nat.lt_of_lt_of_le this (by decide)
      refine ⟨avs, hD5, sz, gk H1 g1 _ fun a o e n => ?_, δ5.set j none, acc ++ [dv], avs ++ [v], r6.put (.inr rfl), ⟨fun a o e n => ?_, fun a o e => ?_, t6.fr, t6.par⟩, upd_same, ?_, e6, q5⟩
      · rw [upd_ne (ne_of_none e hD)]
        exact t6.ext a o e fun m => n (.inl ((mu_wipe hj a).mp m))
      · rw [upd_ne (ne_of_none e hD)]
        exact t6.ext a o e n
      · obtain ⟨o', e'⟩ := t6.dom a o e
        exact ⟨o', by rw [upd_ne (ne_of_none e hD)]; exact e'⟩
      · have z1 : Ats K (Mm (σ.set j none) (δ5.set j none) fun b => Mx b ∨ b = Dl) H5 (acc ++ [dv]) (avs ++ [v]) := ((zaT tt5).append (ats_one a5)).mono (fun _ _ e _ => e) fun a _ _ m => muB ok a m
        exact z1.upd (.inr (.inr rfl))
    | false =>
      rw [if_neg Bool.false_ne_true] at q4 ⊢
      obtain ⟨ok, q4⟩ := q4
      obtain ⟨r6, t6, e6⟩ := back r4 tt4 ok
      exact ⟨gk H1 g1 _ fun a o e n => t6.ext a o e fun m => n (.inl ((mu_wipe hj a).mp m)), δ4.set j none, acc, avs, r6, t6, nD tt4, (zaT tt4).mono (fun _ _ e _ => e) fun a _ _ m => muB ok a m, e6, q4⟩
  · have e : i = xs.length := by omega
    subst e
    rw [List.drop_eq_nil_of_le (Nat.le_refl _)] at q2
    refine .inl ⟨wk.stop _ H2 rfl g2, ?_⟩
    have r3 := (Rp.wipe hj2).mp r2
    have t3 := Tr.wipe hj hj2 t2
    exact hk Dl (.own acc) δ2 H2 r3 (t1.trans t3) hD0 rfl ⟨Dl, avs, rfl, hDv, za.mono (fun _ _ e _ => e) fun a _ _ m => m.imp (mu_wipe hj2 a).mpr id⟩ q2
end
end Dq

/- max(xs, default = d), xs a list of ints, empty or not: the library's walk of max carried over to the keyword. -/
namespace Dq
namespace MaxD
open PySem PySem.Spec PyProof.Rows L2
open Sem (wp)
theorem args_ok (a v : Value) : PySem.argsOk "max" ⟨[a], [(Str.ofString "default", v)]⟩ := by unfold PySem.argsOk; kernel_rfl
section
variable {prog : Program} {w : World} {A : Around} {R : Result → Shared → Prop} {I : Addr} {fp wr : List Addr} {n : Nat} {P : Nat → Value → Prop} {W0 : Nat → Heap → Prop} {dv : Value}
theorem nm : (toString "max" ++ toString ".loop" : String) = "max.loop" := by decide
theorem loopD (W : Walks prog w A.in1 I fp wr n P W0) (bt : Nat → Nat → Bool) (hcmp : CmpOf prog w A.in1 .Gt P bt) (S : Addr) (hSf : S ∉ fp) :
    ∀ (k j : Nat) (s : Shared) (vb : Value) (c : Nat), n - (j + 1) = k → j + 1 ≤ n → W0 (j + 1) s.heap → P (argBest bt j) vb →
    s.heap.get? S = some { cls := .type "list", dict := none, data := .seq #[vb, vb] c, slots := #[] } →
    (∀ v h' tk, P (argBest bt (n - 1)) v → (∀ b o, b ∉ wr → b ≠ S → s.heap.get? b = some o → h'.get? b = some o) → R (.ok (.ret v)) { s with heap := h', toks := tk }) →
    codeAny (model prog w) A (.builtin "max.loop" ⟨[.ref I, .none, .ref S], [("default", dv)]⟩) R s := by
  have hSw : S ∉ wr := fun h => hSf (W.sub _ h)
  intro k
  induction k with
  | zero =>
    intro j s vb c hk hj hst hPb hS hR
    have hin : j + 1 = n := by omega
    apply codeAny_builtin PySem.F.entry_max_loop
    rw [Around.under_plainId PySem.F.plain_max_loop _]
    show wpAny _ A.in1 (seqItems? (.ref S) >>= _) _ _ s
    apply wpAny_bind
    apply wpAny_seqItems hS rfl
    show wpAny _ A.in1 (tryCatch (pyNext (.ref I)) _ >>= _) _ _ s
    refine wpAny_bind (wpAny_tryCatch (W.done s _ _ (hin ▸ hst) fun h' tk kp => ?_))
    have hS' := kp S _ hSw hS
    show wpAny _ A.in1 (updateSeq S (fun _ => #[]) >>= _) _ _ _
    apply wpAny_bind
    refine wpAny_updateSeq hS' rfl (wpAny_bind (wpAny_letGo (wpAny_pure ?_)))
    exact hR vb _ tk (by rw [← hin]; exact hPb) fun b o hbw hbS e => (Heap.get?_update_other _ _ (Ne.symm hbS)).trans (kp b o hbw e)
  | succ k ih =>
    intro j s vb c hk hj hst hPb hS hR
    have hlt : j + 1 < n := by omega
    apply codeAny_builtin PySem.F.entry_max_loop
    rw [Around.under_plainId PySem.F.plain_max_loop _]
    show wpAny _ A.in1 (seqItems? (.ref S) >>= _) _ _ s
    apply wpAny_bind
    apply wpAny_seqItems hS rfl
    show wpAny _ A.in1 (tryCatch (pyNext (.ref I)) _ >>= _) _ _ s
    refine wpAny_bind (wpAny_tryCatch (W.item (j + 1) s _ _ hlt hst fun v h' tk hP hst' kp => ?_))
    have hS' := kp S _ hSw hS
    show wpAny _ A.in1 (tryCatch (holding [v, v] (richCompare .Gt v vb >>= _)) _ >>= _) _ _ _
    refine wpAny_bind (wpAny_tryCatch (wpAny_holding (wpAny_bind (hcmp (j + 1) (argBest bt j) v vb _ _ _ hP hPb ?_))))
    apply wpAny_bind
    refine wpAny_holding (wpAny_truthy_bool ?_)
    refine wpAny_bind (wpAny_letGo (wpAny_pure ?_))
    cases hb : bt (j + 1) (argBest bt j) with
    | true =>
      simp only [if_true]
      apply wpAny_bind
      refine wpAny_updateSeq hS' rfl (wpAny_bind (wpAny_letGo ?_))
      rw [nm]
      refine wpAny_pure ⟨plainId_quiet PySem.F.plain_max_loop _, ih (j + 1) _ v _ (by omega) hlt (W.frame _ _ _ hst' fun b hbf o e => ?_) (by simp only [argBest, hb, if_true]; exact hP) (Heap.get?_update_self _ hS' rfl) fun v' h'' tk'' hP' hk'' => ?_⟩
      · exact (Heap.get?_update_other _ _ (fun h : S = b => hSf (by rw [h]; exact hbf))).trans e
      · exact hR v' h'' tk'' hP' fun b o hbw hbS e => hk'' b o hbw hbS ((Heap.get?_update_other _ _ (Ne.symm hbS)).trans (kp b o hbw e))
    | false =>
      simp only [Bool.false_eq_true, if_false]
      refine wpAny_bind (wpAny_letGo ?_)
      rw [nm]
      refine wpAny_pure ⟨plainId_quiet PySem.F.plain_max_loop _, ih (j + 1) _ vb c (by omega) hlt hst' (by simp only [argBest, hb, Bool.false_eq_true, if_false]; exact hPb) hS' fun v' h'' tk'' hP' hk'' => ?_⟩
      exact hR v' h'' tk'' hP' fun b o hbw hbS e => hk'' b o hbw hbS (kp b o hbw e)
theorem firstD (W : Walks prog w A.in1 I fp wr n P W0) (bt : Nat → Nat → Bool) (hcmp : CmpOf prog w A.in1 .Gt P bt) (S : Addr) (hSf : S ∉ fp) {s : Shared} {c : Nat} (hst : W0 0 s.heap)
    (hS : s.heap.get? S = some { cls := .type "list", dict := none, data := .seq #[] c, slots := #[] })
    (hR : 0 < n → ∀ v h' tk, P (argBest bt (n - 1)) v → (∀ b o, b ∉ wr → b ≠ S → s.heap.get? b = some o → h'.get? b = some o) → R (.ok (.ret v)) { s with heap := h', toks := tk })
    (h0 : n = 0 → ∀ h' tk, (∀ b o, b ∉ wr → b ≠ S → s.heap.get? b = some o → h'.get? b = some o) → R (.ok (.ret dv)) { s with heap := h', toks := tk }) :
    codeAny (model prog w) A (.builtin "max.loop" ⟨[.ref I, .none, .ref S], [("default", dv)]⟩) R s := by
  have hSw : S ∉ wr := fun h => hSf (W.sub _ h)
  apply codeAny_builtin PySem.F.entry_max_loop
  rw [Around.under_plainId PySem.F.plain_max_loop _]
  show wpAny _ A.in1 (seqItems? (.ref S) >>= _) _ _ s
  apply wpAny_bind
  apply wpAny_seqItems hS rfl
  show wpAny _ A.in1 (tryCatch (pyNext (.ref I)) _ >>= _) _ _ s
  by_cases hn : n = 0
  · refine wpAny_bind (wpAny_tryCatch (W.done s _ _ (hn ▸ hst) fun h' tk kp => ?_))
    show wpAny _ A.in1 (rule _ >>= _) _ _ _
    refine wpAny_bind (wpAny_rule (wpAny_pure ?_))
    exact h0 hn h' tk fun b o hbw _ e => kp b o hbw e
  · have hn' : 0 < n := Nat.pos_of_ne_zero hn
    refine wpAny_bind (wpAny_tryCatch (W.item 0 s _ _ hn' hst fun v h' tk hP hst' kp => ?_))
    have hS' := kp S _ hSw hS
    show wpAny _ A.in1 (updateSeq S (fun _ => #[v, v]) >>= _) _ _ _
    apply wpAny_bind
    apply wpAny_updateSeq hS' rfl
    rw [nm]
    refine wpAny_pure ⟨plainId_quiet PySem.F.plain_max_loop _, loopD W bt hcmp S hSf _ 0 _ v _ rfl hn' (W.frame _ _ _ hst' fun b hbf o e => ?_) hP (Heap.get?_update_self _ hS' rfl) fun v' h'' tk'' hP' hk'' => ?_⟩
    · exact (Heap.get?_update_other _ _ (fun h : S = b => hSf (by rw [h]; exact hbf))).trans e
    · exact hR hn' v' h'' tk'' hP' fun b o hbw hbS e => hk'' b o hbw hbS ((Heap.get?_update_other _ _ (Ne.symm hbS)).trans (kp b o hbw e))
end
section
variable {prog : Program} {w : World} {A : Around} {E : Value → Shared → Prop} {s : Shared} {l : Addr} {its : List Value} {ns : List Int} {Q : Value → Shared → Prop} {dv : Value}
theorem callD {xs : Array (Int × Tok)} (hh : A.handled = none) (hl : s.heap.IsList l (intItems xs))
    (h : 0 < xs.size → ∀ v h' tk, (intItems xs)[argBest (fun i j => decide (numAt xs i > numAt xs j)) (xs.size - 1)]? = some v → (∀ b o, s.heap.get? b = some o → h'.get? b = some o) → Q v { s with heap := h', toks := tk })
    (h0 : xs.size = 0 → ∀ h' tk, (∀ b o, s.heap.get? b = some o → h'.get? b = some o) → Q dv { s with heap := h', toks := tk }) :
    wpAny (model prog w) A (call (.builtin "max") [.ref l] [(Str.ofString "default", dv)]) Q E s := by
  refine kmk_tree PySem.F.kind_max PySem.F.plain_max PySem.F.entry_max (args_ok _ _) ?_
  show wpAny _ A.in1 (Builtin.Builtins.bindParams "max" ["key", "default"] 0 ⟨[], [(Str.ofString "default", dv)]⟩ >>= _) _ _ s
  refine wpAny_bind (wpAny_of_eq (show Builtin.Builtins.bindParams "max" ["key", "default"] 0 ⟨[], [(Str.ofString "default", dv)]⟩ = pure [none, some dv] from rfl) ?_)
  refine wpAny_bind (wpAny_pure ?_)
  refine wpAny_bind (iter_intList hl fun s₂ e st hfp hlI => ?_)
  subst e
  refine wpAny_bind (wpAny_newObj_type ?_)
  have hSf : (s.heap.push { cls := .type "list_iterator", data := .fields #[.ref l, .int 0 0] }).objs.size ∉ [s.heap.objs.size, l] := fun hm => Nat.lt_irrefl _ (hfp _ hm)
  rw [nm]
  have W := Walks.list (prog := prog) (w := w) (A := A.in1) hh _ l hlI (intItems xs)
  have hsz : (intItems xs).size = xs.size := by simp [intItems]
  refine wpAny_pure ⟨plainId_quiet PySem.F.plain_max_loop _, firstD W _ (CmpOf.ints_gt (numAt xs) (fun _ _ => intItems_at)) _ hSf (W.frame _ _ _ st fun b _ o e => Heap.get?_push_of_some _ e) (Heap.get?_push_size _ rfl) (fun hn v h' tk hP hk => ?_) fun hn h' tk hk => ?_⟩
  · refine h (by rw [← hsz]; exact hn) v h' tk (by rw [hsz] at hP; exact hP) (old_kept fun b o hbw e => hk b o hbw (Nat.ne_of_lt (Heap.lt_size e)) (Heap.get?_push_of_some _ e))
  · exact h0 (by rw [← hsz]; exact hn) h' tk (old_kept fun b o hbw e => hk b o hbw (Nat.ne_of_lt (Heap.lt_size e)) (Heap.get?_push_of_some _ e))
end
/-- the greatest one, or d -/
def mxD (d : Int) : List Int → Int
  | [] => d
  | n :: r => r.foldl max n
theorem foldl_max : ∀ (l : List Int) (n : Int), (n ≤ l.foldl max n ∧ ∀ a ∈ l, a ≤ l.foldl max n) ∧ (l.foldl max n = n ∨ l.foldl max n ∈ l)
  | [], n => ⟨⟨Int.le_refl _, fun _ h => by cases h⟩, .inl rfl⟩
  | x :: r, n => by
    obtain ⟨⟨h1, h2⟩, h3⟩ := foldl_max r (max n x)
    rw [List.foldl_cons]
    have hn : n ≤ max n x := by omega
    have hx : x ≤ max n x := by omega
    refine ⟨⟨Int.le_trans hn h1, fun a ha => ?_⟩, ?_⟩
    · rcases List.mem_cons.mp ha with e | ha
      · rw [e]; exact Int.le_trans hx h1
      · exact h2 a ha
    · rcases h3 with e | h3
      · rw [e]
        by_cases c : n ≤ x
        · right
          have : max n x = x := by omega
          rw [this]; exact List.mem_cons_self
        · left; omega
      · exact .inr (List.mem_cons_of_mem _ h3)
theorem mxD_of {ns : List Int} {d M : Int} (hm : M ∈ ns) (hg : ∀ a ∈ ns, a ≤ M) : mxD d ns = M := by
  cases ns with
  | nil => cases hm
  | cons n r =>
    obtain ⟨⟨h1, h2⟩, h3⟩ := foldl_max r n
    show r.foldl max n = M
    have a : r.foldl max n ≤ M := by
      rcases h3 with e | h3
      · rw [e]; exact hg n List.mem_cons_self
      · exact hg _ (List.mem_cons_of_mem _ h3)
    have b : M ≤ r.foldl max n := by
      rcases List.mem_cons.mp hm with e | hm
      · rw [e]; exact h1
      · exact h2 M hm
    omega
section
variable {X : Cx}
def rMaxD (K : PySem.W.Frag) : List V → List V → Hp → VK → Prop := fun vs zs H Q => ∃ (a : Addr) (ns : List Int) (d : Int), vs = [V.ref a] ∧ zs = [.int d] ∧ SqL K H a (ns.map V.int) ∧ Q (.int (mxD d ns)) H
theorem cr_maxD (hc : X.calm = true) : CallRK X (.builtin "max") [Str.ofString "default"] (rMaxD X.K) := by
  intro pins s σ H vs zs us ws Q I r rz h
  obtain ⟨a, ns, d, rfl, rfl, hs, q⟩ := h
  obtain ⟨its, rv, hl, _⟩ := I.list hs
  rw [Vals.ref1 r]
  obtain ⟨u, rfl, t, rfl⟩ := Vals.one rz
  have hi := rv.ints
  obtain ⟨xs, e⟩ := hi.allInts.items
  have hn : numsOf (intItems xs).toList = ns := by rw [← e]; exact hi.numsOf
  rw [nums_intItems] at hn
  subst hn
  have hl' := hl.isList
  rw [e] at hl'
  show wpAny _ _ (call (.builtin "max") [.ref a] [(Str.ofString "default", .int d t)]) _ _ _
  refine callD (I.ok.hd hc) hl' (fun hne v h' tk hv hk => ?_) fun h0 h' tk hk => ?_
  · obtain ⟨t', rfl⟩ := intItems_at hv
    obtain ⟨h1, h2⟩ := argBest_gt (numAt xs) (xs.size - 1)
    refine ⟨.int _, H, I.kept hk, ⟨_, rfl⟩, ?_⟩
    rw [mxD_of (M := numAt xs (argBest (fun i j => decide (numAt xs i > numAt xs j)) (xs.size - 1)))] at q
    · exact q
    · rw [numAt_eq]; exact PySem.getD_mem (by rw [List.length_map, Array.length_toList]; omega)
    · intro b hb
      obtain ⟨j, hj, rfl⟩ := mem_getD hb
      rw [List.length_map, Array.length_toList] at hj
      rw [← numAt_eq]; exact h2 j (by omega)
  · refine ⟨.int d, H, I.kept hk, ⟨_, rfl⟩, ?_⟩
    have : xs.toList.map (·.1) = [] := by
      have : xs.toList.length = 0 := by rw [Array.length_toList]; exact h0
      rw [List.length_eq_zero_iff.mp this] <;> rfl
    rw [this] at q
    exact q
end
end MaxD
end Dq

/- Part 12: built-ins on data; names for the operations. -/
namespace Dq
open PySem PySem.Spec PyProof.Rows L2

section
variable {K : PySem.W.Frag} {xw : XK} {X : Cx}
theorem sSub : OS K (rI0 fun i j => .int (i - j)) (fI0 fun i j => .int (i - j)) := sI0 fun _ _ _ _ => at_int' _
theorem sMul : OS K (rI CMul fun i j => .int (i * j)) (fI CMul fun i j => .int (i * j)) := sI fun _ _ _ _ => at_int' _
theorem sMod : OS K (rI (fun _ j => 0 < j) fun i j => .int (i % j)) (fI (fun _ j => 0 < j) fun i j => .int (i % j)) := sI fun _ _ _ _ => at_int' _
theorem sDiv : OS K (rI CDiv fun i j => .int (i / j)) (fI CDiv fun i j => .int (i / j)) := sI fun _ _ _ _ => at_int' _
theorem sPow : OS K (rI CPow fun i j => .int (i ^ j.toNat)) (fI CPow fun i j => .int (i ^ j.toNat)) := sI fun _ _ _ _ => at_int' _
theorem sLt : OS K (rI0 fun i j => .bl (decide (i < j))) (fI0 fun i j => .bl (decide (i < j))) := sI0 fun _ _ _ _ => at_bl' _
theorem sLe : OS K (rI0 fun i j => .bl (decide (i ≤ j))) (fI0 fun i j => .bl (decide (i ≤ j))) := sI0 fun _ _ _ _ => at_bl' _
theorem sGt : OS K (rI0 fun i j => .bl (decide (j < i))) (fI0 fun i j => .bl (decide (j < i))) := sI0 fun _ _ _ _ => at_bl' _
theorem sGe : OS K (rI0 fun i j => .bl (decide (j ≤ i))) (fI0 fun i j => .bl (decide (j ≤ i))) := sI0 fun _ _ _ _ => at_bl' _
def fNeg (x : D) (k : D → Prop) : Prop := onInt x fun i => k (.int (-i))
theorem sNeg : US K (rU fun i => .int (-i)) fNeg := by
  intro M H x vx Qd k hM hx hf hk
  obtain ⟨i, rfl, q⟩ := onInt_of hf
  exact ⟨i, at_int hx, hk _ _ H (keepH H) (at_int' _) q⟩

/-! ### len, int, str, max, min, sum, list, tuple -/
theorem ats1 {M : Addr → Prop} {H : Hp} {d : D} {vs : List V} (h : Ats K M H [d] vs) : ∃ v, vs = [v] ∧ At K M H d v := by
  rw [Ats] at h
  obtain ⟨v, t, e, h1, h2⟩ := h
  rw [Ats] at h2
  exact ⟨v, by rw [e, h2], h1⟩
theorem ats2 {M : Addr → Prop} {H : Hp} {d e : D} {vs : List V} (h : Ats K M H [d, e] vs) : ∃ v u, vs = [v, u] ∧ At K M H d v ∧ At K M H e u := by
  rw [Ats] at h
  obtain ⟨v, t, q, h1, h2⟩ := h
  obtain ⟨u, q2, h3⟩ := ats1 h2
  exact ⟨v, u, by rw [q, q2], h1, h3⟩
def rLen (K : PySem.W.Frag) : List V → Hp → VK → Prop := fun xs H Q => ∃ x n, xs = [x] ∧ LenV K x H n ∧ Q (.int n) H
theorem crLen : CallR X (.builtin "len") (rLen X.K) := call_len
def gLen : List D → (D → Prop) → Prop
  | [.str z], k => z.length ≤ sizeLine ∧ k (.int z.length)
  | [.lst ds], k => k (.int ds.length)
  | [.tup ds], k => k (.int ds.length)
  | [.scr ns], k => k (.int ns.length)
  | _, _ => False
theorem cLen : CS K (rLen K) gLen := by
  intro M H xs vs Qd k hM hx hf hk
  match xs, hf with
  | [.str z], hf =>
    obtain ⟨v, rfl, a⟩ := ats1 hx
    exact ⟨v, z.length, rfl, by rw [at_str a]; exact ⟨hf.1, rfl⟩, hk _ _ H (keepH H) (at_int' _) hf.2⟩
  | [.lst ds], hf =>
    obtain ⟨v, rfl, a⟩ := ats1 hx
    obtain ⟨p, us, rfl, _, q, r⟩ := at_lst a
    exact ⟨.ref p, ds.length, rfl, .inl ⟨us, SqL.of q, r.len.symm⟩, hk _ _ H (keepH H) (at_int' _) hf⟩
  | [.tup ds], hf =>
    obtain ⟨v, rfl, a⟩ := ats1 hx
    obtain ⟨p, us, rfl, _, q, r⟩ := at_tup a
    exact ⟨.ref p, ds.length, rfl, .inr ⟨us, SqT.of q, r.len.symm⟩, hk _ _ H (keepH H) (at_int' _) hf⟩
  | [.scr ns], hf =>
    obtain ⟨v, rfl, a⟩ := ats1 hx
    obtain ⟨p, rfl, q⟩ := scr_sq a
    exact ⟨.ref p, ns.length, rfl, .inl ⟨_, q, by simp⟩, hk _ _ H (keepH H) (at_int' _) hf⟩
def rIntA : List V → Hp → VK → Prop := fun xs H Q => (∃ i, xs = [.int i] ∧ Q (.int i) H) ∨ ∃ k, xs = [.bl k] ∧ Q (.int (if k then 1 else 0)) H
theorem crInt : CallR X (.type "int") rIntA := call_int1
def gInt : List D → (D → Prop) → Prop
  | [.int i], k => k (.int i)
  | [.bl b], k => k (.int (if b then 1 else 0))
  | _, _ => False
theorem cInt : CS K rIntA gInt := by
  intro M H xs vs Qd k hM hx hf hk
  match xs, hf with
  | [.int i], hf =>
    obtain ⟨v, rfl, a⟩ := ats1 hx
    exact .inl ⟨i, by rw [at_int a], hk _ _ H (keepH H) (at_int' _) hf⟩
  | [.bl b], hf =>
    obtain ⟨v, rfl, a⟩ := ats1 hx
    exact .inr ⟨b, by rw [at_bl a], hk _ _ H (keepH H) (at_int' _) hf⟩
def rStrI : List V → Hp → VK → Prop := fun xs H Q => ∃ i : Int, xs = [.int i] ∧ i.natAbs.log2 < 1920 ∧ Q (.str (toString i)) H
theorem crStr : CallR X (.type "str") rStrI := call_str_int
def gStr : List D → (D → Prop) → Prop
  | [.int i], k => i.natAbs.log2 < 1920 ∧ k (.str (toString i))
  | _, _ => False
theorem cStr : CS K rStrI gStr := by
  intro M H xs vs Qd k hM hx hf hk
  match xs, hf with
  | [.int i], hf =>
    obtain ⟨v, rfl, a⟩ := ats1 hx
    exact ⟨i, by rw [at_int a], hf.1, hk _ _ H (keepH H) (at_str' _) hf.2⟩
def rMax2 : List V → Hp → VK → Prop := fun xs H Q => ∃ i j : Int, xs = [.int i, .int j] ∧ Q (.int (if j > i then j else i)) H
def rMin2 : List V → Hp → VK → Prop := fun xs H Q => ∃ i j : Int, xs = [.int i, .int j] ∧ Q (.int (if j < i then j else i)) H
theorem crMax2 (hc : X.calm = true) : CallR X (.builtin "max") rMax2 := call_max2 hc
theorem crMin2 (hc : X.calm = true) : CallR X (.builtin "min") rMin2 := call_min2 hc
def gMax2 : List D → (D → Prop) → Prop
  | [.int i, .int j], k => k (.int (if j > i then j else i))
  | _, _ => False
def gMin2 : List D → (D → Prop) → Prop
  | [.int i, .int j], k => k (.int (if j < i then j else i))
  | _, _ => False
theorem cMax2 : CS K rMax2 gMax2 := by
  intro M H xs vs Qd k hM hx hf hk
  match xs, hf with
  | [.int i, .int j], hf =>
    obtain ⟨v, u, rfl, a, b⟩ := ats2 hx
    exact ⟨i, j, by rw [at_int a, at_int b], hk _ _ H (keepH H) (at_int' _) hf⟩
theorem cMin2 : CS K rMin2 gMin2 := by
  intro M H xs vs Qd k hM hx hf hk
  match xs, hf with
  | [.int i, .int j], hf =>
    obtain ⟨v, u, rfl, a, b⟩ := ats2 hx
    exact ⟨i, j, by rw [at_int a, at_int b], hk _ _ H (keepH H) (at_int' _) hf⟩
def onInts : List D → (List Int → Prop) → Prop
  | [], k => k []
  | .int i :: r, k => onInts r fun ns => k (i :: ns)
  | _ :: _, _ => False
theorem onInts_cons {d : D} {r : List D} {k : List Int → Prop} (h : onInts (d :: r) k) : ∃ i, d = .int i ∧ onInts r fun ns => k (i :: ns) := by
  cases d with
  | int i => exact ⟨i, rfl, h⟩
  | _ => exact h.elim
theorem ints_of {M : Addr → Prop} {H : Hp} {ds : List D} : ∀ {vs : List V} {k : List Int → Prop}, Ats K M H ds vs → onInts ds k → ∃ ns, vs = ns.map V.int ∧ k ns := by
  induction ds with
  | nil =>
    intro vs k h q
    rw [Ats] at h
    exact ⟨[], by rw [h] <;> rfl, q⟩
  | cons d r ih =>
    intro vs k h q
    rw [Ats] at h
    obtain ⟨v, t, e, h1, h2⟩ := h
    obtain ⟨i, rfl, q⟩ := onInts_cons q
    obtain ⟨ns, e2, q2⟩ := ih h2 q
    exact ⟨i :: ns, by rw [e, at_int h1, e2] <;> rfl, q2⟩
def gSum : List D → (D → Prop) → Prop
  | [.lst ds], k => onInts ds fun ns => k (.int ns.sum)
  | _, _ => False
theorem cSum : CS K (rSum K) gSum := by
  intro M H xs vs Qd k hM hx hf hk
  match xs, hf with
  | [.lst ds], hf =>
    obtain ⟨v, rfl, a⟩ := ats1 hx
    obtain ⟨p, us, rfl, _, q, r⟩ := at_lst a
    obtain ⟨ns, rfl, q2⟩ := ints_of r hf
    exact ⟨p, ns, rfl, SqL.of q, hk _ _ H (keepH H) (at_int' _) q2⟩
/-- max(xs, default = d) -/
def dMaxD (d : Int) (t : DE) : DE := fun E δ Q => t E δ fun x δ1 => match x with
  | .lst ds => onInts ds fun ns => Q (.int (MaxD.mxD d ns)) δ1
  | _ => False
theorem se_maxD {ta : TE} {da : DE} {d : Int} (h : SE K xw ta da) : SE K xw (tCKw (MaxD.rMaxD K) (tCons ta tNil) (tCons (tC (.int d)) tNil)) (dMaxD d da) := by
  intro Mx σ δ H E Q k rp xl ht hk
  refine h Mx σ δ H E _ _ rp xl ht fun v x δ1 H1 r1 t1 a1 q1 => ?_
  match x, q1 with
  | .lst ds, q1 =>
    obtain ⟨p, us, rfl, _, q, r⟩ := at_lst a1
    obtain ⟨ns, rfl, q2⟩ := ints_of r q1
    exact ⟨p, ns, d, rfl, rfl, SqL.of q, hk _ _ δ1 H1 r1 t1 (at_int' _) q2⟩
def rListA (K : PySem.W.Frag) : List V → Hp → VK → Prop := fun xs H Q => ∃ p ys, xs = [.ref p] ∧ (SqL K H p ys ∨ SqT K H p ys) ∧ ∀ l, H l = none → Q (.ref l) (upd H l (.lst ys))
theorem crList : CallR X (.type "list") (rListA X.K) := call_list_of
def rTupA (K : PySem.W.Frag) : List V → Hp → VK → Prop := fun xs H Q => ∃ p ys, xs = [.ref p] ∧ ((SqL K H p ys ∧ ∀ l, H l = none → Q (.ref l) (upd H l (.tup ys))) ∨ (SqT K H p ys ∧ Q (.ref p) H))
theorem crTup : CallR X (.type "tuple") (rTupA X.K) := call_tuple_of
def gList : List D → (D → Prop) → Prop
  | [.lst ds], k => k (.lst ds)
  | [.tup ds], k => k (.lst ds)
  | _, _ => False
def gTpl : List D → (D → Prop) → Prop
  | [.lst ds], k => k (.tup ds)
  | [.tup ds], k => k (.tup ds)
  | _, _ => False
theorem cList : CS K (rListA K) gList := by
  intro M H xs vs Qd k hM hx hf hk
  match xs, hf with
  | [.lst ds], hf =>
    obtain ⟨v, rfl, a⟩ := ats1 hx
    obtain ⟨p, us, rfl, _, q, r⟩ := at_lst a
    exact ⟨p, us, rfl, .inl (SqL.of q), fun l hl => hk _ _ _ (newH hl) (at_lst' hM hl r) hf⟩
  | [.tup ds], hf =>
    obtain ⟨v, rfl, a⟩ := ats1 hx
    obtain ⟨p, us, rfl, _, q, r⟩ := at_tup a
    exact ⟨p, us, rfl, .inr (SqT.of q), fun l hl => hk _ _ _ (newH hl) (at_lst' hM hl r) hf⟩
theorem cTup : CS K (rTupA K) gTpl := by
  intro M H xs vs Qd k hM hx hf hk
  match xs, hf with
  | [.lst ds], hf =>
    obtain ⟨v, rfl, a⟩ := ats1 hx
    obtain ⟨p, us, rfl, _, q, r⟩ := at_lst a
    exact ⟨p, us, rfl, .inl ⟨SqL.of q, fun l hl => hk _ _ _ (newH hl) (at_tup' hM hl r) hf⟩⟩
  | [.tup ds], hf =>
    obtain ⟨v, rfl, a⟩ := ats1 hx
    have a' := a
    obtain ⟨p, us, rfl, _, q, r⟩ := at_tup a
    exact ⟨p, us, rfl, .inr ⟨SqT.of q, hk _ _ H (keepH H) a' hf⟩⟩

/-! ### isinstance -/
def D.ty : D → String
  | .non => "NoneType" | .bl _ => "bool" | .int _ => "int" | .str _ => "str" | .tup _ => "tuple" | .lst _ => "list" | .dct _ _ => "dict" | .scr _ => "list"
def dIsi (p : D → Bool) (t : DE) : DE := fun E δ Q => t E δ fun d δ1 => Q (.bl (p d)) δ1
/-- T is one of the types that are asked for -/
def OkT (T : String) (p : D → Bool) : Prop := ∀ d : D, kitB d.ty T = some (p d)
theorem ty_of {M : Addr → Prop} {H : Hp} {d : D} {v : V} (h : At K M H d v) : TyX K H v (.type d.ty) := by
  cases d with
  | non => rw [At] at h; rw [h]; exact .base .non
  | bl b => rw [At] at h; rw [h]; exact .base (.bl b)
  | int b => rw [At] at h; rw [h]; exact .base (.int b)
  | str b => rw [At] at h; rw [h]; exact .base (.str b)
  | tup ds => obtain ⟨a, vs, rfl, _, q, _⟩ := at_tup h; exact .base (.tup q)
  | lst ds => obtain ⟨a, vs, rfl, _, q, _⟩ := at_lst h; exact .base (.lst q)
  | dct ks ds => rw [At] at h; obtain ⟨a, vs, rfl, _, q, _⟩ := h; exact .base (.dK q)
  | scr ns =>
    rw [At] at h
    obtain ⟨a, rfl, ⟨_, o, q⟩ | ⟨o, its, n, e, c, _⟩⟩ := h
    · exact .base (.frz q)
    · exact .kList e c
theorem se_isi {ta : TE} {da : DE} {T : String} {p : D → Bool} (hT : OkT T p) (h : SE K xw ta da) : SE K xw (tCB (rIsi K) (tCons ta (tCons (tC (.ty T)) tNil))) (dIsi p da) := by
  intro Mx σ δ H E Q k rp xl ht hk
  refine h Mx σ δ H E _ _ rp xl ht fun v d δ1 H1 r1 t1 a1 q1 => ?_
  exact ⟨v, .ty T, .type d.ty, .type T, p d, rfl, .ty T, ty_of a1, kit_ty (hT d), hk _ _ δ1 H1 r1 t1 (at_bl' _) q1⟩
def D.is_int : D → Bool
  | .bl _ => true
  | .int _ => true
  | _ => false
theorem okT_int : OkT "int" D.is_int
  | .non => (by decide +kernel : kitB "NoneType" "int" = some false)
  | .bl _ => (by decide +kernel : kitB "bool" "int" = some true)
  | .int _ => (by decide +kernel : kitB "int" "int" = some true)
  | .str _ => (by decide +kernel : kitB "str" "int" = some false)
  | .tup _ => (by decide +kernel : kitB "tuple" "int" = some false)
  | .lst _ => (by decide +kernel : kitB "list" "int" = some false)
  | .scr _ => (by decide +kernel : kitB "list" "int" = some false)
  | .dct _ _ => (by decide +kernel : kitB "dict" "int" = some false)
def D.is_bool : D → Bool
  | .bl _ => true
  | _ => false
theorem okT_bool : OkT "bool" D.is_bool
  | .non => (by decide +kernel : kitB "NoneType" "bool" = some false)
  | .bl _ => (by decide +kernel : kitB "bool" "bool" = some true)
  | .int _ => (by decide +kernel : kitB "int" "bool" = some false)
  | .str _ => (by decide +kernel : kitB "str" "bool" = some false)
  | .tup _ => (by decide +kernel : kitB "tuple" "bool" = some false)
  | .lst _ => (by decide +kernel : kitB "list" "bool" = some false)
  | .scr _ => (by decide +kernel : kitB "list" "bool" = some false)
  | .dct _ _ => (by decide +kernel : kitB "dict" "bool" = some false)
def D.is_str : D → Bool
  | .str _ => true
  | _ => false
theorem okT_str : OkT "str" D.is_str
  | .non => (by decide +kernel : kitB "NoneType" "str" = some false)
  | .bl _ => (by decide +kernel : kitB "bool" "str" = some false)
  | .int _ => (by decide +kernel : kitB "int" "str" = some false)
  | .str _ => (by decide +kernel : kitB "str" "str" = some true)
  | .tup _ => (by decide +kernel : kitB "tuple" "str" = some false)
  | .lst _ => (by decide +kernel : kitB "list" "str" = some false)
  | .scr _ => (by decide +kernel : kitB "list" "str" = some false)
  | .dct _ _ => (by decide +kernel : kitB "dict" "str" = some false)
def D.is_tuple : D → Bool
  | .tup _ => true
  | _ => false
theorem okT_tuple : OkT "tuple" D.is_tuple
  | .non => (by decide +kernel : kitB "NoneType" "tuple" = some false)
  | .bl _ => (by decide +kernel : kitB "bool" "tuple" = some false)
  | .int _ => (by decide +kernel : kitB "int" "tuple" = some false)
  | .str _ => (by decide +kernel : kitB "str" "tuple" = some false)
  | .tup _ => (by decide +kernel : kitB "tuple" "tuple" = some true)
  | .lst _ => (by decide +kernel : kitB "list" "tuple" = some false)
  | .scr _ => (by decide +kernel : kitB "list" "tuple" = some false)
  | .dct _ _ => (by decide +kernel : kitB "dict" "tuple" = some false)
def D.is_list : D → Bool
  | .lst _ => true
  | .scr _ => true
  | _ => false
theorem okT_list : OkT "list" D.is_list
  | .non => (by decide +kernel : kitB "NoneType" "list" = some false)
  | .bl _ => (by decide +kernel : kitB "bool" "list" = some false)
  | .int _ => (by decide +kernel : kitB "int" "list" = some false)
  | .str _ => (by decide +kernel : kitB "str" "list" = some false)
  | .tup _ => (by decide +kernel : kitB "tuple" "list" = some false)
  | .lst _ => (by decide +kernel : kitB "list" "list" = some true)
  | .scr _ => (by decide +kernel : kitB "list" "list" = some true)
  | .dct _ _ => (by decide +kernel : kitB "dict" "list" = some false)

/-! ### "".join(xs) -/
def onStrs : List D → (List Str → Prop) → Prop
  | [], k => k []
  | .str i :: r, k => onStrs r fun ns => k (i :: ns)
  | _ :: _, _ => False
theorem onStrs_cons {d : D} {r : List D} {k : List Str → Prop} (h : onStrs (d :: r) k) : ∃ i, d = .str i ∧ onStrs r fun ns => k (i :: ns) := by
  cases d with
  | str i => exact ⟨i, rfl, h⟩
  | _ => exact h.elim
theorem strs_of {M : Addr → Prop} {H : Hp} {ds : List D} : ∀ {vs : List V} {k : List Str → Prop}, Ats K M H ds vs → onStrs ds k → ∃ ns, vs = ns.map V.str ∧ k ns := by
  induction ds with
  | nil =>
    intro vs k h q
    rw [Ats] at h
    exact ⟨[], by rw [h] <;> rfl, q⟩
  | cons d r ih =>
    intro vs k h q
    rw [Ats] at h
    obtain ⟨v, t, e, h1, h2⟩ := h
    obtain ⟨i, rfl, q⟩ := onStrs_cons q
    obtain ⟨ns, e2, q2⟩ := ih h2 q
    exact ⟨i :: ns, by rw [e, at_str h1, e2] <;> rfl, q2⟩
end
end Dq

/- Part 13: join; what a def of the text is; short facts for the walks. -/
namespace Dq
open PySem PySem.Spec PyProof.Rows L2
section
variable {K : PySem.W.Frag} {xw : XK} {X : Cx}
def rJoin (K : PySem.W.Frag) : V → List V → Hp → VK → Prop := fun x xs H Q => ∃ a p, ∃ ys : List Str, x = .str a ∧ xs = [.ref p] ∧ (SqL K H p (ys.map V.str) ∨ SqT K H p (ys.map V.str)) ∧ (ys.map (·.length)).sum + ys.length * a.length ≤ 16777216 ∧ Q (.str (Txt.join a ys)) H
def dJoinOwn (z : Str) (i : Nat) : DE := fun _ δ Q => onOwn δ[i]? fun ds => onStrs ds fun ys => decide ((ys.map (·.length)).sum + ys.length * z.length ≤ 16777216) = true ∧ Q (.str (Txt.join z ys)) δ
theorem se_joinOwn {i : Nat} {z : Str} : SE K xw (tM1 (rJoin K) (tC (.str z)) (tVar i)) (dJoinOwn z i) := by
  intro Mx σ δ H E Q k rp xl ht hk
  obtain ⟨ds, e, ht⟩ := onOwn_of ht
  obtain ⟨a, vs, ea, ha, za⟩ := own_at rp e
  obtain ⟨ns, rfl, hz, q⟩ := strs_of za ht
  exact ⟨⟨z, rfl⟩, .ref a, ea, z, a, ns, rfl, rfl, .inl (SqL.of ha), of_decide_eq_true hz, hk _ _ δ H rp Tr.refl (at_str' _) q⟩
def dJoin (z : Str) (t : DE) : DE := fun E δ Q => t E δ fun d δ1 => match d with
  | .lst ds => onStrs ds fun ys => decide ((ys.map (·.length)).sum + ys.length * z.length ≤ 16777216) = true ∧ Q (.str (Txt.join z ys)) δ1
  | _ => False
theorem se_join {z : Str} {te : TE} {dt : DE} (h : SE K xw te dt) : SE K xw (tM1 (rJoin K) (tC (.str z)) te) (dJoin z dt) := by
  intro Mx σ δ H E Q k rp xl ht hk
  refine ⟨⟨z, rfl⟩, ?_⟩
  refine h Mx σ δ H E _ _ rp xl ht fun v d δ1 H1 r1 t1 a1 q1 => ?_
  match d, q1 with
  | .lst ds, q1 =>
    obtain ⟨a, vs, rfl, _, ha, za⟩ := at_lst a1
    obtain ⟨ns, rfl, hz, q⟩ := strs_of za q1
    exact ⟨z, a, ns, rfl, rfl, .inl (SqL.of ha), of_decide_eq_true hz, hk _ _ δ1 H1 r1 t1 (at_str' _) q⟩
end

/-- a def of the text behind the top: its object, its name, how its arguments bind -/
structure Df (K : PySem.W.Frag) (mg : Str → Option Value) (x : Str) (st : Stmt) (ps : List Str) (f : Addr) (fd : FuncData) : Prop where
  F : Fun K x x st f fd
  g : mg x = some (.ref f)
  b : Binds K fd ps []
section
variable {P : Program} {w : World} {K : PySem.W.Frag} {mg : Str → Option Value} {base : Heap} {N : List Str} {qual : Str} {sc : Scope} {f : Addr} {cdv : Value} {A : Around} {outer : List Env} {s : Shared} {H : Hp} {E : XK}
/-- in a def's body: what is let out is what the def's caller wishes -/
theorem passE : Passes (L2.CX P w) (cxOf (L2.CX P w) P w K mg base N qual sc f cdv A outer s H E) E := passes_call (W := fun c d _ H => E c d H) (takes_of rfl rfl rfl rfl) fun _ _ _ _ h => h
theorem passOwn : PassesOwn (model P w) (cxOf (L2.CX P w) P w K mg base N qual sc f cdv A outer s H E).A (cxOf (L2.CX P w) P w K mg base N qual sc f cdv A outer s H E).env (cxOf (L2.CX P w) P w K mg base N qual sc f cdv A outer s H E).xe := passes_of rfl
end

/-! ### comprehensions whose items are told one by one -/
theorem set_back {δ : Dst} {j : Nat} (h : δ[j]? = some none) (x : Option Sl) : (δ.set j x).set j none = δ := by
  rw [List.set_set]
  refine List.ext_getElem? fun i => ?_
  by_cases hi : j = i
  · subst hi
    rw [h, List.getElem?_set_self (List.getElem?_eq_some_iff.mp h).1]
  · rw [List.getElem?_set_ne hi]
theorem lcGo_map {α : Type} {j : Nat} {de : DE} {δ : Dst} (h g : α → D) (hj : δ[j]? = some none) : ∀ {ys : List α} {acc : List D} {Q : List D → Dst → Prop}, (∀ y ∈ ys, ∀ Q : DK, Q (g y) (δ.set j (some (.val (h y)))) → de (fun _ => False) (δ.set j (some (.val (h y)))) Q) → acc.length + ys.length ≤ 100000 →
    Q (acc ++ ys.map g) δ → lcGo j dYes de (ys.map h) acc δ Q
  | [], acc, Q, _, _, q => by simpa [lcGo] using q
  | x :: r, acc, Q, hh, hl, q => by
    rw [List.map_cons]
    simp only [lcGo, dYes, if_true]
    refine hh x List.mem_cons_self _ ⟨⟨decide_eq_true (by simp at hl; omega), ?_⟩, ?_⟩
    · have jl := (List.getElem?_eq_some_iff.mp hj).1
      unfold okSet
      rw [List.getElem?_set_self jl]
      rfl
    · rw [set_back hj]
      refine lcGo_map h g hj (fun y hy => hh y (List.mem_cons_of_mem _ hy)) (by simp at hl ⊢; omega) ?_
      simpa using q
theorem onInts_map {α : Type} (f : α → Int) : ∀ (ys : List α) (k : List Int → Prop), onInts (ys.map fun y => .int (f y)) k ↔ k (ys.map f)
  | [], k => Iff.rfl
  | y :: r, k => onInts_map f r fun ns => k (f y :: ns)
theorem onStrs_map {α : Type} (f : α → Str) : ∀ (ys : List α) (k : List Str → Prop), onStrs (ys.map fun y => .str (f y)) k ↔ k (ys.map f)
  | [], k => Iff.rfl
  | y :: r, k => onStrs_map f r fun ns => k (f y :: ns)
theorem lcGo_filter {α : Type} {j : Nat} {dt : DT} {de : DE} {δ : Dst} (h g : α → D) (p : α → Bool) (hj : δ[j]? = some none) : ∀ {ys : List α} {acc : List D} {Q : List D → Dst → Prop},
    (∀ y ∈ ys, ∀ Q : Bool → Dst → Prop, Q (p y) (δ.set j (some (.val (h y)))) → dt (fun _ => False) (δ.set j (some (.val (h y)))) Q) →
    (∀ y ∈ ys, p y = true → ∀ Q : DK, Q (g y) (δ.set j (some (.val (h y)))) → de (fun _ => False) (δ.set j (some (.val (h y)))) Q) → acc.length + ys.length ≤ 100000 →
    Q (acc ++ (ys.filter p).map g) δ → lcGo j dt de (ys.map h) acc δ Q
  | [], acc, Q, _, _, _, q => by simpa [lcGo] using q
  | x :: r, acc, Q, ht, hh, hl, q => by
    have jl := (List.getElem?_eq_some_iff.mp hj).1
    have ok : okSet (δ.set j (some (.val (h x)))) j := by
      unfold okSet
      rw [List.getElem?_set_self jl]
      rfl
    rw [List.map_cons]
    refine ht x List.mem_cons_self _ ?_
    cases hp : p x with
    | true =>
      rw [if_pos rfl]
      refine hh x List.mem_cons_self hp _ ⟨⟨decide_eq_true (by simp at hl; omega), ok⟩, ?_⟩
      rw [set_back hj]
      refine lcGo_filter h g p hj (fun y hy => ht y (List.mem_cons_of_mem _ hy)) (fun y hy => hh y (List.mem_cons_of_mem _ hy)) (by simp at hl ⊢; omega) ?_
      simpa [List.filter_cons, hp] using q
    | false =>
      rw [if_neg Bool.false_ne_true]
      refine ⟨ok, ?_⟩
      rw [set_back hj]
      refine lcGo_filter h g p hj (fun y hy => ht y (List.mem_cons_of_mem _ hy)) (fun y hy => hh y (List.mem_cons_of_mem _ hy)) (by simp at hl ⊢; omega) ?_
      simpa [List.filter_cons, hp] using q
/-! ### loops by an invariant -/
theorem dLoop_inv {g : DG} {tb : DS} {E : Addr → Prop} {De : DEnds} (I : List D → Dst → Prop)
    (hs : ∀ (x : D) (r : List D) (δ : Dst) (N : Dst → Prop), I (x :: r) δ → (∀ δ', I r δ' → N δ') → g x δ fun δ1 => tb E { De with nx := N, ct := N, bk := De.nx } δ1) (he : ∀ δ, I [] δ → De.nx δ) : ∀ {xs : List D} {δ : Dst}, I xs δ → dLoop g tb E De xs δ
  | [], δ, h => he δ h
  | x :: r, δ, h => hs x r δ _ h fun δ' h' => dLoop_inv I hs he h'
theorem dWh_inv {t : DT} {tb : DS} {E : Addr → Prop} {De : DEnds} (I : Nat → Dst → Prop) (h0 : ∀ δ, ¬ I 0 δ)
    (hs : ∀ (n : Nat) (δ : Dst) (N : Dst → Prop), I (n + 1) δ → (∀ δ', I n δ' → N δ') → t E δ fun b δ1 => if b = true then tb E { De with nx := N, ct := N, bk := De.nx } δ1 else De.nx δ1) : ∀ {n : Nat} {δ : Dst}, I n δ → dWh t tb E De n δ
  | 0, δ, h => (h0 δ h).elim
  | n + 1, δ, h => hs n δ _ h fun δ' h' => dWh_inv I h0 hs h'
end Dq

/- Part 14: reckoning on data. -/
namespace Dq
open PySem PySem.Spec PyProof.Rows L2
theorem deq_refl (x : Str) : D.eq (.str x) (.str x) = true := by simp [D.eq, D.toPy, PyData.eqv]
theorem deq_str (x y : Str) : D.eq (.str x) (.str y) = decide (x = y) := by
  show (x == y) = decide (x = y)
  rw [Bool.eq_iff_iff]; simp
theorem deq_int (x y : Int) : D.eq (.int x) (.int y) = decide (x = y) := by
  show (x == y) = decide (x = y)
  rw [Bool.eq_iff_iff]; simp
theorem okEq_str (x y : Str) : okEq (.str x) (.str y) = true := rfl
theorem okEq_int (x y : Int) : okEq (.int x) (.int y) = true := rfl
theorem atI0 {α : Type} (a : α) (r : List α) : atI (a :: r) 0 = some a := by simp [atI, ixN]
theorem atI1 {α : Type} (a b : α) (r : List α) : atI (a :: b :: r) 1 = some b := by
  have h : (1 : Int) < ((a :: b :: r).length : Int) := by simp; omega
  unfold atI ixN
  rw [if_pos (by decide), if_pos h] <;> rfl
theorem atI2 {α : Type} (a b c : α) (r : List α) : atI (a :: b :: c :: r) 2 = some c := by
  have h : (2 : Int) < ((a :: b :: c :: r).length : Int) := by simp; omega
  unfold atI ixN
  rw [if_pos (by decide), if_pos h] <;> rfl
theorem atI3 {α : Type} (a b c d : α) (r : List α) : atI (a :: b :: c :: d :: r) 3 = some d := by
  have h : (3 : Int) < ((a :: b :: c :: d :: r).length : Int) := by simp; omega
  unfold atI ixN
  rw [if_pos (by decide), if_pos h] <;> rfl
theorem atI4 {α : Type} (a b c d e : α) (r : List α) : atI (a :: b :: c :: d :: e :: r) 4 = some e := by
  have h : (4 : Int) < ((a :: b :: c :: d :: e :: r).length : Int) := by simp; omega
  unfold atI ixN
  rw [if_pos (by decide), if_pos h] <;> rfl
theorem atI5 {α : Type} (a b c d e f : α) (r : List α) : atI (a :: b :: c :: d :: e :: f :: r) 5 = some f := by
  have h : (5 : Int) < ((a :: b :: c :: d :: e :: f :: r).length : Int) := by simp; omega
  unfold atI ixN
  rw [if_pos (by decide), if_pos h] <;> rfl
theorem cut1 {α : Type} (a : α) (r : List α) : cutD (a :: r) (some 1) none = r := by
  have e : HT.sIx (a :: r).length 0 (some 1) = 1 := by simp [HT.sIx]
  unfold cutD
  rw [e, HT.sIx_none]
  simp
theorem fSl1 (a : D) (r : List D) (k : D → Prop) : fSl (.tup (a :: r)) (some 1) none k = k (.tup r) := by
  have e : HT.sIx (a :: r).length 0 (some 1) = 1 := by simp [HT.sIx]
  show (¬ (HT.sIx (a :: r).length 0 (some 1) = 0 ∧ _) ∧ k (.tup (cutD (a :: r) (some 1) none))) = _
  rw [e, cut1]
  simp
theorem atI_q {α : Type} (xs : List α) (k : Nat) : atI xs (k : Int) = xs[k]? := by
  by_cases h : k < xs.length
  · obtain ⟨v, e⟩ : ∃ v, xs[k]? = some v := ⟨_, List.getElem?_eq_getElem h⟩
    rw [e]; exact atI_nat e
  · rw [List.getElem?_eq_none (by omega)]
    unfold atI ixN
    rw [if_pos (by omega), if_neg (by omega)] <;> rfl
theorem atI_i {α : Type} {xs : List α} {i : Int} (h : 0 ≤ i) : atI xs i = xs[i.toNat]? := by
  have q := atI_q xs i.toNat
  rw [show ((i.toNat : Nat) : Int) = i by omega] at q
  exact q
theorem onSome_s {α : Type} (x : α) (k : α → Prop) : onSome (some x) k = k x := rfl
theorem ite_dec {p : Prop} [Decidable p] {A B : Prop} : (if decide p = true then A else B) = (if p then A else B) := by
  by_cases h : p <;> simp [h]
theorem w_num_name : D.eq (.str (Str.ofString "num")) (.str (Str.ofString "name")) = false := by decide +kernel
theorem w_num_sum : D.eq (.str (Str.ofString "num")) (.str (Str.ofString "sum")) = false := by decide +kernel
theorem w_num_product : D.eq (.str (Str.ofString "num")) (.str (Str.ofString "product")) = false := by decide +kernel
theorem w_num_less : D.eq (.str (Str.ofString "num")) (.str (Str.ofString "less")) = false := by decide +kernel
theorem w_num_when : D.eq (.str (Str.ofString "num")) (.str (Str.ofString "when")) = false := by decide +kernel
theorem w_num_let : D.eq (.str (Str.ofString "num")) (.str (Str.ofString "let")) = false := by decide +kernel
theorem w_num_turns : D.eq (.str (Str.ofString "num")) (.str (Str.ofString "turns")) = false := by decide +kernel
theorem w_num_def : D.eq (.str (Str.ofString "num")) (.str (Str.ofString "def")) = false := by decide +kernel
theorem w_num_use : D.eq (.str (Str.ofString "num")) (.str (Str.ofString "use")) = false := by decide +kernel
theorem w_num_quote : D.eq (.str (Str.ofString "num")) (.str (Str.ofString "quote")) = false := by decide +kernel
theorem w_num_hole : D.eq (.str (Str.ofString "num")) (.str (Str.ofString "hole")) = false := by decide +kernel
theorem w_num_lift : D.eq (.str (Str.ofString "num")) (.str (Str.ofString "lift")) = false := by decide +kernel
theorem w_num_run : D.eq (.str (Str.ofString "num")) (.str (Str.ofString "run")) = false := by decide +kernel
theorem w_num_number : D.eq (.str (Str.ofString "num")) (.str (Str.ofString "number")) = false := by decide +kernel
theorem w_num_piece : D.eq (.str (Str.ofString "num")) (.str (Str.ofString "piece")) = false := by decide +kernel
theorem w_num_kept : D.eq (.str (Str.ofString "num")) (.str (Str.ofString "kept")) = false := by decide +kernel
theorem w_name_num : D.eq (.str (Str.ofString "name")) (.str (Str.ofString "num")) = false := by decide +kernel
theorem w_name_sum : D.eq (.str (Str.ofString "name")) (.str (Str.ofString "sum")) = false := by decide +kernel
theorem w_name_product : D.eq (.str (Str.ofString "name")) (.str (Str.ofString "product")) = false := by decide +kernel
theorem w_name_less : D.eq (.str (Str.ofString "name")) (.str (Str.ofString "less")) = false := by decide +kernel
theorem w_name_when : D.eq (.str (Str.ofString "name")) (.str (Str.ofString "when")) = false := by decide +kernel
theorem w_name_let : D.eq (.str (Str.ofString "name")) (.str (Str.ofString "let")) = false := by decide +kernel
theorem w_name_turns : D.eq (.str (Str.ofString "name")) (.str (Str.ofString "turns")) = false := by decide +kernel
theorem w_name_def : D.eq (.str (Str.ofString "name")) (.str (Str.ofString "def")) = false := by decide +kernel
theorem w_name_use : D.eq (.str (Str.ofString "name")) (.str (Str.ofString "use")) = false := by decide +kernel
theorem w_name_quote : D.eq (.str (Str.ofString "name")) (.str (Str.ofString "quote")) = false := by decide +kernel
theorem w_name_hole : D.eq (.str (Str.ofString "name")) (.str (Str.ofString "hole")) = false := by decide +kernel
theorem w_name_lift : D.eq (.str (Str.ofString "name")) (.str (Str.ofString "lift")) = false := by decide +kernel
theorem w_name_run : D.eq (.str (Str.ofString "name")) (.str (Str.ofString "run")) = false := by decide +kernel
theorem w_name_number : D.eq (.str (Str.ofString "name")) (.str (Str.ofString "number")) = false := by decide +kernel
theorem w_name_piece : D.eq (.str (Str.ofString "name")) (.str (Str.ofString "piece")) = false := by decide +kernel
theorem w_name_kept : D.eq (.str (Str.ofString "name")) (.str (Str.ofString "kept")) = false := by decide +kernel
theorem w_sum_num : D.eq (.str (Str.ofString "sum")) (.str (Str.ofString "num")) = false := by decide +kernel
theorem w_sum_name : D.eq (.str (Str.ofString "sum")) (.str (Str.ofString "name")) = false := by decide +kernel
theorem w_sum_product : D.eq (.str (Str.ofString "sum")) (.str (Str.ofString "product")) = false := by decide +kernel
theorem w_sum_less : D.eq (.str (Str.ofString "sum")) (.str (Str.ofString "less")) = false := by decide +kernel
theorem w_sum_when : D.eq (.str (Str.ofString "sum")) (.str (Str.ofString "when")) = false := by decide +kernel
theorem w_sum_let : D.eq (.str (Str.ofString "sum")) (.str (Str.ofString "let")) = false := by decide +kernel
theorem w_sum_turns : D.eq (.str (Str.ofString "sum")) (.str (Str.ofString "turns")) = false := by decide +kernel
theorem w_sum_def : D.eq (.str (Str.ofString "sum")) (.str (Str.ofString "def")) = false := by decide +kernel
theorem w_sum_use : D.eq (.str (Str.ofString "sum")) (.str (Str.ofString "use")) = false := by decide +kernel
theorem w_sum_quote : D.eq (.str (Str.ofString "sum")) (.str (Str.ofString "quote")) = false := by decide +kernel
theorem w_sum_hole : D.eq (.str (Str.ofString "sum")) (.str (Str.ofString "hole")) = false := by decide +kernel
theorem w_sum_lift : D.eq (.str (Str.ofString "sum")) (.str (Str.ofString "lift")) = false := by decide +kernel
theorem w_sum_run : D.eq (.str (Str.ofString "sum")) (.str (Str.ofString "run")) = false := by decide +kernel
theorem w_sum_number : D.eq (.str (Str.ofString "sum")) (.str (Str.ofString "number")) = false := by decide +kernel
theorem w_sum_piece : D.eq (.str (Str.ofString "sum")) (.str (Str.ofString "piece")) = false := by decide +kernel
theorem w_sum_kept : D.eq (.str (Str.ofString "sum")) (.str (Str.ofString "kept")) = false := by decide +kernel
theorem w_product_num : D.eq (.str (Str.ofString "product")) (.str (Str.ofString "num")) = false := by decide +kernel
theorem w_product_name : D.eq (.str (Str.ofString "product")) (.str (Str.ofString "name")) = false := by decide +kernel
theorem w_product_sum : D.eq (.str (Str.ofString "product")) (.str (Str.ofString "sum")) = false := by decide +kernel
theorem w_product_less : D.eq (.str (Str.ofString "product")) (.str (Str.ofString "less")) = false := by decide +kernel
theorem w_product_when : D.eq (.str (Str.ofString "product")) (.str (Str.ofString "when")) = false := by decide +kernel
theorem w_product_let : D.eq (.str (Str.ofString "product")) (.str (Str.ofString "let")) = false := by decide +kernel
theorem w_product_turns : D.eq (.str (Str.ofString "product")) (.str (Str.ofString "turns")) = false := by decide +kernel
theorem w_product_def : D.eq (.str (Str.ofString "product")) (.str (Str.ofString "def")) = false := by decide +kernel
theorem w_product_use : D.eq (.str (Str.ofString "product")) (.str (Str.ofString "use")) = false := by decide +kernel
theorem w_product_quote : D.eq (.str (Str.ofString "product")) (.str (Str.ofString "quote")) = false := by decide +kernel
theorem w_product_hole : D.eq (.str (Str.ofString "product")) (.str (Str.ofString "hole")) = false := by decide +kernel
theorem w_product_lift : D.eq (.str (Str.ofString "product")) (.str (Str.ofString "lift")) = false := by decide +kernel
theorem w_product_run : D.eq (.str (Str.ofString "product")) (.str (Str.ofString "run")) = false := by decide +kernel
theorem w_product_number : D.eq (.str (Str.ofString "product")) (.str (Str.ofString "number")) = false := by decide +kernel
theorem w_product_piece : D.eq (.str (Str.ofString "product")) (.str (Str.ofString "piece")) = false := by decide +kernel
theorem w_product_kept : D.eq (.str (Str.ofString "product")) (.str (Str.ofString "kept")) = false := by decide +kernel
theorem w_less_num : D.eq (.str (Str.ofString "less")) (.str (Str.ofString "num")) = false := by decide +kernel
theorem w_less_name : D.eq (.str (Str.ofString "less")) (.str (Str.ofString "name")) = false := by decide +kernel
theorem w_less_sum : D.eq (.str (Str.ofString "less")) (.str (Str.ofString "sum")) = false := by decide +kernel
theorem w_less_product : D.eq (.str (Str.ofString "less")) (.str (Str.ofString "product")) = false := by decide +kernel
theorem w_less_when : D.eq (.str (Str.ofString "less")) (.str (Str.ofString "when")) = false := by decide +kernel
theorem w_less_let : D.eq (.str (Str.ofString "less")) (.str (Str.ofString "let")) = false := by decide +kernel
theorem w_less_turns : D.eq (.str (Str.ofString "less")) (.str (Str.ofString "turns")) = false := by decide +kernel
theorem w_less_def : D.eq (.str (Str.ofString "less")) (.str (Str.ofString "def")) = false := by decide +kernel
theorem w_less_use : D.eq (.str (Str.ofString "less")) (.str (Str.ofString "use")) = false := by decide +kernel
theorem w_less_quote : D.eq (.str (Str.ofString "less")) (.str (Str.ofString "quote")) = false := by decide +kernel
theorem w_less_hole : D.eq (.str (Str.ofString "less")) (.str (Str.ofString "hole")) = false := by decide +kernel
theorem w_less_lift : D.eq (.str (Str.ofString "less")) (.str (Str.ofString "lift")) = false := by decide +kernel
theorem w_less_run : D.eq (.str (Str.ofString "less")) (.str (Str.ofString "run")) = false := by decide +kernel
theorem w_less_number : D.eq (.str (Str.ofString "less")) (.str (Str.ofString "number")) = false := by decide +kernel
theorem w_less_piece : D.eq (.str (Str.ofString "less")) (.str (Str.ofString "piece")) = false := by decide +kernel
theorem w_less_kept : D.eq (.str (Str.ofString "less")) (.str (Str.ofString "kept")) = false := by decide +kernel
theorem w_when_num : D.eq (.str (Str.ofString "when")) (.str (Str.ofString "num")) = false := by decide +kernel
theorem w_when_name : D.eq (.str (Str.ofString "when")) (.str (Str.ofString "name")) = false := by decide +kernel
theorem w_when_sum : D.eq (.str (Str.ofString "when")) (.str (Str.ofString "sum")) = false := by decide +kernel
theorem w_when_product : D.eq (.str (Str.ofString "when")) (.str (Str.ofString "product")) = false := by decide +kernel
theorem w_when_less : D.eq (.str (Str.ofString "when")) (.str (Str.ofString "less")) = false := by decide +kernel
theorem w_when_let : D.eq (.str (Str.ofString "when")) (.str (Str.ofString "let")) = false := by decide +kernel
theorem w_when_turns : D.eq (.str (Str.ofString "when")) (.str (Str.ofString "turns")) = false := by decide +kernel
theorem w_when_def : D.eq (.str (Str.ofString "when")) (.str (Str.ofString "def")) = false := by decide +kernel
theorem w_when_use : D.eq (.str (Str.ofString "when")) (.str (Str.ofString "use")) = false := by decide +kernel
theorem w_when_quote : D.eq (.str (Str.ofString "when")) (.str (Str.ofString "quote")) = false := by decide +kernel
theorem w_when_hole : D.eq (.str (Str.ofString "when")) (.str (Str.ofString "hole")) = false := by decide +kernel
theorem w_when_lift : D.eq (.str (Str.ofString "when")) (.str (Str.ofString "lift")) = false := by decide +kernel
theorem w_when_run : D.eq (.str (Str.ofString "when")) (.str (Str.ofString "run")) = false := by decide +kernel
theorem w_when_number : D.eq (.str (Str.ofString "when")) (.str (Str.ofString "number")) = false := by decide +kernel
theorem w_when_piece : D.eq (.str (Str.ofString "when")) (.str (Str.ofString "piece")) = false := by decide +kernel
theorem w_when_kept : D.eq (.str (Str.ofString "when")) (.str (Str.ofString "kept")) = false := by decide +kernel
theorem w_let_num : D.eq (.str (Str.ofString "let")) (.str (Str.ofString "num")) = false := by decide +kernel
theorem w_let_name : D.eq (.str (Str.ofString "let")) (.str (Str.ofString "name")) = false := by decide +kernel
theorem w_let_sum : D.eq (.str (Str.ofString "let")) (.str (Str.ofString "sum")) = false := by decide +kernel
theorem w_let_product : D.eq (.str (Str.ofString "let")) (.str (Str.ofString "product")) = false := by decide +kernel
theorem w_let_less : D.eq (.str (Str.ofString "let")) (.str (Str.ofString "less")) = false := by decide +kernel
theorem w_let_when : D.eq (.str (Str.ofString "let")) (.str (Str.ofString "when")) = false := by decide +kernel
theorem w_let_turns : D.eq (.str (Str.ofString "let")) (.str (Str.ofString "turns")) = false := by decide +kernel
theorem w_let_def : D.eq (.str (Str.ofString "let")) (.str (Str.ofString "def")) = false := by decide +kernel
theorem w_let_use : D.eq (.str (Str.ofString "let")) (.str (Str.ofString "use")) = false := by decide +kernel
theorem w_let_quote : D.eq (.str (Str.ofString "let")) (.str (Str.ofString "quote")) = false := by decide +kernel
theorem w_let_hole : D.eq (.str (Str.ofString "let")) (.str (Str.ofString "hole")) = false := by decide +kernel
theorem w_let_lift : D.eq (.str (Str.ofString "let")) (.str (Str.ofString "lift")) = false := by decide +kernel
theorem w_let_run : D.eq (.str (Str.ofString "let")) (.str (Str.ofString "run")) = false := by decide +kernel
theorem w_let_number : D.eq (.str (Str.ofString "let")) (.str (Str.ofString "number")) = false := by decide +kernel
theorem w_let_piece : D.eq (.str (Str.ofString "let")) (.str (Str.ofString "piece")) = false := by decide +kernel
theorem w_let_kept : D.eq (.str (Str.ofString "let")) (.str (Str.ofString "kept")) = false := by decide +kernel
theorem w_turns_num : D.eq (.str (Str.ofString "turns")) (.str (Str.ofString "num")) = false := by decide +kernel
theorem w_turns_name : D.eq (.str (Str.ofString "turns")) (.str (Str.ofString "name")) = false := by decide +kernel
theorem w_turns_sum : D.eq (.str (Str.ofString "turns")) (.str (Str.ofString "sum")) = false := by decide +kernel
theorem w_turns_product : D.eq (.str (Str.ofString "turns")) (.str (Str.ofString "product")) = false := by decide +kernel
theorem w_turns_less : D.eq (.str (Str.ofString "turns")) (.str (Str.ofString "less")) = false := by decide +kernel
theorem w_turns_when : D.eq (.str (Str.ofString "turns")) (.str (Str.ofString "when")) = false := by decide +kernel
theorem w_turns_let : D.eq (.str (Str.ofString "turns")) (.str (Str.ofString "let")) = false := by decide +kernel
theorem w_turns_def : D.eq (.str (Str.ofString "turns")) (.str (Str.ofString "def")) = false := by decide +kernel
theorem w_turns_use : D.eq (.str (Str.ofString "turns")) (.str (Str.ofString "use")) = false := by decide +kernel
theorem w_turns_quote : D.eq (.str (Str.ofString "turns")) (.str (Str.ofString "quote")) = false := by decide +kernel
theorem w_turns_hole : D.eq (.str (Str.ofString "turns")) (.str (Str.ofString "hole")) = false := by decide +kernel
theorem w_turns_lift : D.eq (.str (Str.ofString "turns")) (.str (Str.ofString "lift")) = false := by decide +kernel
theorem w_turns_run : D.eq (.str (Str.ofString "turns")) (.str (Str.ofString "run")) = false := by decide +kernel
theorem w_turns_number : D.eq (.str (Str.ofString "turns")) (.str (Str.ofString "number")) = false := by decide +kernel
theorem w_turns_piece : D.eq (.str (Str.ofString "turns")) (.str (Str.ofString "piece")) = false := by decide +kernel
theorem w_turns_kept : D.eq (.str (Str.ofString "turns")) (.str (Str.ofString "kept")) = false := by decide +kernel
theorem w_def_num : D.eq (.str (Str.ofString "def")) (.str (Str.ofString "num")) = false := by decide +kernel
theorem w_def_name : D.eq (.str (Str.ofString "def")) (.str (Str.ofString "name")) = false := by decide +kernel
theorem w_def_sum : D.eq (.str (Str.ofString "def")) (.str (Str.ofString "sum")) = false := by decide +kernel
theorem w_def_product : D.eq (.str (Str.ofString "def")) (.str (Str.ofString "product")) = false := by decide +kernel
theorem w_def_less : D.eq (.str (Str.ofString "def")) (.str (Str.ofString "less")) = false := by decide +kernel
theorem w_def_when : D.eq (.str (Str.ofString "def")) (.str (Str.ofString "when")) = false := by decide +kernel
theorem w_def_let : D.eq (.str (Str.ofString "def")) (.str (Str.ofString "let")) = false := by decide +kernel
theorem w_def_turns : D.eq (.str (Str.ofString "def")) (.str (Str.ofString "turns")) = false := by decide +kernel
theorem w_def_use : D.eq (.str (Str.ofString "def")) (.str (Str.ofString "use")) = false := by decide +kernel
theorem w_def_quote : D.eq (.str (Str.ofString "def")) (.str (Str.ofString "quote")) = false := by decide +kernel
theorem w_def_hole : D.eq (.str (Str.ofString "def")) (.str (Str.ofString "hole")) = false := by decide +kernel
theorem w_def_lift : D.eq (.str (Str.ofString "def")) (.str (Str.ofString "lift")) = false := by decide +kernel
theorem w_def_run : D.eq (.str (Str.ofString "def")) (.str (Str.ofString "run")) = false := by decide +kernel
theorem w_def_number : D.eq (.str (Str.ofString "def")) (.str (Str.ofString "number")) = false := by decide +kernel
theorem w_def_piece : D.eq (.str (Str.ofString "def")) (.str (Str.ofString "piece")) = false := by decide +kernel
theorem w_def_kept : D.eq (.str (Str.ofString "def")) (.str (Str.ofString "kept")) = false := by decide +kernel
theorem w_use_num : D.eq (.str (Str.ofString "use")) (.str (Str.ofString "num")) = false := by decide +kernel
theorem w_use_name : D.eq (.str (Str.ofString "use")) (.str (Str.ofString "name")) = false := by decide +kernel
theorem w_use_sum : D.eq (.str (Str.ofString "use")) (.str (Str.ofString "sum")) = false := by decide +kernel
theorem w_use_product : D.eq (.str (Str.ofString "use")) (.str (Str.ofString "product")) = false := by decide +kernel
theorem w_use_less : D.eq (.str (Str.ofString "use")) (.str (Str.ofString "less")) = false := by decide +kernel
theorem w_use_when : D.eq (.str (Str.ofString "use")) (.str (Str.ofString "when")) = false := by decide +kernel
theorem w_use_let : D.eq (.str (Str.ofString "use")) (.str (Str.ofString "let")) = false := by decide +kernel
theorem w_use_turns : D.eq (.str (Str.ofString "use")) (.str (Str.ofString "turns")) = false := by decide +kernel
theorem w_use_def : D.eq (.str (Str.ofString "use")) (.str (Str.ofString "def")) = false := by decide +kernel
theorem w_use_quote : D.eq (.str (Str.ofString "use")) (.str (Str.ofString "quote")) = false := by decide +kernel
theorem w_use_hole : D.eq (.str (Str.ofString "use")) (.str (Str.ofString "hole")) = false := by decide +kernel
theorem w_use_lift : D.eq (.str (Str.ofString "use")) (.str (Str.ofString "lift")) = false := by decide +kernel
theorem w_use_run : D.eq (.str (Str.ofString "use")) (.str (Str.ofString "run")) = false := by decide +kernel
theorem w_use_number : D.eq (.str (Str.ofString "use")) (.str (Str.ofString "number")) = false := by decide +kernel
theorem w_use_piece : D.eq (.str (Str.ofString "use")) (.str (Str.ofString "piece")) = false := by decide +kernel
theorem w_use_kept : D.eq (.str (Str.ofString "use")) (.str (Str.ofString "kept")) = false := by decide +kernel
theorem w_quote_num : D.eq (.str (Str.ofString "quote")) (.str (Str.ofString "num")) = false := by decide +kernel
theorem w_quote_name : D.eq (.str (Str.ofString "quote")) (.str (Str.ofString "name")) = false := by decide +kernel
theorem w_quote_sum : D.eq (.str (Str.ofString "quote")) (.str (Str.ofString "sum")) = false := by decide +kernel
theorem w_quote_product : D.eq (.str (Str.ofString "quote")) (.str (Str.ofString "product")) = false := by decide +kernel
theorem w_quote_less : D.eq (.str (Str.ofString "quote")) (.str (Str.ofString "less")) = false := by decide +kernel
theorem w_quote_when : D.eq (.str (Str.ofString "quote")) (.str (Str.ofString "when")) = false := by decide +kernel
theorem w_quote_let : D.eq (.str (Str.ofString "quote")) (.str (Str.ofString "let")) = false := by decide +kernel
theorem w_quote_turns : D.eq (.str (Str.ofString "quote")) (.str (Str.ofString "turns")) = false := by decide +kernel
theorem w_quote_def : D.eq (.str (Str.ofString "quote")) (.str (Str.ofString "def")) = false := by decide +kernel
theorem w_quote_use : D.eq (.str (Str.ofString "quote")) (.str (Str.ofString "use")) = false := by decide +kernel
theorem w_quote_hole : D.eq (.str (Str.ofString "quote")) (.str (Str.ofString "hole")) = false := by decide +kernel
theorem w_quote_lift : D.eq (.str (Str.ofString "quote")) (.str (Str.ofString "lift")) = false := by decide +kernel
theorem w_quote_run : D.eq (.str (Str.ofString "quote")) (.str (Str.ofString "run")) = false := by decide +kernel
theorem w_quote_number : D.eq (.str (Str.ofString "quote")) (.str (Str.ofString "number")) = false := by decide +kernel
theorem w_quote_piece : D.eq (.str (Str.ofString "quote")) (.str (Str.ofString "piece")) = false := by decide +kernel
theorem w_quote_kept : D.eq (.str (Str.ofString "quote")) (.str (Str.ofString "kept")) = false := by decide +kernel
theorem w_hole_num : D.eq (.str (Str.ofString "hole")) (.str (Str.ofString "num")) = false := by decide +kernel
theorem w_hole_name : D.eq (.str (Str.ofString "hole")) (.str (Str.ofString "name")) = false := by decide +kernel
theorem w_hole_sum : D.eq (.str (Str.ofString "hole")) (.str (Str.ofString "sum")) = false := by decide +kernel
theorem w_hole_product : D.eq (.str (Str.ofString "hole")) (.str (Str.ofString "product")) = false := by decide +kernel
theorem w_hole_less : D.eq (.str (Str.ofString "hole")) (.str (Str.ofString "less")) = false := by decide +kernel
theorem w_hole_when : D.eq (.str (Str.ofString "hole")) (.str (Str.ofString "when")) = false := by decide +kernel
theorem w_hole_let : D.eq (.str (Str.ofString "hole")) (.str (Str.ofString "let")) = false := by decide +kernel
theorem w_hole_turns : D.eq (.str (Str.ofString "hole")) (.str (Str.ofString "turns")) = false := by decide +kernel
theorem w_hole_def : D.eq (.str (Str.ofString "hole")) (.str (Str.ofString "def")) = false := by decide +kernel
theorem w_hole_use : D.eq (.str (Str.ofString "hole")) (.str (Str.ofString "use")) = false := by decide +kernel
theorem w_hole_quote : D.eq (.str (Str.ofString "hole")) (.str (Str.ofString "quote")) = false := by decide +kernel
theorem w_hole_lift : D.eq (.str (Str.ofString "hole")) (.str (Str.ofString "lift")) = false := by decide +kernel
theorem w_hole_run : D.eq (.str (Str.ofString "hole")) (.str (Str.ofString "run")) = false := by decide +kernel
theorem w_hole_number : D.eq (.str (Str.ofString "hole")) (.str (Str.ofString "number")) = false := by decide +kernel
theorem w_hole_piece : D.eq (.str (Str.ofString "hole")) (.str (Str.ofString "piece")) = false := by decide +kernel
theorem w_hole_kept : D.eq (.str (Str.ofString "hole")) (.str (Str.ofString "kept")) = false := by decide +kernel
theorem w_lift_num : D.eq (.str (Str.ofString "lift")) (.str (Str.ofString "num")) = false := by decide +kernel
theorem w_lift_name : D.eq (.str (Str.ofString "lift")) (.str (Str.ofString "name")) = false := by decide +kernel
theorem w_lift_sum : D.eq (.str (Str.ofString "lift")) (.str (Str.ofString "sum")) = false := by decide +kernel
theorem w_lift_product : D.eq (.str (Str.ofString "lift")) (.str (Str.ofString "product")) = false := by decide +kernel
theorem w_lift_less : D.eq (.str (Str.ofString "lift")) (.str (Str.ofString "less")) = false := by decide +kernel
theorem w_lift_when : D.eq (.str (Str.ofString "lift")) (.str (Str.ofString "when")) = false := by decide +kernel
theorem w_lift_let : D.eq (.str (Str.ofString "lift")) (.str (Str.ofString "let")) = false := by decide +kernel
theorem w_lift_turns : D.eq (.str (Str.ofString "lift")) (.str (Str.ofString "turns")) = false := by decide +kernel
theorem w_lift_def : D.eq (.str (Str.ofString "lift")) (.str (Str.ofString "def")) = false := by decide +kernel
theorem w_lift_use : D.eq (.str (Str.ofString "lift")) (.str (Str.ofString "use")) = false := by decide +kernel
theorem w_lift_quote : D.eq (.str (Str.ofString "lift")) (.str (Str.ofString "quote")) = false := by decide +kernel
theorem w_lift_hole : D.eq (.str (Str.ofString "lift")) (.str (Str.ofString "hole")) = false := by decide +kernel
theorem w_lift_run : D.eq (.str (Str.ofString "lift")) (.str (Str.ofString "run")) = false := by decide +kernel
theorem w_lift_number : D.eq (.str (Str.ofString "lift")) (.str (Str.ofString "number")) = false := by decide +kernel
theorem w_lift_piece : D.eq (.str (Str.ofString "lift")) (.str (Str.ofString "piece")) = false := by decide +kernel
theorem w_lift_kept : D.eq (.str (Str.ofString "lift")) (.str (Str.ofString "kept")) = false := by decide +kernel
theorem w_run_num : D.eq (.str (Str.ofString "run")) (.str (Str.ofString "num")) = false := by decide +kernel
theorem w_run_name : D.eq (.str (Str.ofString "run")) (.str (Str.ofString "name")) = false := by decide +kernel
theorem w_run_sum : D.eq (.str (Str.ofString "run")) (.str (Str.ofString "sum")) = false := by decide +kernel
theorem w_run_product : D.eq (.str (Str.ofString "run")) (.str (Str.ofString "product")) = false := by decide +kernel
theorem w_run_less : D.eq (.str (Str.ofString "run")) (.str (Str.ofString "less")) = false := by decide +kernel
theorem w_run_when : D.eq (.str (Str.ofString "run")) (.str (Str.ofString "when")) = false := by decide +kernel
theorem w_run_let : D.eq (.str (Str.ofString "run")) (.str (Str.ofString "let")) = false := by decide +kernel
theorem w_run_turns : D.eq (.str (Str.ofString "run")) (.str (Str.ofString "turns")) = false := by decide +kernel
theorem w_run_def : D.eq (.str (Str.ofString "run")) (.str (Str.ofString "def")) = false := by decide +kernel
theorem w_run_use : D.eq (.str (Str.ofString "run")) (.str (Str.ofString "use")) = false := by decide +kernel
theorem w_run_quote : D.eq (.str (Str.ofString "run")) (.str (Str.ofString "quote")) = false := by decide +kernel
theorem w_run_hole : D.eq (.str (Str.ofString "run")) (.str (Str.ofString "hole")) = false := by decide +kernel
theorem w_run_lift : D.eq (.str (Str.ofString "run")) (.str (Str.ofString "lift")) = false := by decide +kernel
theorem w_run_number : D.eq (.str (Str.ofString "run")) (.str (Str.ofString "number")) = false := by decide +kernel
theorem w_run_piece : D.eq (.str (Str.ofString "run")) (.str (Str.ofString "piece")) = false := by decide +kernel
theorem w_run_kept : D.eq (.str (Str.ofString "run")) (.str (Str.ofString "kept")) = false := by decide +kernel
theorem w_number_num : D.eq (.str (Str.ofString "number")) (.str (Str.ofString "num")) = false := by decide +kernel
theorem w_number_name : D.eq (.str (Str.ofString "number")) (.str (Str.ofString "name")) = false := by decide +kernel
theorem w_number_sum : D.eq (.str (Str.ofString "number")) (.str (Str.ofString "sum")) = false := by decide +kernel
theorem w_number_product : D.eq (.str (Str.ofString "number")) (.str (Str.ofString "product")) = false := by decide +kernel
theorem w_number_less : D.eq (.str (Str.ofString "number")) (.str (Str.ofString "less")) = false := by decide +kernel
theorem w_number_when : D.eq (.str (Str.ofString "number")) (.str (Str.ofString "when")) = false := by decide +kernel
theorem w_number_let : D.eq (.str (Str.ofString "number")) (.str (Str.ofString "let")) = false := by decide +kernel
theorem w_number_turns : D.eq (.str (Str.ofString "number")) (.str (Str.ofString "turns")) = false := by decide +kernel
theorem w_number_def : D.eq (.str (Str.ofString "number")) (.str (Str.ofString "def")) = false := by decide +kernel
theorem w_number_use : D.eq (.str (Str.ofString "number")) (.str (Str.ofString "use")) = false := by decide +kernel
theorem w_number_quote : D.eq (.str (Str.ofString "number")) (.str (Str.ofString "quote")) = false := by decide +kernel
theorem w_number_hole : D.eq (.str (Str.ofString "number")) (.str (Str.ofString "hole")) = false := by decide +kernel
theorem w_number_lift : D.eq (.str (Str.ofString "number")) (.str (Str.ofString "lift")) = false := by decide +kernel
theorem w_number_run : D.eq (.str (Str.ofString "number")) (.str (Str.ofString "run")) = false := by decide +kernel
theorem w_number_piece : D.eq (.str (Str.ofString "number")) (.str (Str.ofString "piece")) = false := by decide +kernel
theorem w_number_kept : D.eq (.str (Str.ofString "number")) (.str (Str.ofString "kept")) = false := by decide +kernel
theorem w_piece_num : D.eq (.str (Str.ofString "piece")) (.str (Str.ofString "num")) = false := by decide +kernel
theorem w_piece_name : D.eq (.str (Str.ofString "piece")) (.str (Str.ofString "name")) = false := by decide +kernel
theorem w_piece_sum : D.eq (.str (Str.ofString "piece")) (.str (Str.ofString "sum")) = false := by decide +kernel
theorem w_piece_product : D.eq (.str (Str.ofString "piece")) (.str (Str.ofString "product")) = false := by decide +kernel
theorem w_piece_less : D.eq (.str (Str.ofString "piece")) (.str (Str.ofString "less")) = false := by decide +kernel
theorem w_piece_when : D.eq (.str (Str.ofString "piece")) (.str (Str.ofString "when")) = false := by decide +kernel
theorem w_piece_let : D.eq (.str (Str.ofString "piece")) (.str (Str.ofString "let")) = false := by decide +kernel
theorem w_piece_turns : D.eq (.str (Str.ofString "piece")) (.str (Str.ofString "turns")) = false := by decide +kernel
theorem w_piece_def : D.eq (.str (Str.ofString "piece")) (.str (Str.ofString "def")) = false := by decide +kernel
theorem w_piece_use : D.eq (.str (Str.ofString "piece")) (.str (Str.ofString "use")) = false := by decide +kernel
theorem w_piece_quote : D.eq (.str (Str.ofString "piece")) (.str (Str.ofString "quote")) = false := by decide +kernel
theorem w_piece_hole : D.eq (.str (Str.ofString "piece")) (.str (Str.ofString "hole")) = false := by decide +kernel
theorem w_piece_lift : D.eq (.str (Str.ofString "piece")) (.str (Str.ofString "lift")) = false := by decide +kernel
theorem w_piece_run : D.eq (.str (Str.ofString "piece")) (.str (Str.ofString "run")) = false := by decide +kernel
theorem w_piece_number : D.eq (.str (Str.ofString "piece")) (.str (Str.ofString "number")) = false := by decide +kernel
theorem w_piece_kept : D.eq (.str (Str.ofString "piece")) (.str (Str.ofString "kept")) = false := by decide +kernel
theorem w_kept_num : D.eq (.str (Str.ofString "kept")) (.str (Str.ofString "num")) = false := by decide +kernel
theorem w_kept_name : D.eq (.str (Str.ofString "kept")) (.str (Str.ofString "name")) = false := by decide +kernel
theorem w_kept_sum : D.eq (.str (Str.ofString "kept")) (.str (Str.ofString "sum")) = false := by decide +kernel
theorem w_kept_product : D.eq (.str (Str.ofString "kept")) (.str (Str.ofString "product")) = false := by decide +kernel
theorem w_kept_less : D.eq (.str (Str.ofString "kept")) (.str (Str.ofString "less")) = false := by decide +kernel
theorem w_kept_when : D.eq (.str (Str.ofString "kept")) (.str (Str.ofString "when")) = false := by decide +kernel
theorem w_kept_let : D.eq (.str (Str.ofString "kept")) (.str (Str.ofString "let")) = false := by decide +kernel
theorem w_kept_turns : D.eq (.str (Str.ofString "kept")) (.str (Str.ofString "turns")) = false := by decide +kernel
theorem w_kept_def : D.eq (.str (Str.ofString "kept")) (.str (Str.ofString "def")) = false := by decide +kernel
theorem w_kept_use : D.eq (.str (Str.ofString "kept")) (.str (Str.ofString "use")) = false := by decide +kernel
theorem w_kept_quote : D.eq (.str (Str.ofString "kept")) (.str (Str.ofString "quote")) = false := by decide +kernel
theorem w_kept_hole : D.eq (.str (Str.ofString "kept")) (.str (Str.ofString "hole")) = false := by decide +kernel
theorem w_kept_lift : D.eq (.str (Str.ofString "kept")) (.str (Str.ofString "lift")) = false := by decide +kernel
theorem w_kept_run : D.eq (.str (Str.ofString "kept")) (.str (Str.ofString "run")) = false := by decide +kernel
theorem w_kept_number : D.eq (.str (Str.ofString "kept")) (.str (Str.ofString "number")) = false := by decide +kernel
theorem w_kept_piece : D.eq (.str (Str.ofString "kept")) (.str (Str.ofString "piece")) = false := by decide +kernel
end Dq

/- Part 15: membership in a list of words. -/
namespace Dq
open PySem PySem.Spec PyProof.Rows L2
theorem fIn_T (x : D) (ys : List D) (k : D → Prop) : fIn false x (.tup ys) k = ((x.flat && ys.all D.flat) = true ∧ k (.bl (inD x ys))) := rfl
theorem fIn_Tn (x : D) (ys : List D) (k : D → Prop) : fIn true x (.tup ys) k = ((x.flat && ys.all D.flat) = true ∧ k (.bl (!inD x ys))) := rfl
theorem inD_cons (x y : D) (ys : List D) : inD x (y :: ys) = (D.eq y x || inD x ys) := rfl
theorem inD_nil (x : D) : inD x [] = false := rfl
theorem ixN0 (n : Nat) : ixN (n + 1) 0 = some 0 := by simp [ixN]
theorem fl_i (n : Int) : D.flat (.int n) = true := rfl
theorem fl_num : D.flat (.str (Str.ofString "num")) = true := by decide +kernel
theorem fl_name : D.flat (.str (Str.ofString "name")) = true := by decide +kernel
theorem fl_sum : D.flat (.str (Str.ofString "sum")) = true := by decide +kernel
theorem fl_product : D.flat (.str (Str.ofString "product")) = true := by decide +kernel
theorem fl_less : D.flat (.str (Str.ofString "less")) = true := by decide +kernel
theorem fl_when : D.flat (.str (Str.ofString "when")) = true := by decide +kernel
theorem fl_let : D.flat (.str (Str.ofString "let")) = true := by decide +kernel
theorem fl_turns : D.flat (.str (Str.ofString "turns")) = true := by decide +kernel
theorem fl_def : D.flat (.str (Str.ofString "def")) = true := by decide +kernel
theorem fl_use : D.flat (.str (Str.ofString "use")) = true := by decide +kernel
theorem fl_quote : D.flat (.str (Str.ofString "quote")) = true := by decide +kernel
theorem fl_hole : D.flat (.str (Str.ofString "hole")) = true := by decide +kernel
theorem fl_lift : D.flat (.str (Str.ofString "lift")) = true := by decide +kernel
theorem fl_run : D.flat (.str (Str.ofString "run")) = true := by decide +kernel
theorem fl_number : D.flat (.str (Str.ofString "number")) = true := by decide +kernel
theorem fl_piece : D.flat (.str (Str.ofString "piece")) = true := by decide +kernel
theorem fl_kept : D.flat (.str (Str.ofString "kept")) = true := by decide +kernel
theorem x_seq {t u : DS} {E : Addr → Prop} {De : DEnds} {δ : Dst} (h : ∀ R : Dst → Prop, (∀ δ', u E De δ' → R δ') → t E { De with nx := R } δ) : dSeq t u E De δ := h _ fun _ q => q
end Dq

/- Part 16: tuples taken apart, loops over zip, a dict that never changes. -/
namespace Dq
open PySem PySem.Spec PyProof.Rows L2
section
variable {K : PySem.W.Frag} {xw : XK} {np j : Nat}
def gNs : List Nat → List D → Dst → (Dst → Prop) → Prop
  | [], [], δ, Q => Q δ
  | i :: r, d :: ds, δ, Q => okSet δ i ∧ gNs r ds (δ.set i (some (.val d))) Q
  | _, _, _, _ => False
def gTs (is : List Nat) : DG := fun d δ Q => match d with
  | .tup ds => gNs is ds δ Q
  | _ => False
def SGs (K : PySem.W.Frag) (tg : TGs) (is : List Nat) : Prop := ∀ (Mx : Addr → Prop) (σ : St) (δ : Dst) (H : Hp) (ds : List D) (vs : List V) (Q : Dst → Prop) (k : St → Hp → Prop), Rp K Mx σ δ H → Ats K (Mm σ δ Mx) H ds vs → gNs is ds δ Q →
  (∀ σ' δ' H', Rp K Mx σ' δ' H' → Tr σ δ H σ' δ' H' → Q δ' → k σ' H') → tg vs σ H k
theorem gNs_len : ∀ {is : List Nat} {ds : List D} {δ : Dst} {Q : Dst → Prop}, gNs is ds δ Q → ds.length = is.length
  | [], [], _, _, _ => rfl
  | i :: r, d :: ds, _, _, h => congrArg (· + 1) (gNs_len h.2)
theorem sgs_nil : SGs K gNil [] := by
  intro Mx σ δ H ds vs Q k rp a hg hk
  cases ds with
  | nil => rw [Ats] at a; exact ⟨a, hk σ δ H rp Tr.refl hg⟩
  | cons d ds => exact hg.elim
theorem sgs_cons {i : Nat} {is : List Nat} {u : TGs} (h : SGs K u is) : SGs K (gCons (gName i) u) (i :: is) := by
  intro Mx σ δ H ds vs Q k rp a hg hk
  cases ds with
  | nil => exact hg.elim
  | cons d ds =>
    rw [Ats] at a
    obtain ⟨v, t, rfl, a1, a2⟩ := a
    have n := not_mut hg.1
    have r2 := rp.val n a1
    have t2 : Tr σ δ H (σ.set i (some v)) (δ.set i (some (.val d))) H := Tr.val n
    exact ⟨v, t, rfl, h Mx _ _ H ds t _ _ r2 (a2.tr t2) hg.2 fun σ' δ' H' r3 t3 q3 => hk σ' δ' H' r3 (t2.trans t3) q3⟩
theorem sg_tup {n : Nat} {u : TGs} {is : List Nat} (h : SGs K u is) (hn : is.length = n) : SG K (gTup K n u) (gTs is) := by
  intro Mx σ δ H d v Q k rp a hg hk
  cases d with
  | tup ds =>
    obtain ⟨b, vs, rfl, nb, hb, zb⟩ := at_tup a
    exact ⟨b, vs, rfl, SqT.of hb, by rw [zb.len, gNs_len hg, hn], h Mx σ δ H ds vs Q k rp zb hg hk⟩
  | non => exact hg.elim
  | bl b => exact hg.elim
  | int b => exact hg.elim
  | str b => exact hg.elim
  | lst b => exact hg.elim
  | dct ks b => exact hg.elim
  | scr b => exact hg.elim
/-- (a, b) = e -/
def dAsg (g : DG) (t : DE) : DS := fun E De δ => t E δ fun d δ1 => g d δ1 De.nx
theorem ss_asg {te : TE} {de : DE} {tg : TG} {g : DG} (h : SE K xw te de) (hg : SG K tg g) : SS K xw np (tAsg te tg) (dAsg g de) := by
  intro Mx σ δ H E De Dn P rp pm xl ht lk
  refine h Mx σ δ H E _ _ rp xl ht fun v d δ1 H1 r1 t1 a1 q1 => ?_
  exact hg Mx σ δ1 H1 d v _ _ r1 a1 q1 fun σ' δ' H' r2 t2 q2 => lk.nx σ' δ' H' r2 (t1.trans t2) q2

/-! ### zip -/
def zipD (xs ys : List D) : List D := (xs.zip ys).map fun p => .tup [p.1, p.2]
def dForZ (r : DA) (g : DG) (tb : DS) : DS := fun E De δ => r E δ fun as δ1 => onVals as fun ds => match ds with
  | [.lst xs, .lst ys] => dLoop g tb E De (zipD xs ys) δ1
  | _ => False
theorem zip_get {xs ys : List D} {i : Nat} {d : D} (h : (zipD xs ys)[i]? = some d) : ∃ x y, xs[i]? = some x ∧ ys[i]? = some y ∧ d = .tup [x, y] := by
  unfold zipD at h
  rw [List.getElem?_map] at h
  cases e : (xs.zip ys)[i]? with
  | none => rw [e] at h; cases h
  | some p =>
    rw [e] at h
    obtain ⟨a, b⟩ := List.getElem?_zip_eq_some.mp e
    exact ⟨p.1, p.2, a, b, (Option.some.inj h).symm⟩
theorem zip_len {xs ys : List D} : (zipD xs ys).length = min xs.length ys.length := by simp [zipD]
theorem ss_forZ {ta : TA} {da : DA} {tg : TG} {g : DG} {tb : TS} {db : DS} (hs : SA K xw ta da) (hg : SG K tg g) (hb : SS K xw np tb db) : SS K xw np (tFor (iZip K ta) tg tb) (dForZ da g db) := by
  intro Mx σ δ H E De Dn P rp pm xl ht lk
  refine hs Mx σ δ H E _ _ rp xl ht fun vs as δ1 H1 r1 t1 a1 q1 => ?_
  obtain ⟨ds, q, z⟩ := vals_of a1 q1
  match ds, q with
  | [.lst xs, .lst ys], q1 =>
    rw [Ats] at z
    obtain ⟨v1, t, rfl, ax, z⟩ := z
    rw [Ats] at z
    obtain ⟨v2, t, rfl, ay, z⟩ := z
    rw [Ats] at z
    subst z
    obtain ⟨a, vx, rfl, na, ha, zx⟩ := at_lst ax
    obtain ⟨b, vy, rfl, nb, hb', zy⟩ := at_lst ay
    refine ⟨a, b, vx, vy, rfl, SqL.of ha, SqL.of hb', ?_⟩
    let G : Hp → Prop := fun H' => H' a = some (.lst vx) ∧ H' b = some (.lst vy) ∧ Ats K (Mm σ δ1 Mx) H' xs vx ∧ Ats K (Mm σ δ1 Mx) H' ys vy
    have g1 : G H1 := ⟨ha, hb', zx, zy⟩
    have gk : ∀ H2, G H2 → ∀ H3, (∀ a o, H2 a = some o → (Mm σ δ1 Mx a → False) → H3 a = some o) → G H3 := fun H2 g H3 k =>
      ⟨k a _ g.1 na, k b _ g.2.1 nb, g.2.2.1.mono (fun c o e n => k c o e n) fun _ _ _ m => m, g.2.2.2.mono (fun c o e n => k c o e n) fun _ _ _ m => m⟩
    have len := @zip_len xs ys
    have lx := zx.len
    have ly := zy.len
    have w := walk_zip (K := K) (a := a) (b := b) (xs := vx) (ys := vy) (n := (zipD xs ys).length) (by rw [len, lx, ly])
    refine ⟨fun i m σ2 H2 => m = (zipD xs ys).length - i ∧ i ≤ (zipD xs ys).length ∧ G H2 ∧ ∃ δ2, Rp K Mx σ2 δ2 H2 ∧ Tr σ δ1 H1 σ2 δ2 H2 ∧ dLoop g db E De ((zipD xs ys).drop i) δ2, ⟨(zipD xs ys).length, by simp, Nat.zero_le _, g1, δ1, r1, Tr.refl, by simpa using q1⟩, ?_⟩
    rintro i m σ2 H2 ⟨rfl, hi, g2, δ2, r2, t2, q2⟩
    by_cases hlt : i < (zipD xs ys).length
    · obtain ⟨d, ed⟩ : ∃ d, (zipD xs ys)[i]? = some d := ⟨_, List.getElem?_eq_getElem hlt⟩
      have edrop : (zipD xs ys).drop i = d :: (zipD xs ys).drop (i + 1) := by
        rw [List.drop_eq_getElem_cons hlt]
        rw [List.getElem?_eq_getElem hlt] at ed
        cases ed
        rfl
      rw [edrop] at q2
      refine .inr ⟨w.goes i H2 hlt ⟨SqL.of g2.1, SqL.of g2.2.1⟩, fun σ3 H3 => G H3 ∧ ∃ δ3, Rp K Mx σ3 δ3 H3 ∧ Tr σ δ1 H1 σ3 δ3 H3 ∧ dLoop g db E De ((zipD xs ys).drop (i + 1)) δ3, fun σ3 H3 ⟨g3, δ3, r3, t3, q3⟩ => ⟨(zipD xs ys).length - (i + 1), by omega, rfl, hlt, g3, δ3, r3, t3, q3⟩, fun x H2' yl => ?_⟩
      obtain ⟨T, x1, y1, rfl, hT, rfl, e1, e2⟩ := w.yields i H2 x H2' hlt ⟨SqL.of g2.1, SqL.of g2.2.1⟩ yl
      obtain ⟨dx, dy, f1, f2, rfl⟩ := zip_get ed
      obtain ⟨w1, ew1, zw1⟩ := zx.get f1
      obtain ⟨w2, ew2, zw2⟩ := zy.get f2
      obtain rfl : w1 = x1 := Option.some.inj (ew1.symm.trans e1)
      obtain rfl : w2 = y1 := Option.some.inj (ew2.symm.trans e2)
      have r3 : Rp K Mx σ2 δ2 (upd H2 T (.tup [w1, w2])) := r2.new hT
      have t3 : Tr σ2 δ2 H2 σ2 δ2 (upd H2 T (.tup [w1, w2])) := Tr.new hT
      have ai : At K (Mm σ2 δ2 Mx) (upd H2 T (.tup [w1, w2])) (.tup [dx, dy]) (.ref T) :=
        at_tup' (fun a m => r2.mdom m) hT (by rw [Ats]; refine ⟨w1, _, rfl, zw1.tr t2, ?_⟩; rw [Ats]; refine ⟨w2, _, rfl, zw2.tr t2, ?_⟩; rw [Ats])
      refine hg Mx σ2 δ2 _ _ _ _ _ r3 ai q2 fun σ3 δ3 H3 r4 t4 q3 => ?_
      have tt : Tr σ δ1 H1 σ3 δ3 H3 := (t2.trans t3).trans t4
      have keep : ∀ σ4 δ4 H4, Tr σ3 δ3 H3 σ4 δ4 H4 → G H4 := fun σ4 δ4 H4 t5 => gk H1 g1 H4 fun a o e n => (tt.trans t5).ext a o e fun m => n (.inl m)
      refine hb Mx σ3 δ3 H3 E _ _ P r4 (pm.tr (t1.trans tt)) (xl.tr (t1.trans tt)) q3 ⟨fun σ4 δ4 H4 r5 t5 q4 => ⟨keep σ4 δ4 H4 t5, δ4, r5, tt.trans t5, q4⟩, fun σ4 δ4 H4 r5 t5 q4 => lk.nx σ4 δ4 H4 r5 ((t1.trans tt).trans t5) q4,
        fun σ4 δ4 H4 r5 t5 q4 => ⟨keep σ4 δ4 H4 t5, δ4, r5, tt.trans t5, q4⟩, fun v d σ4 δ4 H4 r5 t5 a4 q4 => lk.rt v d σ4 δ4 H4 r5 ((t1.trans tt).trans t5) a4 q4⟩
    · have e : i = (zipD xs ys).length := by omega
      subst e
      rw [List.drop_eq_nil_of_le (Nat.le_refl _)] at q2
      exact .inl ⟨w.stops H2 ⟨SqL.of g2.1, SqL.of g2.2.1⟩, lk.nx σ2 δ2 H2 r2 (t1.trans t2) q2⟩

/-! ### a dict that never changes -/
def trsC (kvs : List (Str × Int)) : List (TE × TE) := kvs.map fun p => (tC (.str p.1), tC (.int p.2))
theorem pairsC : ∀ (kvs : List (Str × Int)) (σ : St) (H : Hp) (Q : List (V × V) → Hp → Prop), Q (kvs.map fun p => (.str p.1, .int p.2)) H → tPairs (trsC kvs) σ H Q
  | [], σ, H, Q, q => q
  | p :: r, σ, H, Q, q => pairsC r σ H (fun ps H3 => Q ((.str p.1, .int p.2) :: ps) H3) q
def dctC (kvs : List (Str × Int)) : D := .dct (kvs.map fun p => .inr p.1) (kvs.map fun p => .int p.2)
theorem zip_mm {α β γ : Type} (f : α → β) (g : α → γ) : ∀ l : List α, (l.map f).zip (l.map g) = l.map fun p => (f p, g p)
  | [] => rfl
  | x :: r => by rw [List.map_cons, List.map_cons, List.zip_cons_cons, zip_mm f g r, List.map_cons]
theorem ats_ints {M : Addr → Prop} {H : Hp} : ∀ ns : List Int, Ats K M H (ns.map D.int) (ns.map V.int)
  | [] => by rw [List.map_nil, Ats]; rfl
  | n :: r => by rw [List.map_cons, List.map_cons, Ats]; exact ⟨_, _, rfl, at_int' n, ats_ints r⟩
theorem se_dispC {kvs : List (Str × Int)} (h15 : kvs.length ≤ 15) (hm : mergeK [] (kvs.map fun p => (Sum.inr p.1, V.int p.2)) = kvs.map fun p => (Sum.inr p.1, V.int p.2)) : SE K xw (tDisp (trsC kvs)) (dC (dctC kvs)) := by
  intro Mx σ δ H E Q k rp xl ht hk p hp
  refine pairsC kvs σ _ _ ⟨upd_same, kvs.map fun p => (Sum.inr p.1, V.int p.2), by rw [List.map_map]; rfl, by rw [List.length_map]; exact h15, ?_⟩
  rw [hm]
  have e : upd (upd H p (.dK [])) p (.dK (kvs.map fun p => (Sum.inr p.1, V.int p.2))) = upd H p (.dK (kvs.map fun p => (Sum.inr p.1, V.int p.2))) := by
    funext b; by_cases hb : b = p
    · subst hb; rw [upd_same, upd_same]
    · rw [upd_ne hb, upd_ne hb, upd_ne hb]
  rw [e]
  refine hk _ _ δ _ (rp.new hp) (Tr.new hp) ?_ ht
  unfold dctC
  rw [At]
  refine ⟨p, kvs.map fun p => V.int p.2, rfl, rp.fresh hp, by rw [upd_same, zip_mm], by rw [List.length_map, List.length_map], ?_⟩
  rw [show (kvs.map fun p => D.int p.2) = (kvs.map (·.2)).map D.int by rw [List.map_map]; rfl, show (kvs.map fun p => V.int p.2) = (kvs.map (·.2)).map V.int by rw [List.map_map]; rfl]
  exact ats_ints _
def keyOf : D → Option Key
  | .int i => some (.inl i)
  | .str x => some (.inr x)
  | _ => none
def valD (ks : List Key) (ds : List D) (k : Key) : Option D := ((ks.zip ds).find? fun p => decide (p.1 = k)).map (·.2)
theorem valD_at {M : Addr → Prop} {H : Hp} (k : Key) : ∀ {ks : List Key} {ds : List D} {vs : List V}, ks.length = vs.length → Ats K M H ds vs →
    match valD ks ds k with | some d => ∃ v, valV (ks.zip vs) k = some v ∧ At K M H d v | none => valV (ks.zip vs) k = none := by
  intro ks
  induction ks with
  | nil => intro ds vs _ _; simp [valD, valV]
  | cons c ks ih =>
    intro ds vs hl h
    cases ds with
    | nil => rw [Ats] at h; subst h; cases hl
    | cons d ds =>
      rw [Ats] at h
      obtain ⟨v, t, rfl, h1, h2⟩ := h
      by_cases e : c = k
      · have e1 : valD (c :: ks) (d :: ds) k = some d := by simp [valD, e]
        rw [e1]
        exact ⟨v, by rw [List.zip_cons_cons]; exact valV_pos e, h1⟩
      · have e1 : valD (c :: ks) (d :: ds) k = valD ks ds k := by simp [valD, e]
        rw [e1, List.zip_cons_cons, valV_neg e]
        exact ih (by simpa using hl) h2
def dGet2 (td ty tx : DE) : DE := fun E δ Q => td E δ fun d δ1 => match d with
  | .dct ks ds => ty E δ1 fun y δ2 => tx E δ2 fun z δ3 => onSome (keyOf y) fun k => Q ((valD ks ds k).getD z) δ3
  | _ => False
theorem se_get2 {ta tb tc : TE} {da db dc : DE} (h1 : SE K xw ta da) (h2 : SE K xw tb db) (h3 : SE K xw tc dc) : SE K xw (tDGet2 ta tb tc) (dGet2 da db dc) := by
  intro Mx σ δ H E Q k rp xl ht hk
  refine h1 Mx σ δ H E _ _ rp xl ht fun v d δ1 H1 r1 t1 a1 q1 => ?_
  cases d with
  | dct ks ds =>
    rw [At] at a1
    obtain ⟨a, vs, rfl, na, ha, hl, za⟩ := a1
    refine ⟨a, rfl, .inl ⟨_, .inl ha⟩, ?_⟩
    refine h2 Mx σ δ1 H1 E _ _ r1 (xl.tr t1) q1 fun vy y δ2 H2 r2 t2 a2 q2 => ?_
    refine h3 Mx σ δ2 H2 E _ _ r2 (xl.tr (t1.trans t2)) q2 fun vz z δ3 H3 r3 t3 a3 q3 => ?_
    obtain ⟨key, ek, q⟩ := onSome_of q3
    have t23 := t2.trans t3
    have ha3 : H3 a = some (.dK (ks.zip vs)) := t23.ext a _ ha fun m => na (.inl m)
    have ev : vy = kV key := by
      cases y with
      | int i => rw [At] at a2; injection ek with ek; subst ek; exact a2
      | str x => rw [At] at a2; injection ek with ek; subst ek; exact a2
      | _ => cases ek
    have za3 : Ats K (Mm σ δ3 Mx) H3 ds vs := za.tr t23
    have w := valD_at key hl za3
    refine ⟨valV (ks.zip vs) key, by rw [ev]; exact DGet.k ha3, ?_⟩
    cases e : valD ks ds key with
    | some d =>
      rw [e] at w q
      obtain ⟨v, ev2, zv⟩ := w
      rw [ev2]
      exact hk _ _ δ3 H3 r3 (t1.trans t23) zv q
    | none =>
      rw [e] at w q
      rw [w]
      exact hk _ _ δ3 H3 r3 (t1.trans t23) a3 q
  | non => exact q1.elim
  | bl b => exact q1.elim
  | int b => exact q1.elim
  | str b => exact q1.elim
  | lst b => exact q1.elim
  | tup b => exact q1.elim
  | scr b => exact q1.elim
end
end Dq
namespace Dq
open PySem PySem.Spec PyProof.Rows L2
theorem sx (n d k : Nat) (h : k ≤ n) : HT.sIx n d (some (k : Int)) = k := by
  unfold HT.sIx
  simp only
  try rw [if_neg (by omega)]
  first | omega | (simp; omega)
theorem fSlK (a : D) (r : List D) (k : D → Prop) (m : Nat) (h : m ≤ r.length) : fSl (.tup (a :: r)) (some 1) (some ((m + 1 : Nat) : Int)) k = k (.tup (r.take m)) := by
  have e1 := sx (a :: r).length 0 1 (by simp)
  have e2 := sx (a :: r).length (a :: r).length (m + 1) (by simp; omega)
  show (¬ (HT.sIx (a :: r).length 0 (some 1) = 0 ∧ _) ∧ k (.tup (cutD (a :: r) (some 1) (some ((m + 1 : Nat) : Int))))) = _
  unfold cutD
  rw [show (some (1 : Int)) = some ((1 : Nat) : Int) from rfl, e1, e2]
  simp
theorem cut11 (a : D) (r : List D) (k : D → Prop) : fSl (.tup (a :: r)) (some 1) (some 1) k = k (.tup []) := fSlK a r k 0 (Nat.zero_le _)
theorem cut12 (a b : D) (r : List D) (k : D → Prop) : fSl (.tup (a :: b :: r)) (some 1) (some 2) k = k (.tup [b]) := fSlK a (b :: r) k 1 (by simp)
theorem cut13 (a b c : D) (r : List D) (k : D → Prop) : fSl (.tup (a :: b :: c :: r)) (some 1) (some 3) k = k (.tup [b, c]) := fSlK a (b :: c :: r) k 2 (by simp)
theorem fSlC : True := trivial
end Dq

/- Part 17: a call's list taken as one's own; one's own list said anew; l + m. -/
namespace Dq
open PySem PySem.Spec PyProof.Rows L2
mutual
/-- no list and no dict in it -/
def D.noL : D → Bool
  | .non => true | .bl _ => true | .int _ => true | .str _ => true
  | .tup ds => D.noLs ds
  | .lst _ => false | .dct _ _ => false | .scr _ => false
def D.noLs : List D → Bool
  | [] => true
  | d :: r => d.noL && D.noLs r
end
section
variable {K : PySem.W.Frag} {xw : XK} {np j : Nat}
mutual
theorem At.apart {M : Addr → Prop} {H : Hp} : ∀ {d : D} {v : V}, d.noL = true → At K M H d v → At K (fun b => M b ∨ ∃ l, H b = some (.lst l)) H d v
  | .non, _, _, h => by simpa only [At] using h
  | .bl _, _, _, h => by simpa only [At] using h
  | .int _, _, _, h => by simpa only [At] using h
  | .str _, _, _, h => by simpa only [At] using h
  | .tup ds, v, n, h => by
    rw [D.noL] at n
    rw [At] at h ⊢
    obtain ⟨a, vs, e, na, q, r⟩ := h
    refine ⟨a, vs, e, ?_, q, Ats.apart n r⟩
    rintro (m | ⟨l, m⟩)
    · exact na m
    · rw [q] at m; cases m
  | .lst ds, v, n, h => by rw [D.noL] at n; cases n
  | .dct _ ds, v, n, h => by rw [D.noL] at n; cases n
  | .scr ns, v, n, h => by rw [D.noL] at n; cases n
theorem Ats.apart {M : Addr → Prop} {H : Hp} : ∀ {ds : List D} {vs : List V}, D.noLs ds = true → Ats K M H ds vs → Ats K (fun b => M b ∨ ∃ l, H b = some (.lst l)) H ds vs
  | [], vs, _, h => by simpa only [Ats] using h
  | d :: r, vs, n, h => by
    rw [D.noLs, Bool.and_eq_true] at n
    rw [Ats] at h ⊢
    obtain ⟨v, t, e, h1, h2⟩ := h
    exact ⟨v, t, e, At.apart n.1 h1, Ats.apart n.2 h2⟩
end
def fCall (sp : DSp) (da : DA) : DF := fun E δ Q => da E δ fun as δ1 => onVals as fun ds => D.noLs ds = true ∧ sp (ds.map .val) E fun d _ => ∃ es, d = .lst es ∧ D.noLs es = true ∧ Q (.own es) δ1
theorem no_mut {ds : List D} {i : Nat} : ¬ IsMut ((ds.map Sl.val).map some) i := by
  rintro ⟨s, e, m⟩
  rw [List.map_map, List.getElem?_map] at e
  cases q : ds[i]? with
  | none => rw [q] at e; cases e
  | some d => rw [q] at e; cases e; cases m
theorem sf_call {ta : TA} {da : DA} {sp : DSp} (h : SA K xw ta da) : SF K xw (tCall (liftSp K sp) [] xw ta) (fCall sp da) := by
  intro Mx σ δ H E Q k rp xl ht hk
  refine h Mx σ δ H E _ _ rp xl ht fun vs as δ1 H1 r1 t1 a1 q1 => ?_
  obtain ⟨ds, ⟨hn, q⟩, z⟩ := vals_of a1 q1
  show liftSp K sp (vs ++ []) H1 k xw
  rw [List.append_nil]
  have nmu : ∀ a, ¬ Mu (vs.map some) ((ds.map Sl.val).map some) a := fun a ⟨i, m, _⟩ => no_mut m
  refine ⟨ds.map .val, E, (fun b => Mm σ δ1 Mx b ∨ ∃ l, H1 b = some (.lst l)), _, ⟨fun i s e => ?_, fun i j a m => (no_mut m).elim, fun a m => ?_, fun a _ m => nmu a m, by simp [z.len]⟩, fun c H2 hx he => (xl.tr t1) c H2 (fun a o e _ => hx a o e (nmu a)) he, q, ?_⟩
  · rw [List.map_map, List.getElem?_map] at e
    cases ed : ds[i]? with
    | none => rw [ed] at e; cases e
    | some d =>
      rw [ed] at e
      cases e
      obtain ⟨v, ev, zv⟩ := (Ats.apart hn z).get ed
      exact ⟨v, by rw [List.getElem?_map, ev]; rfl, zv.mono (fun _ _ e _ => e) fun a _ _ m => m.elim (fun m => (nmu a m).elim) id⟩
  · rcases m with m | ⟨l, e⟩
    · exact r1.mdom m
    · exact ⟨_, e⟩
  · rintro d ss' v H' ⟨es, rfl, ne, q⟩ rr tt aa
    obtain ⟨a, vs', rfl, na, ha, za⟩ := at_lst aa
    have ext : ∀ b o, H1 b = some o → H' b = some o := fun b o e => tt.ext b o e (nmu b)
    have hn1 : H1 a = none := by
      cases e : H1 a with
      | none => rfl
      | some o =>
        have := ext a o e
        rw [ha] at this
        cases this
        exact (na (.inr (.inr ⟨vs', e⟩))).elim
    have ext2 : ∀ b o, upd H1 a (.lst vs') b = some o → H' b = some o := fun b o e => by
      by_cases hb : b = a
      · subst hb; rw [upd_same] at e; cases e; exact ha
      · rw [upd_ne hb] at e; exact ext b o e
    refine hk a (.own es) δ1 H' ((r1.more hn1).heap ext2) (t1.trans (Tr.heap ext)) (none_back t1 hn1) rfl ⟨a, vs', rfl, ha, ?_⟩ q
    refine (Ats.apart ne za).mono (fun _ _ e _ => e) fun b o e m => ?_
    rcases m with m | m | m
    · exact .inl (.inr (.inl (.inl m)))
    · exact .inl (.inr (.inl (.inr m)))
    · subst m; exact .inr ⟨vs', ha⟩
/-- what stands in a slot is let go -/
theorem Rp.letGo {σ : St} {δ : Dst} {H : Hp} {Mx : Addr → Prop} (r : Rp K Mx σ δ H) (i : Nat) : Rp K Mx σ (δ.set i none) H ∧ (∀ a, Mu σ (δ.set i none) a → Mu σ δ a) ∧ ∀ j, j ≠ i → (IsMut (δ.set i none) j ↔ IsMut δ j) := by
  have g : ∀ (j : Nat) (s : Sl), (δ.set i none)[j]? = some (some s) → i ≠ j ∧ δ[j]? = some (some s) := fun j s e => by
    by_cases hj : i = j
    · subst hj
      by_cases hl : i < δ.length
      · rw [List.getElem?_set_self hl] at e; cases e
      · rw [List.getElem?_eq_none (by simpa using hl)] at e; cases e
    · rw [List.getElem?_set_ne hj] at e
      exact ⟨hj, e⟩
  have mt : ∀ j, IsMut (δ.set i none) j → IsMut δ j := fun j ⟨s, e, m⟩ => ⟨s, (g j s e).2, m⟩
  have mu : ∀ a, Mu σ (δ.set i none) a → Mu σ δ a := fun a ⟨j, m, q⟩ => ⟨j, mt j m, q⟩
  refine ⟨⟨fun j s e => ?_, fun j k a m1 m2 => r.sep j k a (mt j m1) (mt k m2), r.ex, fun a m z => r.dis a m (mu a z), by simpa using r.len⟩, mu, fun j hj => ⟨mt j, fun ⟨s, e, m⟩ => ⟨s, by rw [List.getElem?_set_ne (Ne.symm hj)]; exact e, m⟩⟩⟩
  obtain ⟨v, e2, z⟩ := r.get j s (g j s e).2
  exact ⟨v, e2, z.mono (fun _ _ e _ => e) (fun a _ _ m => m.elim (fun m => .inl (mu a m)) .inr) fun _ _ _ _ e => e⟩
def dReSet (i : Nat) (t : DF) : DS := fun E De δ => t E δ fun s δ1 => (8 ≤ i ∧ i < δ1.length) ∧ De.nx (δ1.set i (some s))
theorem ss_reSet {te : TE} {t : DF} {i : Nat} (h : SF K xw te t) : SS K xw np (tAsg te (gName i)) (dReSet i t) := by
  intro Mx σ δ H E De Dn P rp pm xl ht lk
  refine h Mx σ δ H E _ _ rp xl ht fun a s δ1 H1 r1 t1 ha hm hs q1 => ?_
  obtain ⟨⟨h8, hl⟩, q1⟩ := q1
  have na : ¬ Mx a := fun m => by
    obtain ⟨o, e⟩ := rp.ex a m
    rw [ha] at e; cases e
  obtain ⟨r2, m2, mt2⟩ := r1.letGo i
  have n : ¬ IsMut (δ1.set i none) i := by
    rintro ⟨s, e, _⟩
    rw [List.getElem?_set_self hl] at e; cases e
  obtain ⟨r3, mu⟩ := r2.own na n (hs.mono (fun _ _ e _ => e) (fun b _ _ m => m.elim (fun m => .inl (m2 b m)) .inr) fun _ _ _ _ e => e) hm (by simpa using hl)
  rw [List.set_set] at r3 mu
  refine lk.nx _ _ _ r3 ⟨t1.ext, t1.dom, fun b m => ((mu b).mp m).elim (fun m => t1.fr b (m2 b m)) fun e => .inr (by rw [e]; exact ha), fun j u l m e => ?_⟩ q1
  obtain ⟨e1, m1⟩ := t1.par j u l m e
  have hj : i ≠ j := by omega
  obtain ⟨s', e', m'⟩ := m1
  exact ⟨by rw [List.getElem?_set_ne hj]; exact e1, s', by rw [List.getElem?_set_ne hj]; exact e', m'⟩
/-- l + e, l one's own: a new list -/
def fAddOwn (i : Nat) (t : DE) : DF := fun E δ Q => onOwn δ[i]? fun _ => t E δ fun d δ1 => match d with
  | .lst es => onOwn δ1[i]? fun ds => ds.length + es.length ≤ sizeLine ∧ Q (.own (ds ++ es)) δ1
  | _ => False
theorem sf_addOwn {te : TE} {t : DE} {i : Nat} (h : SE K xw te t) : SF K xw (tOp (rAddA K) (tVar i) te) (fAddOwn i t) := by
  intro Mx σ δ H E Q k rp xl ht hk
  obtain ⟨ds0, e0, ht⟩ := onOwn_of ht
  obtain ⟨a, vs0, ea, _, _⟩ := own_at rp e0
  refine ⟨.ref a, ea, ?_⟩
  refine h Mx σ δ H E _ _ rp xl ht fun v d δ1 H1 r1 t1 a1 q1 => ?_
  match d, q1 with
  | .lst es, q1 =>
    obtain ⟨ds, e1, hz, q⟩ := onOwn_of q1
    obtain ⟨a', vs, ea', ha, za⟩ := own_at r1 e1
    rw [ea] at ea'
    cases ea'
    obtain ⟨b, ws, rfl, nb, hb, zb⟩ := at_lst a1
    refine .inr (.inr (.inl ⟨a, b, vs, ws, rfl, rfl, ha, hb, by rw [za.len, zb.len]; exact hz, fun p hp => ?_⟩))
    exact hk p (.own (ds ++ es)) δ1 _ (r1.more hp) (t1.trans (Tr.new hp)) (none_back t1 hp) rfl ⟨p, vs ++ ws, rfl, upd_same, (za.more hp).append (zb.more hp)⟩ q
end
end Dq

/- Part 18: one's own lists compared. -/
namespace Dq
open PySem PySem.Spec PyProof.Rows L2
section
variable {K : PySem.W.Frag} {xw : XK} {np : Nat}
def D.isSc : D → Bool
  | .non => true | .bl _ => true | .int _ => true | .str _ => true
  | .tup _ => false | .lst _ => false | .dct _ _ => false | .scr _ => false
theorem sc_at {M M' : Addr → Prop} {H : Hp} {d : D} {v : V} (h : d.isSc = true) (a : At K M H d v) : At K M' H d v := by
  cases d <;> first | (cases h; done) | (simpa only [At] using a)
theorem own_val {Mx : Addr → Prop} {σ : St} {δ : Dst} {H : Hp} {i : Nat} {ds : List D} (rp : Rp K Mx σ δ H) (e : δ[i]? = some (some (.own ds))) : ∃ a, σ[i]? = some (some (.ref a)) ∧ At K Mx H (.lst ds) (.ref a) := by
  obtain ⟨a, vs, ea, ha, za⟩ := own_at rp e
  refine ⟨a, ea, ?_⟩
  rw [At]
  exact ⟨a, vs, rfl, fun m => rp.dis a m ⟨i, ⟨_, e, rfl⟩, ea⟩, ha, za.mono (fun _ _ e _ => e) fun _ _ _ m => .inr m⟩
def dOpOO (f : F2) (i j : Nat) : DE := fun _ δ Q => onOwn δ[i]? fun ds => onOwn δ[j]? fun es => f (.lst ds) (.lst es) fun z => z.isSc = true ∧ Q z δ
def dOpEO (f : F2) (t : DE) (j : Nat) : DE := fun E δ Q => t E δ fun d δ1 => onOwn δ1[j]? fun es => f d (.lst es) fun z => z.isSc = true ∧ Q z δ1
def dOpOE (f : F2) (i : Nat) (t : DE) : DE := fun E δ Q => onOwn δ[i]? fun _ => t E δ fun d δ1 => onOwn δ1[i]? fun ds => f (.lst ds) d fun z => z.isSc = true ∧ Q z δ1
theorem se_opOO {r : R2} {f : F2} {i j : Nat} (ho : OS K r f) : SE K xw (tOp r (tVar i) (tVar j)) (dOpOO f i j) := by
  intro Mx σ δ H E Q k rp xl ht hk
  obtain ⟨ds, e1, ht⟩ := onOwn_of ht
  obtain ⟨es, e2, ht⟩ := onOwn_of ht
  obtain ⟨a, ea, za⟩ := own_val rp e1
  obtain ⟨b, eb, zb⟩ := own_val rp e2
  refine ⟨.ref a, ea, .ref b, eb, ho Mx H _ _ _ _ _ _ rp.ex za zb ht fun z vz H' ext zz q => ?_⟩
  exact hk vz z δ H' (rp.heap ext) (Tr.heap ext) (sc_at q.1 zz) q.2
theorem se_opEO {r : R2} {f : F2} {te : TE} {t : DE} {j : Nat} (ho : OS K r f) (h : SE K xw te t) : SE K xw (tOp r te (tVar j)) (dOpEO f t j) := by
  intro Mx σ δ H E Q k rp xl ht hk
  refine h Mx σ δ H E _ _ rp xl ht fun v d δ1 H1 r1 t1 a1 q1 => ?_
  obtain ⟨es, e2, q1⟩ := onOwn_of q1
  obtain ⟨b, eb, zb⟩ := own_val r1 e2
  refine ⟨.ref b, eb, ho Mx H1 _ _ _ _ _ _ r1.ex (a1.mono (fun _ _ e _ => e) fun _ _ _ m => .inr m) zb q1 fun z vz H' ext zz q => ?_⟩
  exact hk vz z δ1 H' (r1.heap ext) (t1.trans (Tr.heap ext)) (sc_at q.1 zz) q.2
theorem se_opOE {r : R2} {f : F2} {te : TE} {t : DE} {i : Nat} (ho : OS K r f) (h : SE K xw te t) : SE K xw (tOp r (tVar i) te) (dOpOE f i t) := by
  intro Mx σ δ H E Q k rp xl ht hk
  obtain ⟨ds0, e0, ht⟩ := onOwn_of ht
  obtain ⟨a, ea, _⟩ := own_val rp e0
  refine ⟨.ref a, ea, ?_⟩
  refine h Mx σ δ H E _ _ rp xl ht fun v d δ1 H1 r1 t1 a1 q1 => ?_
  obtain ⟨ds, e1, q1⟩ := onOwn_of q1
  obtain ⟨a', ea', za⟩ := own_val r1 e1
  rw [ea] at ea'
  cases ea'
  refine ho Mx H1 _ _ _ _ _ _ r1.ex za (a1.mono (fun _ _ e _ => e) fun _ _ _ m => .inr m) q1 fun z vz H' ext zz q => ?_
  exact hk vz z δ1 H' (r1.heap ext) (t1.trans (Tr.heap ext)) (sc_at q.1 zz) q.2
def dIsiOwn (p : D → Bool) (i : Nat) : DE := fun _ δ Q => onOwn δ[i]? fun ds => Q (.bl (p (.lst ds))) δ
theorem se_isiOwn {T : String} {p : D → Bool} {i : Nat} (hT : OkT T p) : SE K xw (tCB (rIsi K) (tCons (tVar i) (tCons (tC (.ty T)) tNil))) (dIsiOwn p i) := by
  intro Mx σ δ H E Q k rp xl ht hk
  obtain ⟨ds, e, q⟩ := onOwn_of ht
  obtain ⟨a, ea, za⟩ := own_val rp e
  exact ⟨.ref a, ea, .ref a, .ty T, .type (D.lst ds).ty, .type T, p (.lst ds), rfl, .ty T, ty_of za, kit_ty (hT _), hk _ _ δ H rp Tr.refl (at_bl' _) q⟩
end
end Dq

/- Part 19: dicts: new, copied, looked into, put into, handed back; a body that lets nothing out. -/
namespace Dq
open PySem PySem.Spec PyProof.Rows L2
section
variable {K : PySem.W.Frag} {xw : XK} {np : Nat}
def fDNew : DF := fun _ δ Q => Q (.dic [] []) δ
theorem sf_dnew : SF K xw tDNewK fDNew := by
  intro Mx σ δ H E Q k rp xl ht hk p hp
  exact hk p (.dic [] []) δ _ (rp.more hp) (Tr.new hp) hp rfl ⟨p, [], rfl, upd_same, rfl, by rw [Ats]⟩ ht
def fDCopy (t : DE) : DF := fun E δ Q => t E δ fun d δ1 => match d with
  | .dct ks ds => Q (.dic ks ds) δ1
  | _ => False
def rDCopy : List V → Hp → VK → Prop := fun xs H Q => ∃ (a : Addr) (kvs : List (Key × V)), xs = [.ref a] ∧ Rd H a (.dK kvs) ∧ ∀ p, H p = none → Q (.ref p) (upd H p (.dK kvs))
theorem crDCopy {X : Cx} : CallR X (.type "dict") rDCopy := call_dictD
theorem sf_dcopy {te : TE} {t : DE} (h : SE K xw te t) : SF K xw (tCB rDCopy (tCons te tNil)) (fDCopy t) := by
  intro Mx σ δ H E Q k rp xl ht hk
  refine h Mx σ δ H E _ _ rp xl ht fun v d δ1 H1 r1 t1 a1 q1 => ?_
  match d, q1 with
  | .dct ks ds, q1 =>
    rw [At] at a1
    obtain ⟨a, vs, rfl, na, ha, hl, za⟩ := a1
    refine ⟨a, _, rfl, .inl ha, fun p hp => ?_⟩
    exact hk p (.dic ks ds) δ1 _ (r1.more hp) (t1.trans (Tr.new hp)) (none_back t1 hp) rfl ⟨p, vs, rfl, upd_same, hl, za.more hp⟩ q1
def dDGet (td ty : DE) : DE := fun E δ Q => td E δ fun d δ1 => match d with
  | .dct ks ds => ty E δ1 fun y δ2 => onSome (keyOf y) fun k => onSome (valD ks ds k) fun z => Q z δ2
  | _ => False
theorem key_at {M : Addr → Prop} {H : Hp} {y : D} {v : V} {k : Key} (h : At K M H y v) (e : keyOf y = some k) : v = kV k := by
  cases y with
  | int i => rw [At] at h; injection e with e; subst e; exact h
  | str x => rw [At] at h; injection e with e; subst e; exact h
  | _ => cases e
theorem se_dget {ta tb : TE} {da db : DE} (h1 : SE K xw ta da) (h2 : SE K xw tb db) : SE K xw (tDGet ta tb) (dDGet da db) := by
  intro Mx σ δ H E Q k rp xl ht hk
  refine h1 Mx σ δ H E _ _ rp xl ht fun v d δ1 H1 r1 t1 a1 q1 => ?_
  match d, q1 with
  | .dct ks ds, q1 =>
    rw [At] at a1
    obtain ⟨a, vs, rfl, na, ha, hl, za⟩ := a1
    refine h2 Mx σ δ1 H1 E _ _ r1 (xl.tr t1) q1 fun vy y δ2 H2 r2 t2 a2 q2 => ?_
    obtain ⟨key, ek, q⟩ := onSome_of q2
    obtain ⟨z, ez, q⟩ := onSome_of q
    have ha2 : H2 a = some (.dK (ks.zip vs)) := t2.ext a _ ha fun m => na (.inl m)
    have w := valD_at key hl (za.tr t2)
    rw [ez] at w
    obtain ⟨u, eu, zu⟩ := w
    refine ⟨a, u, rfl, ?_, hk _ _ δ2 H2 r2 (t1.trans t2) zu q⟩
    rw [key_at a2 ek, ← eu]
    exact DGet.k ha2
def dDIn (neg : Bool) (ty td : DE) : DE := fun E δ Q => ty E δ fun y δ1 => td E δ1 fun d δ2 => match d with
  | .dct ks ds => onSome (keyOf y) fun k => Q (.bl (if neg then !(valD ks ds k).isSome else (valD ks ds k).isSome)) δ2
  | _ => False
theorem se_din {ta tb : TE} {da db : DE} (h1 : SE K xw ta da) (h2 : SE K xw tb db) : SE K xw (tDIn ta tb) (dDIn false da db) := by
  intro Mx σ δ H E Q k rp xl ht hk
  refine h1 Mx σ δ H E _ _ rp xl ht fun vy y δ1 H1 r1 t1 a1 q1 => ?_
  refine h2 Mx σ δ1 H1 E _ _ r1 (xl.tr t1) q1 fun v d δ2 H2 r2 t2 a2 q2 => ?_
  match d, q2 with
  | .dct ks ds, q2 =>
    obtain ⟨key, ek, q⟩ := onSome_of q2
    rw [At] at a2
    obtain ⟨a, vs, rfl, na, ha, hl, za⟩ := a2
    have w := valD_at key hl za
    refine ⟨a, valV (ks.zip vs) key, rfl, by rw [key_at a1 ek]; exact DGet.k ha, ?_⟩
    refine hk _ _ δ2 H2 r2 (t1.trans t2) (at_bl' _) ?_
    cases e : valD ks ds key with
    | some z => rw [e] at w q; obtain ⟨u, eu, _⟩ := w; rw [eu]; exact q
    | none => rw [e] at w q; rw [w]; exact q
theorem se_dnotin {ta tb : TE} {da db : DE} (h1 : SE K xw ta da) (h2 : SE K xw tb db) : SE K xw (tDNotIn ta tb) (dDIn true da db) := by
  intro Mx σ δ H E Q k rp xl ht hk
  refine h1 Mx σ δ H E _ _ rp xl ht fun vy y δ1 H1 r1 t1 a1 q1 => ?_
  refine h2 Mx σ δ1 H1 E _ _ r1 (xl.tr t1) q1 fun v d δ2 H2 r2 t2 a2 q2 => ?_
  match d, q2 with
  | .dct ks ds, q2 =>
    obtain ⟨key, ek, q⟩ := onSome_of q2
    rw [At] at a2
    obtain ⟨a, vs, rfl, na, ha, hl, za⟩ := a2
    have w := valD_at key hl za
    refine ⟨a, valV (ks.zip vs) key, rfl, by rw [key_at a1 ek]; exact DGet.k ha, ?_⟩
    refine hk _ _ δ2 H2 r2 (t1.trans t2) (at_bl' _) ?_
    cases e : valD ks ds key with
    | some z => rw [e] at w q; obtain ⟨u, eu, _⟩ := w; rw [eu]; exact q
    | none => rw [e] at w q; rw [w]; exact q
/-! ### one's own dict -/
def onDic : Option (Option Sl) → (List Key → List D → Prop) → Prop
  | some (some (.dic ks ds)), k => k ks ds
  | _, _ => False
theorem onDic_of {o : Option (Option Sl)} {k : List Key → List D → Prop} (h : onDic o k) : ∃ ks ds, o = some (some (.dic ks ds)) ∧ k ks ds := by
  match o, h with
  | some (some (.dic ks ds)), h => exact ⟨ks, ds, rfl, h⟩
theorem dic_at {Mx : Addr → Prop} {σ : St} {δ : Dst} {H : Hp} {i : Nat} (rp : Rp K Mx σ δ H) {ks : List Key} {ds : List D} (e : δ[i]? = some (some (.dic ks ds))) :
    ∃ a vs, σ[i]? = some (some (.ref a)) ∧ H a = some (.dK (ks.zip vs)) ∧ ks.length = vs.length ∧ Ats K (Mm σ δ Mx) H ds vs := by
  obtain ⟨v, e2, z⟩ := rp.get i _ e
  obtain ⟨a, vs, rfl, q1, q2, q3⟩ := z
  exact ⟨a, vs, e2, q1, q2, q3⟩
def dRetDic (np i : Nat) : DS := fun _ De δ => onDic δ[i]? fun ks ds => np ≤ i ∧ De.rt (.dct ks ds) δ
theorem ss_retDic {i : Nat} : SS K xw np (tRet (tVar i)) (dRetDic np i) := by
  intro Mx σ δ H E De Dn P rp pm xl ht lk
  obtain ⟨ks, ds, e, l, q⟩ := onDic_of ht
  obtain ⟨a, vs, ea, ha, hl, za⟩ := dic_at rp e
  refine ⟨.ref a, ea, lk.rt _ _ σ δ H rp Tr.refl ?_ q⟩
  rw [At]
  refine ⟨a, vs, rfl, fun m => m.elim (fun m => ?_) (fun m => rp.dis a m ⟨i, ⟨_, e, rfl⟩, ea⟩), ha, hl, za.mono (fun _ _ e _ => e) fun b _ _ m => m.elim (fun m => .inl (pm.mu m)) .inr⟩
  obtain ⟨j, hj, m', q'⟩ := pm.2 a m
  have := rp.sep i j a ⟨_, e, rfl⟩ m' ea q'
  omega
def putKs (ks : List Key) (k : Key) : List Key := if (ks.any fun c => decide (c = k)) = true then ks else ks ++ [k]
def putDs (ks : List Key) (ds : List D) (k : Key) (d : D) : List D := if (ks.any fun c => decide (c = k)) = true then (ks.zip ds).map (fun p => if p.1 = k then d else p.2) else ds ++ [d]
def putVs (ks : List Key) (vs : List V) (k : Key) (v : V) : List V := if (ks.any fun c => decide (c = k)) = true then (ks.zip vs).map (fun p => if p.1 = k then v else p.2) else vs ++ [v]
theorem any_zip (k : Key) : ∀ {ks : List Key} {vs : List V}, ks.length = vs.length → ((ks.zip vs).any fun kv => decide (kv.1 = k)) = ks.any fun c => decide (c = k)
  | [], [], _ => rfl
  | c :: ks, v :: vs, h => by rw [List.zip_cons_cons, List.any_cons, List.any_cons, any_zip k (by simpa using h)]
theorem zip_put (k : Key) (v : V) : ∀ {ks : List Key} {vs : List V}, ks.length = vs.length → ks.zip ((ks.zip vs).map fun p => if p.1 = k then v else p.2) = (ks.zip vs).map fun kv => if kv.1 = k then (kv.1, v) else kv
  | [], [], _ => rfl
  | c :: ks, u :: vs, h => by
    rw [List.zip_cons_cons, List.map_cons, List.zip_cons_cons, zip_put k v (by simpa using h), List.map_cons]
    by_cases e : c = k <;> simp [e]
theorem put_zip {k : Key} {v : V} {ks : List Key} {vs : List V} (h : ks.length = vs.length) : putK (ks.zip vs) k v = (putKs ks k).zip (putVs ks vs k v) ∧ (putKs ks k).length = (putVs ks vs k v).length := by
  unfold putK putKs putVs
  rw [any_zip k h]
  split
  · exact ⟨(zip_put k v h).symm, by simp [h]⟩
  · exact ⟨by rw [List.zip_append h]; rfl, by simp [h]⟩
theorem ats_map {M : Addr → Prop} {H : Hp} {k : Key} {d : D} {v : V} (a : At K M H d v) : ∀ {ks : List Key} {ds : List D} {vs : List V}, ks.length = vs.length → Ats K M H ds vs →
    Ats K M H ((ks.zip ds).map fun p => if p.1 = k then d else p.2) ((ks.zip vs).map fun p => if p.1 = k then v else p.2) := by
  intro ks
  induction ks with
  | nil => intro ds vs hl h; simp [Ats]
  | cons c ks ih =>
    intro ds vs hl h
    cases ds with
    | nil => rw [Ats] at h; subst h; cases hl
    | cons e ds =>
      rw [Ats] at h
      obtain ⟨u, t, rfl, h1, h2⟩ := h
      rw [List.zip_cons_cons, List.zip_cons_cons, List.map_cons, List.map_cons, Ats]
      refine ⟨_, _, rfl, ?_, ih (by simpa using hl) h2⟩
      by_cases q : c = k
      · simpa [q] using a
      · simpa [q] using h1
theorem ats_put {M : Addr → Prop} {H : Hp} {k : Key} {d : D} {v : V} (a : At K M H d v) {ks : List Key} {ds : List D} {vs : List V} (hl : ks.length = vs.length) (h : Ats K M H ds vs) : Ats K M H (putDs ks ds k d) (putVs ks vs k v) := by
  unfold putDs putVs
  split
  · exact ats_map a hl h
  · exact h.append (ats_one a)
def dDPut (i : Nat) (ty tv : DE) : DS := fun E De δ => tv E δ fun d δ1 => onDic δ1[i]? fun _ _ => ty E δ1 fun y δ2 => onSome (keyOf y) fun k => onDic δ2[i]? fun ks ds => ks.length < 100000 ∧ De.nx (δ2.set i (some (.dic (putKs ks k) (putDs ks ds k d))))
theorem ss_dput {i : Nat} {ty tv : TE} {dy dv : DE} (h1 : SE K xw ty dy) (h2 : SE K xw tv dv) : SS K xw np (sDPut (tVar i) ty tv) (dDPut i dy dv) := by
  intro Mx σ δ H E De Dn P rp pm xl ht lk
  refine h2 Mx σ δ H E _ _ rp xl ht fun v d δ1 H1 r1 t1 a1 q1 => ?_
  obtain ⟨ks0, ds0, e0, q1⟩ := onDic_of q1
  obtain ⟨a, vs0, ea, _, _, _⟩ := dic_at r1 e0
  refine ⟨.ref a, ea, ?_⟩
  refine h1 Mx σ δ1 H1 E _ _ r1 (xl.tr t1) q1 fun vy y δ2 H2 r2 t2 a2 q2 => ?_
  obtain ⟨key, ek, q⟩ := onSome_of q2
  obtain ⟨ks, ds, e, hz, q⟩ := onDic_of q
  obtain ⟨a', vs, ea', ha, hl, za⟩ := dic_at r2 e
  rw [ea] at ea'
  cases ea'
  have pz := put_zip (k := key) (v := v) hl
  refine ⟨a, upd H2 a (.dK (putK (ks.zip vs) key v)), rfl, .inl ⟨_, key, ha, key_at a2 ek, ?_, rfl⟩, ?_⟩
  · have : (ks.zip vs).length < 100000 := by rw [List.length_zip]; omega
    exact Nat.lt_of_lt_of_le this (by decide)
  · have m : Mm σ δ2 Mx a := .inl ⟨i, ⟨_, e, rfl⟩, ea⟩
    have at2 : At K (Mm σ δ2 Mx) H2 d v := a1.tr t2
    have z := ats_put (k := key) at2 hl za
    have sl : SlAt K (Mm σ δ2 Mx) (upd H2 a (.dK (putK (ks.zip vs) key v))) (.dic (putKs ks key) (putDs ks ds key d)) (.ref a) :=
      ⟨a, putVs ks vs key v, rfl, by rw [upd_same, pz.1], pz.2, z.upd m⟩
    obtain ⟨r3, t3⟩ := r2.chg e rfl rfl ea sl
    exact lk.nx _ _ _ r3 ((t1.trans t2).trans t3) q
/-! ### a body that lets nothing out -/
def noX : XK := fun _ _ _ => False
def dNoX (t : DS) : DS := fun _ De δ => t (fun _ => False) De δ
theorem ss_nox {ts : TS} {t : DS} (h : SS K noX np ts t) : SS K xw np ts (dNoX t) := by
  intro Mx σ δ H E De Dn P rp pm xl ht lk
  exact h Mx σ δ H (fun _ => False) De Dn P rp pm (fun _ _ _ h => h.elim) ht lk
theorem passN {P : Program} {w : World} {X : Cx} : Passes (L2.CX P w) X noX := fun _ _ _ _ _ _ _ h => by
  obtain ⟨_, _, _, _, _, _, _, _, _, _, _, _, z⟩ := h
  exact z.elim
/-- a raise that is never reached -/
def tBad : TS := fun _ _ _ => False
theorem ps_bad {X : Cx} {s : Stmt} : PS X s tBad := ⟨fun _ _ _ _ _ _ h => h.elim⟩
def dBad : DS := fun _ _ _ => False
theorem ss_bad : SS K xw np tBad dBad := fun _ _ _ _ _ _ _ _ _ _ _ ht _ => ht.elim
end
end Dq

/- Part 20: a call that is given a new list to change. -/
namespace Dq
open PySem PySem.Spec PyProof.Rows L2
abbrev DO2 := (Addr → Prop) → Dst → (List Sl → Dst → Prop) → Prop
section
variable {K : PySem.W.Frag} {xw : XK}
/-- arguments: values and new lists (F holds the new ones' addresses) -/
def SOa (K : PySem.W.Frag) (xw : XK) (ta : TA) (t : DO2) : Prop := ∀ (Mx : Addr → Prop) (σ : St) (δ : Dst) (H : Hp) (E : Addr → Prop) (Q : List Sl → Dst → Prop) (k : List V → Hp → Prop), Rp K Mx σ δ H → XL xw σ δ H E → t E δ Q →
  (∀ (vs : List V) (ss : List Sl) (δ' : Dst) (H' : Hp) (F : Addr → Prop), Rp K (fun b => Mx b ∨ F b) σ δ' H' → Tr σ δ H σ δ' H' → (∀ a, F a → H a = none) → Rp K (Mm σ δ' Mx) (vs.map some) (ss.map some) H' → (∀ a, Mu (vs.map some) (ss.map some) a → F a) → Q ss δ' → k vs H') → ta σ H k
def oNil : DO2 := fun _ δ Q => Q [] δ
def oVal (t : DE) (r : DO2) : DO2 := fun E δ Q => t E δ fun d δ1 => r E δ1 fun ss δ2 => Q (.val d :: ss) δ2
def oNew (t : DF) (r : DO2) : DO2 := fun E δ Q => t E δ fun s δ1 => r E δ1 fun ss δ2 => Q (s :: ss) δ2
theorem so_nil : SOa K xw tNil oNil := by
  intro Mx σ δ H E Q k rp xl ht hk
  refine hk [] [] δ H (fun _ => False) (rp.less fun a m => m.elim id fun f => f.elim) Tr.refl (fun _ f => f.elim) ⟨fun i s e => by simp at e, fun i j a m => ?_, fun a m => rp.mdom m, fun a _ m => ?_, rfl⟩ (fun a m => ?_) ht
  · obtain ⟨s, e, _⟩ := m; simp at e
  · obtain ⟨i, ⟨s, e, _⟩, _⟩ := m; simp at e
  · obtain ⟨i, ⟨s, e, _⟩, _⟩ := m; simp at e
theorem mu_cons_val {v : V} {vs : List V} {d : D} {ss : List Sl} (a : Addr) : Mu ((v :: vs).map some) ((Sl.val d :: ss).map some) a ↔ Mu (vs.map some) (ss.map some) a := by
  constructor
  · rintro ⟨i, ⟨s, e, m⟩, q⟩
    cases i with
    | zero => simp at e; subst e; cases m
    | succ i => exact ⟨i, ⟨s, by simpa using e, m⟩, by simpa using q⟩
  · rintro ⟨i, ⟨s, e, m⟩, q⟩
    exact ⟨i + 1, ⟨s, by simpa using e, m⟩, by simpa using q⟩
theorem mu_cons_own {p : Addr} {vs : List V} {s0 : Sl} (hm : s0.mut = true) {ss : List Sl} (a : Addr) : Mu ((.ref p :: vs).map some) ((s0 :: ss).map some) a ↔ (a = p ∨ Mu (vs.map some) (ss.map some) a) := by
  constructor
  · rintro ⟨i, ⟨s, e, m⟩, q⟩
    cases i with
    | zero => simp at q; exact .inl q.symm
    | succ i => exact .inr ⟨i, ⟨s, by simpa using e, m⟩, by simpa using q⟩
  · rintro (rfl | ⟨i, ⟨s, e, m⟩, q⟩)
    · exact ⟨0, ⟨s0, by simp, hm⟩, by simp⟩
    · exact ⟨i + 1, ⟨s, by simpa using e, m⟩, by simpa using q⟩
theorem so_val {te : TE} {de : DE} {tr : TA} {dr : DO2} (h1 : SE K xw te de) (h2 : SOa K xw tr dr) : SOa K xw (tCons te tr) (oVal de dr) := by
  intro Mx σ δ H E Q k rp xl ht hk
  refine h1 Mx σ δ H E _ _ rp xl ht fun v d δ1 H1 r1 t1 a1 q1 => ?_
  refine h2 Mx σ δ1 H1 E _ _ r1 (xl.tr t1) q1 fun vs ss δ2 H2 F r2 t2 f2 rc sub q2 => ?_
  have mc := fun a => @mu_cons_val v vs d ss a
  refine hk (v :: vs) (.val d :: ss) δ2 H2 F r2 (t1.trans t2) (fun a f => none_back t1 (f2 a f)) ⟨fun i s e => ?_, fun i j a m1 m2 q1 q2 => ?_, rc.ex, fun a m z => rc.dis a m ((mc a).mp z), by simpa using rc.len⟩ (fun a m => sub a ((mc a).mp m)) q2
  · cases i with
    | zero =>
      simp at e; subst e
      refine ⟨v, by simp, ?_⟩
      show At K _ H2 d v
      refine a1.mono (fun a o e n => t2.ext a o e fun m => n (.inl m)) fun a o e m => ?_
      rcases m with m | m | m
      · have := f2 a (sub a ((mc a).mp m)); rw [e] at this; cases this
      · exact (t2.fr a m).elim .inl fun z => by rw [e] at z; cases z
      · exact .inr m
    | succ i =>
      obtain ⟨u, e2, z⟩ := rc.get i s (by simpa using e)
      exact ⟨u, by simpa using e2, z.mono (fun _ _ e _ => e) (fun a _ _ m => m.elim (fun m => .inl ((mc a).mp m)) .inr) fun _ _ _ _ e => e⟩
  · obtain ⟨s1, e1, n1⟩ := m1
    obtain ⟨s2, e2, n2⟩ := m2
    cases i with
    | zero => simp at e1; subst e1; cases n1
    | succ i =>
      cases j with
      | zero => simp at e2; subst e2; cases n2
      | succ j =>
        have := rc.sep i j a ⟨s1, by simpa using e1, n1⟩ ⟨s2, by simpa using e2, n2⟩ (by simpa using q1) (by simpa using q2)
        omega
theorem so_new {te : TE} {df : DF} {tr : TA} {dr : DO2} (h1 : SF K xw te df) (h2 : SOa K xw tr dr) : SOa K xw (tCons te tr) (oNew df dr) := by
  intro Mx σ δ H E Q k rp xl ht hk
  refine h1 Mx σ δ H E _ _ rp xl ht fun p s0 δ1 H1 r1 t1 hp hm hs q1 => ?_
  refine h2 _ σ δ1 H1 E _ _ r1 (xl.tr t1) q1 fun vs ss δ2 H2 F r2 t2 f2 rc sub q2 => ?_
  have mc := fun a => @mu_cons_own p vs s0 hm ss a
  obtain ⟨op, ep⟩ : ∃ o, H1 p = some o := r1.ex p (.inr rfl)
  have npF : ¬ F p := fun f => by have := f2 p f; rw [ep] at this; cases this
  have npm : ¬ Mu (vs.map some) (ss.map some) p := fun m => npF (sub p m)
  have ep2 : ∀ o, H1 p = some o → H2 p = some o := fun o e => t2.ext p o e (r1.dis p (.inr rfl))
  -- what is held apart is the same as before
  have same : ∀ a, Mm ((.ref p :: vs).map some) ((s0 :: ss).map some) (Mm σ δ2 Mx) a → Mm (vs.map some) (ss.map some) (Mm σ δ2 fun b => Mx b ∨ b = p) a := fun a m => by
    rcases m with m | m | m
    · rcases (mc a).mp m with m | m
      · exact .inr (.inr (.inr m))
      · exact .inl m
    · exact .inr (.inl m)
    · exact .inr (.inr (.inl m))
  refine hk (.ref p :: vs) (s0 :: ss) δ2 H2 (fun b => b = p ∨ F b) (r2.less fun a m => m.elim (fun m => .inl (.inl m)) fun m => m.elim (fun m => .inl (.inr m)) .inr) (t1.trans t2)
    (fun a f => f.elim (fun e => by rw [e]; exact hp) fun f => none_back t1 (f2 a f)) ⟨fun i s e => ?_, fun i j a m1 m2 q1 q2 => ?_, fun a m => rc.ex a (m.imp id .inl), fun a m z => ?_, by simpa using rc.len⟩ (fun a m => ((mc a).mp m).imp id (sub a)) q2
  · cases i with
    | zero =>
      simp at e; subst e
      refine ⟨.ref p, by simp, hs.mono (fun a o e n => t2.ext a o e fun m => n (.inl m)) (fun a o e m => ?_) fun _ a o hu q => by cases hu; exact ep2 o q⟩
      rcases same a m with m | m | m
      · have := f2 a (sub a m); rw [e] at this; cases this
      · exact (t2.fr a m).elim .inl fun z => by rw [e] at z; cases z
      · exact .inr m
    | succ i =>
      obtain ⟨u, e2, z⟩ := rc.get i s (by simpa using e)
      exact ⟨u, by simpa using e2, z.mono (fun _ _ e _ => e) (fun a _ _ m => same a m) fun _ _ _ _ e => e⟩
  · obtain ⟨s1, e1, n1⟩ := m1
    obtain ⟨s2, e2, n2⟩ := m2
    cases i with
    | zero =>
      cases j with
      | zero => rfl
      | succ j =>
        simp at q1
        exact (npm (by rw [q1]; exact ⟨j, ⟨s2, by simpa using e2, n2⟩, by simpa using q2⟩)).elim
    | succ i =>
      cases j with
      | zero =>
        simp at q2
        exact (npm (by rw [q2]; exact ⟨i, ⟨s1, by simpa using e1, n1⟩, by simpa using q1⟩)).elim
      | succ j =>
        have := rc.sep i j a ⟨s1, by simpa using e1, n1⟩ ⟨s2, by simpa using e2, n2⟩ (by simpa using q1) (by simpa using q2)
        omega
  · rcases (mc a).mp z with z | z
    · subst z
      rcases m with m | m
      · exact r2.dis a (.inl (.inr rfl)) m
      · obtain ⟨o, e⟩ := rp.ex a m
        rw [hp] at e; cases e
    · exact rc.dis a (m.imp id .inl) z
theorem se_callO {ta : TA} {t : DO2} {sp : DSp} (h : SOa K xw ta t) : SE K xw (tCall (liftSp K sp) [] xw ta) (fun E δ Q => t E δ fun ss δ1 => sp ss E fun d _ => Q d δ1) := by
  intro Mx σ δ H E Q k rp xl ht hk
  refine h Mx σ δ H E _ _ rp xl ht fun vs ss δ1 H1 F r1 t1 f1 rc sub q1 => ?_
  show liftSp K sp (vs ++ []) H1 k xw
  rw [List.append_nil]
  refine ⟨ss, E, _, _, rc, fun c H2 hx he => xl c H2 (fun a o e n => hx a o (t1.ext a o e n) fun m => by have := f1 a (sub a m); rw [e] at this; cases this) he, q1, fun d ss' v H2 qd rr tt aa => ?_⟩
  have keep : ∀ a o, H1 a = some o → ¬ F a → H2 a = some o := fun a o e n => tt.ext a o e fun m => n (sub a m)
  refine hk v d δ1 H2 ⟨fun i s e => ?_, r1.sep, fun a m => ?_, fun a m => r1.dis a (.inl m), r1.len⟩ ⟨fun a o e n => keep a o (t1.ext a o e n) fun f => (by have := f1 a f; rw [e] at this; cases this), fun a o e => ?_, t1.fr, t1.par⟩ (aa.mono (fun _ _ e _ => e) fun a _ _ m => .inr m) qd
  · obtain ⟨u, e2, z⟩ := r1.get i s e
    refine ⟨u, e2, z.mono (fun a o e n => keep a o e fun f => n (.inr (.inr f))) (fun a _ _ m => m.elim .inl fun m => .inr (.inl m)) fun m a o hu q => keep a o q fun f => ?_⟩
    rw [hu] at e2
    exact r1.dis a (.inr f) ⟨i, ⟨s, e, m⟩, e2⟩
  · obtain ⟨o, e⟩ := r1.ex a (.inl m)
    exact tt.dom a o e
  · obtain ⟨o1, e1⟩ := t1.dom a o e
    exact tt.dom a o1 e1
end
end Dq

/- Part 21: a list taken apart. -/
namespace Dq
open PySem PySem.Spec PyProof.Rows L2
section
variable {K : PySem.W.Frag} {xw : XK}
def gLs (is : List Nat) : DG := fun d δ Q => match d with
  | .lst ds => gNs is ds δ Q
  | _ => False
theorem sg_lst {n : Nat} {u : TGs} {is : List Nat} (h : SGs K u is) (hn : is.length = n) : SG K (gLst K n u) (gLs is) := by
  intro Mx σ δ H d v Q k rp a hg hk
  cases d with
  | lst ds =>
    obtain ⟨b, vs, rfl, nb, hb, zb⟩ := at_lst a
    exact ⟨b, vs, rfl, SqL.of hb, by rw [zb.len, gNs_len hg, hn], h Mx σ δ H ds vs Q k rp zb hg hk⟩
  | non => exact hg.elim
  | bl b => exact hg.elim
  | int b => exact hg.elim
  | str b => exact hg.elim
  | tup b => exact hg.elim
  | dct ks b => exact hg.elim
  | scr b => exact hg.elim
end
end Dq

/- Part 22: objects: methods, attributes, a new object. -/
namespace Dq
open PySem PySem.Spec PyProof.Rows L2
def okM (C : Addr) (m : Str) : Sl → Prop
  | .obj C2 fs => C2 = C ∧ fs.lookup m = none
  | _ => False
theorem fV_lookup (f : Str) : ∀ fs : List (Str × Int), (fV fs).lookup f = (fs.lookup f).map V.int
  | [] => rfl
  | (x, v) :: r => by
    have := fV_lookup f r
    unfold fV at this ⊢
    rw [List.map_cons, List.lookup_cons, List.lookup_cons]
    cases f == x
    · exact this
    · rfl
def tChk (C : Addr) (m : Str) (ta : TE) : TE := fun σ H Q => ta σ H fun x H1 => ∃ a dx fs, x = .ref a ∧ H1 a = some (.ins C dx fs) ∧ fs.lookup m = none ∧ Q x H1
def dSelf (C : Addr) (m : Str) (i : Nat) (r : DA) : DA := fun E δ Q => onMut δ[i]? fun s => okM C m s ∧ r E δ fun as δ2 => Q (.s i :: as) δ2
section
variable {K : PySem.W.Frag} {xw : XK} {C : Addr} {m : Str}
theorem okM_at {M : Addr → Prop} {H : Hp} {s : Sl} {v : V} (h : okM C m s) (z : SlAt K M H s v) : ∃ a dx fs, v = .ref a ∧ H a = some (.ins C dx fs) ∧ fs.lookup m = none := by
  cases s with
  | obj C2 fs =>
    obtain ⟨rfl, l⟩ := h
    obtain ⟨a, dx, e, q⟩ := z
    exact ⟨a, dx, _, e, q, by rw [fV_lookup, l]; rfl⟩
  | val d => exact h.elim
  | own d => exact h.elim
  | dic ks d => exact h.elim
  | exc a => exact h.elim
theorem sa_self {i : Nat} {tar : TA} {dar : DA} (hr : SA K xw tar dar) : SA K xw (tCons (tChk C m (tVar i)) tar) (dSelf C m i dar) := by
  intro Mx σ δ H E Q k rp xl ht hk
  have ht' : onMut δ[i]? fun s => okM C m s ∧ dar E δ fun as δ2 => Q (.s i :: as) δ2 := ht
  cases e : δ[i]? with
  | none => rw [e] at ht'; exact ht'.elim
  | some o =>
    cases o with
    | none => rw [e] at ht'; exact ht'.elim
    | some s =>
      rw [e] at ht'
      obtain ⟨v, e2, z⟩ := rp.get i _ e
      obtain ⟨a, dx, fs, ea, ha, l⟩ := okM_at ht'.2.1 z
      refine ⟨v, e2, a, dx, fs, ea, ha, l, hr Mx σ δ H E _ _ rp xl ht'.2.2 fun vs as δ2 H2 r2 t2 a2 q2 => ?_⟩
      exact hk (v :: vs) (.s i :: as) δ2 H2 r2 t2 ⟨v, vs, rfl, e2, a2⟩ q2
/-- self.m(..) -/
theorem se_meth {i : Nat} {ta : TA} {da : DA} {sp : DSp} (h : SA K xw ta da) : SE K xw (tMeth C m (liftSp K sp) [] xw (tVar i) ta) (dCall sp (dSelf C m i da)) :=
  se_call (sa_self (C := C) (m := m) h)
def dChk (C : Addr) (m : Str) (t : DF) : DF := fun E δ Q => t E δ fun s δ1 => okM C m s ∧ Q s δ1
theorem sf_chk {te : TE} {df : DF} (h : SF K xw te df) : SF K xw (tChk C m te) (dChk C m df) := by
  intro Mx σ δ H E Q k rp xl ht hk
  refine h Mx σ δ H E _ _ rp xl ht fun p s0 δ1 H1 r1 t1 hp hm hs q1 => ?_
  obtain ⟨a, dx, fs, ea, ha, l⟩ := okM_at q1.1 hs
  exact ⟨a, dx, fs, ea, ha, l, hk p s0 δ1 H1 r1 t1 hp hm hs q1.2⟩
def dMethO (C : Addr) (m : Str) (sp : DSp) (df : DF) (t : DO2) : DE := fun E δ Q => oNew (dChk C m df) t E δ fun ss δ1 => sp ss E fun d _ => Q d δ1
/-- C().m(..) -/
theorem se_methO {te : TE} {df : DF} {ta : TA} {t : DO2} {sp : DSp} (h : SF K xw te df) (h2 : SOa K xw ta t) : SE K xw (tMeth C m (liftSp K sp) [] xw te ta) (dMethO C m sp df t) :=
  se_callO (so_new (sf_chk (C := C) (m := m) h) h2)
def onObj (C : Addr) : List Sl → (Sl → Prop) → Prop
  | [.obj C2 fs], k => C2 = C ∧ k (.obj C2 fs)
  | _, _ => False
def dMake (C : Addr) (sp : DSp) : DF := fun E δ Q => sp [.obj C []] E fun d ss => d = .non ∧ onObj C ss fun s => Q s δ
/-- C() -/
theorem sf_make {sp : DSp} : SF K xw (tMake C (liftSp K sp) [] xw tNil) (dMake C sp) := by
  intro Mx σ δ H E Q k rp xl ht hk x dx hx hdx hne
  have keep : ∀ a o, H a = some o → (upd (upd H dx (.own x)) x (.ins C dx [])) a = some o := fun a o e => by
    rw [upd_ne (ne_of_none e hx), upd_ne (ne_of_none e hdx)]; exact e
  have hx1 : (upd (upd H dx (.own x)) x (.ins C dx [])) x = some (.ins C dx []) := upd_same
  have mx : ∀ a, Mu [some (V.ref x)] [some (Sl.obj C [])] a → a = x := fun a m => by
    obtain ⟨i, ⟨s, e, _⟩, q⟩ := m
    cases i with
    | zero => simp at q; exact q.symm
    | succ i => simp at e
  refine ⟨[.obj C []], E, fun a => Mm σ δ Mx a, _, ⟨fun i s e => ?_, fun i j a m1 m2 _ _ => ?_, fun a m => ?_, fun a m z => ?_, rfl⟩, fun c H2 hh he => xl c H2 (fun a o e n => hh a o (keep a o e) fun m => ?_) he, ht, fun d ss' v H2 qd rr tt aa => ?_⟩
  · cases i with
    | zero => simp at e; subst e; exact ⟨.ref x, by simp, x, dx, rfl, hx1⟩
    | succ i => simp at e
  · obtain ⟨_, e1, _⟩ := m1
    obtain ⟨_, e2, _⟩ := m2
    cases i with
    | succ i => simp at e1
    | zero =>
      cases j with
      | succ j => simp at e2
      | zero => rfl
  · obtain ⟨o, e⟩ := rp.mdom m
    exact ⟨o, keep a o e⟩
  · exact rp.fresh hx (mx a z ▸ m)
  · have := mx a m
    rw [this, hx] at e; cases e
  · obtain ⟨rfl, q⟩ := qd
    have : v = .non := by simpa only [At] using aa
    subst this
    refine ⟨rfl, ?_⟩
    match ss', q with
    | [.obj C2 fs], ⟨hC, q9⟩ =>
      subst hC
      obtain ⟨u, e2, z⟩ := rr.get 0 _ rfl
      simp at e2
      subst e2
      have keep2 : ∀ a o, H a = some o → H2 a = some o := fun a o e => tt.ext a o (keep a o e) fun m => by
        have := mx a m
        rw [this, hx] at e; cases e
      obtain ⟨a, dx2, ea, ha⟩ := z
      cases ea
      refine hk x (.obj C2 fs) δ H2 ⟨fun i s e => ?_, rp.sep, fun a m => ?_, fun a m => ?_, rp.len⟩ ⟨fun a o e _ => keep2 a o e, fun a o e => ⟨o, keep2 a o e⟩, fun a m => .inl m, fun _ _ _ m e => ⟨e, m⟩⟩ hx rfl ⟨x, dx2, rfl, ha⟩ q9
      · obtain ⟨u, e2, z⟩ := rp.get i s e
        refine ⟨u, e2, z.mono (fun a o e _ => keep2 a o e) (fun a o e m => ?_) fun _ a o _ e => keep2 a o e⟩
        rcases m with m | m | m
        · exact .inl m
        · exact .inr m
        · rw [m, hx] at e; cases e
      · rcases m with m | m
        · obtain ⟨o, e⟩ := rp.ex a m
          exact ⟨o, keep2 a o e⟩
        · rw [m]; exact ⟨_, ha⟩
      · rcases m with m | m
        · exact rp.dis a m
        · rw [m]; exact fun z => rp.fresh hx (.inl z)
def onFld (C : Addr) (f : Str) : Option (Option Sl) → (Int → Prop) → Prop
  | some (some (.obj C2 fs)), k => C2 = C ∧ onSome (fs.lookup f) k
  | _, _ => False
def dFld (C : Addr) (f : Str) (i : Nat) : DE := fun _ δ Q => onFld C f δ[i]? fun v => Q (.int v) δ
theorem obj_at {Mx : Addr → Prop} {σ : St} {δ : Dst} {H : Hp} {i : Nat} {C2 : Addr} {fs : List (Str × Int)} (rp : Rp K Mx σ δ H) (e : δ[i]? = some (some (.obj C2 fs))) : ∃ a dx, σ[i]? = some (some (.ref a)) ∧ H a = some (.ins C2 dx (fV fs)) := by
  obtain ⟨v, e2, a, dx, rfl, q⟩ := rp.get i _ e
  exact ⟨a, dx, e2, q⟩
/-- self.f -/
theorem se_fld {i : Nat} {f : Str} (c : Cls K C) (n : NoAttr K C f) : SE K xw (tFld K (tVar i) f) (dFld C f i) := by
  intro Mx σ δ H E Q k rp xl ht hk
  have ht' : onFld C f δ[i]? fun v => Q (.int v) δ := ht
  match e : δ[i]?, ht' with
  | some (some (.obj C2 fs)), ht' =>
    obtain ⟨rfl, q⟩ := ht'
    obtain ⟨a, dx, e2, ha⟩ := obj_at rp e
    cases l : fs.lookup f with
    | none => rw [l] at q; exact q.elim
    | some v =>
      rw [l] at q
      refine ⟨.ref a, e2, a, C2, dx, _, .int v, rfl, ha, c, n, by rw [fV_lookup, l]; rfl, hk (.int v) (.int v) δ H rp Tr.refl ?_ q⟩
      rw [At]
end
end Dq
namespace Dq
open PySem PySem.Spec PyProof.Rows L2
def putI (f : Str) (v : Int) : List (Str × Int) → List (Str × Int)
  | [] => [(f, v)]
  | (g, x) :: r => if g = f then (g, v) :: r else (g, x) :: putI f v r
theorem fV_put (f : Str) (v : Int) : ∀ fs : List (Str × Int), putF f (.int v) (fV fs) = fV (putI f v fs)
  | [] => rfl
  | (g, x) :: r => by
    have := fV_put f v r
    unfold fV at this ⊢
    rw [List.map_cons, putF, putI]
    split
    · rfl
    · rw [this]; rfl
def onObjS : Option (Option Sl) → (Addr → List (Str × Int) → Prop) → Prop
  | some (some (.obj C fs)), k => k C fs
  | _, _ => False
theorem onObjS_of {o : Option (Option Sl)} {k : Addr → List (Str × Int) → Prop} (h : onObjS o k) : ∃ C fs, o = some (some (.obj C fs)) ∧ k C fs := by
  match o, h with
  | some (some (.obj C fs)), h => exact ⟨C, fs, rfl, h⟩
def dPutFld (C : Addr) (f : Str) (i : Nat) (t : DE) : DS := fun E De δ => t E δ fun d δ1 => onInt d fun v => onObjS δ1[i]? fun C2 fs => C2 = C ∧ fs.length < 1000 ∧ De.nx (δ1.set i (some (.obj C (putI f v fs))))
section
variable {K : PySem.W.Frag} {xw : XK} {C : Addr} {np : Nat}
theorem ss_fld {i : Nat} {f : Str} {te : TE} {dt : DE} (c : Cls K C) (n : NoAttr K C f) (h : SE K xw te dt) : SS K xw np (sFld K (tVar i) te f) (dPutFld C f i dt) := by
  intro Mx σ δ H E De Dn P rp pm xl ht lk
  refine h Mx σ δ H E _ _ rp xl ht fun v d δ1 H1 r1 t1 a1 q1 => ?_
  match d, q1 with
  | .int z, q1 =>
    obtain ⟨C2, fs, e0, q⟩ := onObjS_of q1
    obtain ⟨rfl, hl, q⟩ := q
    have ev : v = .int z := by simpa only [At] using a1
    subst ev
    obtain ⟨a, dx, ea, ha⟩ := obj_at r1 e0
    refine ⟨.ref a, ea, a, C2, dx, _, rfl, ha, c, n, by unfold fV; rw [List.length_map]; exact hl, ?_⟩
    rw [fV_put]
    have sl : SlAt K (Mm σ δ1 Mx) (upd H1 a (.ins C2 dx (fV (putI f z fs)))) (.obj C2 (putI f z fs)) (.ref a) := ⟨a, dx, rfl, upd_same⟩
    obtain ⟨r3, t3⟩ := r1.chg e0 rfl rfl ea sl
    exact lk.nx _ _ _ r3 (t1.trans t3) q
  | .non, q1 => exact q1.elim
  | .bl _, q1 => exact q1.elim
  | .str _, q1 => exact q1.elim
  | .tup _, q1 => exact q1.elim
  | .lst _, q1 => exact q1.elim
  | .dct _ _, q1 => exact q1.elim
  | .scr _, q1 => exact q1.elim
end
end Dq
namespace Dq
open PySem PySem.Spec PyProof.Rows L2
structure Dm (K : PySem.W.Frag) (x qual : Str) (st : Stmt) (ps : List Str) (f : Addr) (fd : FuncData) : Prop where
  F : Fun K x qual st f fd
  b : Binds K fd ps []
abbrev sGiven : Str := Str.ofString "given"
theorem lk_given (k : Int) : [(sGiven, k)].lookup sGiven = some k := by rw [List.lookup_cons]; simp
theorem lk_ne {m : Str} (k : Int) (h : (m == sGiven) = false) : [(sGiven, k)].lookup m = none := by rw [List.lookup_cons, h]; rfl
theorem lk_value (k : Int) : [(sGiven, k)].lookup (Str.ofString "value") = none := lk_ne k (by decide +kernel)
theorem lk_piece (k : Int) : [(sGiven, k)].lookup (Str.ofString "piece") = none := lk_ne k (by decide +kernel)
theorem lk_staged (k : Int) : [(sGiven, k)].lookup (Str.ofString "staged") = none := lk_ne k (by decide +kernel)
theorem lk_fresh (k : Int) : [(sGiven, k)].lookup (Str.ofString "fresh") = none := lk_ne k (by decide +kernel)
theorem lk_with (k : Int) : [(sGiven, k)].lookup (Str.ofString "with_name") = none := lk_ne k (by decide +kernel)
theorem putI_nil (f : Str) (v : Int) : putI f v [] = [(f, v)] := rfl
theorem putI_given (k v : Int) : putI sGiven v [(sGiven, k)] = [(sGiven, v)] := by rw [putI, if_pos rfl]
end Dq

/- Part 23: cuts of tuples. -/
namespace Dq
open PySem PySem.Spec PyProof.Rows L2
theorem fSlLo (l : List D) (m : Nat) (h0 : 0 < m) (h : m ≤ l.length) (k : D → Prop) : fSl (.tup l) (some (m : Int)) none k = k (.tup (l.drop m)) := by
  show (¬ (HT.sIx l.length 0 (some (m : Int)) = 0 ∧ _) ∧ k (.tup (cutD l (some (m : Int)) none))) = _
  unfold cutD
  rw [sx l.length 0 m h, HT.sIx_none, List.take_of_length_le (by rw [List.length_drop]; omega)]
  have : ¬ m = 0 := by omega
  simp [this]
theorem fSlHi (l : List D) (m : Nat) (h : m < l.length) (k : D → Prop) : fSl (.tup l) none (some (m : Int)) k = k (.tup (l.take m)) := by
  show (¬ (HT.sIx l.length 0 none = 0 ∧ HT.sIx l.length l.length (some (m : Int)) = l.length) ∧ k (.tup (cutD l none (some (m : Int))))) = _
  unfold cutD
  rw [sx l.length l.length m (by omega), HT.sIx_none]
  have : ¬ m = l.length := by omega
  simp [this]
theorem fSl_lo2 (a b : D) (r : List D) (k : D → Prop) : fSl (.tup (a :: b :: r)) (some 2) none k = k (.tup r) := fSlLo _ 2 (by decide) (by simp) k
theorem fSl_lo3 (a b c : D) (r : List D) (k : D → Prop) : fSl (.tup (a :: b :: c :: r)) (some 3) none k = k (.tup r) := fSlLo _ 3 (by decide) (by simp) k
theorem fSl_lo4 (a b c d : D) (r : List D) (k : D → Prop) : fSl (.tup (a :: b :: c :: d :: r)) (some 4) none k = k (.tup r) := fSlLo _ 4 (by decide) (by simp) k
theorem fSl_hi2 (a b c : D) (r : List D) (k : D → Prop) : fSl (.tup (a :: b :: c :: r)) none (some 2) k = k (.tup [a, b]) := fSlHi _ 2 (by simp) k
theorem fSl_hi3 (a b c d : D) (r : List D) (k : D → Prop) : fSl (.tup (a :: b :: c :: d :: r)) none (some 3) k = k (.tup [a, b, c]) := fSlHi _ 3 (by simp) k
theorem fSl_hi1 (a b : D) (r : List D) (k : D → Prop) : fSl (.tup (a :: b :: r)) none (some 1) k = k (.tup [a]) := fSlHi _ 1 (by simp) k
end Dq

/- Part 24: own exceptions: raised, caught, asked for their class. -/
namespace Dq
open PySem PySem.Spec PyProof.Rows L2
/-! ### a call whose exceptions are caught in the def -/
section
variable {X : Cx} {n : Nat} {f : Addr} {fd : FuncData} {ps : List Str} {sp : Sp} {E : St → XK} {x : Str} {p pos : Pos} {e : Expr} {es : List Expr} {t : TA}
theorem run_fnRS {pins : List (Addr × Obj)} {σ : L2.St} {H : Hp} {s : Shared} {Q : VK} {us : List Value} {vs : List V} (F : FnR X.prog X.w X.K X.mg X.base n f fd ps sp) (hr : Rm n X.A) (hb : Binds X.K fd ps []) (hx : PassesAt (L2.CX X.prog X.w) X σ (E σ))
    (I : Inv X pins σ H s) (r : Vals vs us) (h : sp vs H Q (E σ)) : wpAny (model X.prog X.w) X.A (call (.ref f) us) (EP X pins σ Q) X.xe s := by
  have hl : (us ++ []).length = ps.length := by rw [List.append_nil, ← r.length]; exact F.len _ _ _ _ h
  have b := hb s us I.kIn hl
  rw [List.append_nil] at b
  refine wpAny_call (codeAny_mono (F.run X.A X.stack s H ⟨us, []⟩ us vs Q (E σ) hr I.env0 b r h) fun res s2 q2 => ?_)
  match res, q2 with
  | .error e, q2 => exact hx pins H s e s2 I q2
  | .ok (.ret u), q2 => exact I.after q2
def tCallW (sp : Sp) (E : St → XK) (t : TA) : TE := fun σ H Q => t σ H fun vs H1 => sp (vs ++ []) H1 Q (E σ)
theorem pe_callRS (F : FnR X.prog X.w X.K X.mg X.base n f fd ps sp) (hr : Rm n X.A) (hg : Gl X x) (hm : X.mg x = some (.ref f)) (hk : PySem.W.keepIn X.K (.ref f) = true) (hb : Binds X.K fd ps []) (hx : ∀ σ, PassesAt (L2.CX X.prog X.w) X σ (E σ))
    (ha : PA X (e :: es) t) (hdb : (x == ("__debug__" : Str)) = false := by decide) (he : starEach (e :: es) X.env = (false, eval e X.env) :: starEach es X.env := by rfl) (hpl : (backTo pos (starEach es X.env)).any (·.1) = false := by rfl) :
    PE X (.Call (.Name x p) (e :: es) [] pos) (tCallW sp E t) := by
  constructor
  intro pins s σ H Q I h
  apply wpAny_Call_Name_kw
  apply ld_glob I hg hm _ hdb
  refine PySem.W.callWith_K (h₀ := X.base) I.ok.mod.kin hk (thn (ha.run pos pins s σ H _ I h) fun us s1 ⟨vs, H1, I1, r, q⟩ => ⟨I1.kIn, ?_⟩) he hpl
  simp only [List.append_nil] at q
  exact run_fnRS F hr hb (hx σ) I1 r q
/-- isinstance(e, C), e the exception that is held -/
def tIsE (K : PySem.W.Frag) (cls : Value) (d : Option Addr) (a : Addr) (ta : TA) : TE := fun σ H Q => ∃ D, cls = .ref D ∧ d = none ∧ ExcC K D ∧ tCB (rIsE K D a) ta σ H Q
theorem pe_isE {a : Addr} {oe : Obj} {cls : Value} {d : Option Addr} {pn : List (Addr × Obj)} {ip : Pos} (hz : Zc cls d oe) (hf : ∃ vs, oe.data = .fields vs) (hg : Gl (X.suite a ((a, oe) :: pn)) "isinstance") (hm : X.mg "isinstance" = none)
    (ha : PA (X.suite a ((a, oe) :: pn)) (e :: es) t)
    (he : starEach (e :: es) X.env = (false, eval e X.env) :: starEach es X.env := by rfl) (hpl : (backTo pos (starEach es X.env)).any (·.1) = false := by rfl) :
    PE (X.suite a ((a, oe) :: pn)) (.Call (.Name "isinstance" ip) (e :: es) [] pos) (tIsE X.K cls d a t) := by
  constructor
  intro pins s σ H Q I h
  obtain ⟨D, rfl, rfl, hE, q⟩ := h
  exact (pe_callB (call_isE (X := X) hE hz hf) hg hm (by decide +kernel) ha (he := he) (hpl := hpl)).run pins s σ H Q I q
end
/-! ### try, its reading kept apart -/
def tTryAs (K : PySem.W.Frag) (c : Value) (i : Nat) (tb : WX → TS) (ts : Addr → Value → Option Addr → TS) (Wout : WX) : TS := fun D σ H => tb (wAs K c i ts Wout D) D σ H
def tTryO (K : PySem.W.Frag) (c : Value) (tb : WX → TS) (ts : Addr → Value → Option Addr → TS) (Wout : WX) : TS := fun D σ H => tb (wOnly K c ts Wout D) D σ H
section
variable {X : Cx} {x n : Str} {c : Value} {i : Nat} {body suite : List Stmt} {b₀ : Stmt} {np pos pos' : Pos} {tb : WX → TS} {ts : Addr → Value → Option Addr → TS} {Wout : WX}
theorem ps_tryAs (hs : X.stack = X.env :: X.outer) (hf : X.env.frame = some X.env.locals) (hN : X.N.Nodup) (hi : X.N[i]? = some n) (hln : X.env.kindOf n = some .local) (hc : Names X x c) (tk : Takes X Wout)
    (hb : ∀ (W : WX) (pn : List (Addr × Obj)) (xe : Value → Shared → Prop), Takes (X.tr pn xe) W → PassesOwn (model X.prog X.w) X.A X.env xe → PSs (X.tr pn xe) body (tb W))
    (hsu : ∀ (a : Addr) (oe : Obj) (cls : Value) (d : Option Addr) (pn : List (Addr × Obj)), Zc cls d oe → (∃ vs, oe.data = .fields vs) → PSs (X.suite a ((a, oe) :: pn)) (b₀ :: suite) (ts a cls d)) :
    PS X (.Try body [.ExceptHandler (some (.Name x np)) (some n) (b₀ :: suite) pos'] [] [] pos) (tTryAs X.K c i tb ts Wout) := ps_try_as hs hf hN hi hln hc tk hb hsu
theorem ps_tryO (hs : X.stack = X.env :: X.outer) (hf : X.env.frame = some X.env.locals) (hc : Names X x c) (tk : Takes X Wout)
    (hb : ∀ (W : WX) (pn : List (Addr × Obj)) (xe : Value → Shared → Prop), Takes (X.tr pn xe) W → PassesOwn (model X.prog X.w) X.A X.env xe → PSs (X.tr pn xe) body (tb W))
    (hsu : ∀ (a : Addr) (oe : Obj) (cls : Value) (d : Option Addr) (pn : List (Addr × Obj)), Zc cls d oe → (∃ vs, oe.data = .fields vs) → PSs (X.suite a ((a, oe) :: pn)) (b₀ :: suite) (ts a cls d)) :
    PS X (.Try body [.ExceptHandler (some (.Name x np)) none (b₀ :: suite) pos'] [] [] pos) (tTryO X.K c tb ts Wout) := ps_try_only hs hf hc tk hb hsu
end
section
variable {K : PySem.W.Frag} {xw : XK} {np : Nat}
/-! ### raise -/
def tRaise (E : XK) (C : Addr) : TS := fun _ _ H => E (.ref C) none H
def dRaise (C : Addr) : DS := fun E _ _ => E C
theorem ss_raise {C : Addr} : SS K xw np (tRaise xw C) (dRaise C) := by
  intro Mx σ δ H E De Dn P rp pm xl ht lk
  exact xl C H (fun _ _ e _ => e) ht
/-! ### what an except clause finds -/
theorem Rp.exc {Mx : Addr → Prop} {σ : St} {δ : Dst} {H : Hp} {i : Nat} {a : Addr} (r : Rp K Mx σ δ H) (nm : ∀ j, ¬ IsMut δ j) (hi : i < δ.length) : Rp K Mx (σ.set i (some (.ref a))) (δ.set i (some (.exc a))) H ∧ ∀ j, ¬ IsMut (δ.set i (some (.exc a))) j := by
  have hl : i < σ.length := by rw [← r.len]; exact hi
  have nm' : ∀ j, ¬ IsMut (δ.set i (some (.exc a))) j := fun j ⟨s, e, m⟩ => by
    by_cases h : i = j
    · subst h
      rw [List.getElem?_set_self hi] at e
      cases e; cases m
    · rw [List.getElem?_set_ne h] at e
      exact nm j ⟨s, e, m⟩
  refine ⟨⟨fun j s e => ?_, fun j k b m1 _ _ _ => (nm' j m1).elim, r.ex, fun b _ m => ?_, by simp [r.len]⟩, nm'⟩
  · by_cases h : i = j
    · subst h
      rw [List.getElem?_set_self hi] at e
      cases e
      exact ⟨.ref a, List.getElem?_set_self hl, rfl⟩
    · rw [List.getElem?_set_ne h] at e
      obtain ⟨v, e2, z⟩ := r.get j s e
      refine ⟨v, by rw [List.getElem?_set_ne h]; exact e2, z.mono (fun _ _ q _ => q) (fun b o _ m => ?_) fun _ _ _ _ q => q⟩
      rcases m with ⟨j2, m2, _⟩ | m
      · exact (nm' j2 m2).elim
      · exact .inr m
  · obtain ⟨j, m, _⟩ := m
    exact nm' j m
theorem no_mu {σ : St} {δ : Dst} (nm : ∀ j, ¬ IsMut δ j) (a : Addr) : ¬ Mu σ δ a := fun ⟨j, m, _⟩ => nm j m
/-- from a state where nothing may be changed, over a heap that only grows -/
theorem Tr.grow {σ σ' : St} {δ δ' : Dst} {H H' : Hp} (nm : ∀ j, ¬ IsMut δ j) (nm' : ∀ j, ¬ IsMut δ' j) (k : ∀ a o, H a = some o → H' a = some o) : Tr σ δ H σ' δ' H' :=
  ⟨fun a o e _ => k a o e, fun a o e => ⟨o, k a o e⟩, fun a m => (no_mu nm' a m).elim, fun i v _ m _ => (nm i m).elim⟩
theorem Tr.after {σ σ1 σ2 : St} {δ δ1 δ2 : Dst} {H H1 H2 : Hp} (nm : ∀ j, ¬ IsMut δ j) (nm1 : ∀ j, ¬ IsMut δ1 j) (k : ∀ a o, H a = some o → H1 a = some o) (t : Tr σ1 δ1 H1 σ2 δ2 H2) : Tr σ δ H σ2 δ2 H2 :=
  ⟨fun a o e _ => t.ext a o (k a o e) (no_mu nm1 a), fun a o e => t.dom a o (k a o e), fun a m => (t.fr a m).elim (fun z => (no_mu nm1 a z).elim) fun z => .inr (by
    cases e : H a with
    | none => rfl
    | some o => rw [k a o e] at z; cases z), fun i v _ m _ => (nm i m).elim⟩
def dTryAs (K : PySem.W.Frag) (Ch : Addr) (i : Nat) (body : DS) (suite : Addr → Addr → DS) : DS := fun E De δ => (∀ j, ¬ IsMut δ j) ∧ δ[i]? = some none ∧ ∃ Eb : Addr → Prop, body Eb De δ ∧ ∀ c, Eb c → ∃ b, PySem.W.exmOne K (.ref c) (.ref Ch) = some b ∧
  (b = true → ∀ a, suite a c E { nx := fun δ' => okSet δ' i ∧ De.nx (δ'.set i none), rt := De.rt, bk := fun δ' => okSet δ' i ∧ De.bk (δ'.set i none), ct := fun δ' => okSet δ' i ∧ De.ct (δ'.set i none) } (δ.set i (some (.exc a)))) ∧ (b = false → E c)
def dTryO (K : PySem.W.Frag) (Ch : Addr) (body : DS) (suite : Addr → DS) : DS := fun E De δ => (∀ j, ¬ IsMut δ j) ∧ ∃ Eb : Addr → Prop, body Eb De δ ∧ ∀ c, Eb c → ∃ b, PySem.W.exmOne K (.ref c) (.ref Ch) = some b ∧ (b = true → suite c E De δ) ∧ (b = false → E c)
theorem ss_tryAs {Ch : Addr} {i : Nat} {tb : WX → TS} {db : DS} {ts : Addr → Value → Option Addr → TS} {ds : Addr → Addr → DS} (heq : ∀ (W : WX) D σ H, tb W D σ H = tb (fun cls d _ H => W cls d σ H) D σ H) (hb : ∀ xw : XK, SS K xw np (tb fun cls d _ H => xw cls d H) db)
    (hs : ∀ a c, SS K xw np (ts a (.ref c) none) (ds a c)) : SS K xw np (tTryAs K (.ref Ch) i tb ts (fun cls d _ H => xw cls d H)) (dTryAs K Ch i db ds) := by
  intro Mx σ δ H E De Dn P rp pm xl ht lk
  obtain ⟨nm, hi, Eb, hq, hc⟩ := ht
  show tb _ Dn σ H
  rw [heq]
  refine hb (WE _ σ) Mx σ δ H Eb De Dn P rp pm (fun c H1 ext he => ?_) hq lk
  obtain ⟨b, eb, yes, no⟩ := hc c he
  have il : i < δ.length := (List.getElem?_eq_some_iff.mp hi).1
  have k1 : ∀ a o, H a = some o → H1 a = some o := fun a o e => ext a o e (no_mu nm a)
  refine ⟨b, eb, fun hb a ha => ?_, fun hb => xl c H1 ext (no hb)⟩
  obtain ⟨r1, nm1⟩ := (rp.heap k1).exc (a := a) nm il
  have back : ∀ (σ2 : St) (δ2 : Dst) (H2 : Hp), Rp K Mx σ2 δ2 H2 → Tr (σ.set i (some (.ref a))) (δ.set i (some (.exc a))) H1 σ2 δ2 H2 → okSet δ2 i → Rp K Mx (σ2.set i none) (δ2.set i none) H2 ∧ Tr σ δ H (σ2.set i none) (δ2.set i none) H2 := fun σ2 δ2 H2 r2 t2 ok => by
    have n2 := not_mut ok
    obtain ⟨r3, t3⟩ := r2.drop n2
    have l2 : i < δ2.length := by
      unfold okSet at ok
      cases e : δ2[i]? with
      | none => rw [e] at ok; exact ok.elim
      | some o => exact (List.getElem?_eq_some_iff.mp e).1
    have h0 : (δ2.set i none)[i]? = some none := List.getElem?_set_self l2
    refine ⟨(Rp.wipe h0).mpr r3, ?_⟩
    have t4 := Tr.after (σ := σ) nm nm1 k1 (t2.trans t3)
    refine ⟨t4.ext, t4.dom, fun a m => t4.fr a ?_, fun j v _ m _ => (nm j m).elim⟩
    obtain ⟨j, m, q⟩ := m
    refine ⟨j, m, ?_⟩
    by_cases h : i = j
    · subst h
      obtain ⟨s, e, _⟩ := m
      rw [h0] at e; cases e
    · rw [List.getElem?_set_ne h] at q; exact q
  refine hs a c Mx _ _ H1 E _ _ P r1 ⟨pm.1, fun b hb => ?_⟩ (fun c2 H2 ext2 e2 => ?_) (yes hb a) ⟨fun σ2 δ2 H2 r2 t2 q => ?_, fun σ2 δ2 H2 r2 t2 q => ?_, fun σ2 δ2 H2 r2 t2 q => ?_, fun v d σ2 δ2 H2 r2 t2 av q => ?_⟩
  · obtain ⟨j, _, m, _⟩ := pm.2 b hb
    exact (nm j m).elim
  · exact xl c2 H2 (fun a o e _ => ext2 a o (k1 a o e) (no_mu nm1 a)) e2
  · obtain ⟨r3, t3⟩ := back σ2 δ2 H2 r2 t2 q.1
    exact lk.nx _ _ _ r3 t3 q.2
  · obtain ⟨r3, t3⟩ := back σ2 δ2 H2 r2 t2 q.1
    exact lk.bk _ _ _ r3 t3 q.2
  · obtain ⟨r3, t3⟩ := back σ2 δ2 H2 r2 t2 q.1
    exact lk.ct _ _ _ r3 t3 q.2
  · exact lk.rt v d σ2 δ2 H2 r2 (Tr.after nm nm1 k1 t2) av q
theorem ss_tryO {Ch : Addr} {tb : WX → TS} {db : DS} {ts : Addr → Value → Option Addr → TS} {ds : Addr → DS} (heq : ∀ (W : WX) D σ H, tb W D σ H = tb (fun cls d _ H => W cls d σ H) D σ H) (hb : ∀ xw : XK, SS K xw np (tb fun cls d _ H => xw cls d H) db)
    (hs : ∀ a c, SS K xw np (ts a (.ref c) none) (ds c)) : SS K xw np (tTryO K (.ref Ch) tb ts (fun cls d _ H => xw cls d H)) (dTryO K Ch db ds) := by
  intro Mx σ δ H E De Dn P rp pm xl ht lk
  obtain ⟨nm, Eb, hq, hc⟩ := ht
  show tb _ Dn σ H
  rw [heq]
  refine hb (WE _ σ) Mx σ δ H Eb De Dn P rp pm (fun c H1 ext he => ?_) hq lk
  obtain ⟨b, eb, yes, no⟩ := hc c he
  have k1 : ∀ a o, H a = some o → H1 a = some o := fun a o e => ext a o e (no_mu nm a)
  refine ⟨b, eb, fun hb a ha => ?_, fun hb => xl c H1 ext (no hb)⟩
  have t1 : Tr σ δ H σ δ H1 := Tr.grow nm nm k1
  exact hs a c Mx _ _ H1 E _ _ P (rp.heap k1) (pm.tr t1) (xl.tr t1) (yes hb) (lk.tr t1)
/-! ### isinstance of it -/
def dIsE (K : PySem.W.Frag) (a c : Addr) (cV : Value) (i : Nat) : DE := fun _ δ Q => δ[i]? = some (some (.exc a)) ∧ ExcC K c ∧ ∃ b, PySem.W.kitOne K (.ref c) cV = some b ∧ Q (.bl b) δ
theorem se_isE {a c : Addr} {cv : V} {cV : Value} {i : Nat} (hcv : ∀ u, RelV cv u → u = cV) : SE K xw (tIsE K (.ref c) none a (tCons (tVar i) (tCons (tC cv) tNil))) (dIsE K a c cV i) := by
  intro Mx σ δ H E Q k rp xl ht hk
  obtain ⟨ei, hE, b, eb, q⟩ := ht
  obtain ⟨v, e2, z⟩ := rp.get i _ ei
  have z : v = .ref a := z
  subst z
  exact ⟨c, rfl, rfl, hE, .ref a, e2, cv, cV, b, rfl, hcv, eb, hk _ (.bl b) δ H rp Tr.refl (at_bl' _) q⟩
theorem se_callW {ta : TA} {da : DA} {sp : DSp} (h : SA K xw ta da) : SE K xw (tCallW (liftSp K sp) (WE fun cls d _ H => xw cls d H) ta) (dCall sp da) := se_call h
theorem rel_ref {a : Addr} : ∀ u, RelV (.ref a) u → u = .ref a := fun u h => h
theorem rel_ty {n : String} : ∀ u, RelV (.ty n) u → u = .type n := fun u h => h
end
end Dq

/- Part 25: what an own class says of another. -/
namespace Dq
open PySem PySem.Spec PyProof.Rows L2
section
variable {K : PySem.W.Frag} {t : Value} {C : Addr} {b : Bool}
theorem kit_ref (hs : PySem.W.subIn K t t = some true) (hd : PySem.W.hasDictIn K C = true) (ht : PySem.W.typeIn K (.ref C) = some (.type "type")) (h : PySem.W.subIn K t (.ref C) = some b) : PySem.W.kitOne K t (.ref C) = some b := by
  obtain ⟨cd, hc, _⟩ := PySem.W.any_some hd
  unfold PySem.W.kitOne
  split
  · rename_i e
    have e := beq_iff_eq.mp e
    rw [← e, hs] at h
    exact h
  · show (if ((PySem.W.clsIn K C).isSome && PySem.W.typeIn K (.ref C) == some (.type "type")) = true then PySem.W.subIn K t (.ref C) else none) = some b
    have : ((PySem.W.clsIn K C).isSome && PySem.W.typeIn K (.ref C) == some (.type "type")) = true := by rw [hc, ht] <;> rfl
    rw [if_pos this]
    exact h
theorem kit_ty {a : Addr} {T : String} (hm : PySem.W.kitMeta T = true) (h : PySem.W.subIn K (.ref a) (.type T) = some b) : PySem.W.kitOne K (.ref a) (.type T) = some b := by
  unfold PySem.W.kitOne
  rw [if_neg (by simp)]
  show (if PySem.W.kitMeta T = true then PySem.W.subIn K (.ref a) (.type T) else none) = some b
  rw [if_pos hm]
  exact h
end
end Dq

/- The terms. -/
namespace Qh
open PySem PySem.Spec PyProof.Rows L2 Dq

inductive Tm where
  | num (n : Int) | name (x : Str)
  | sum (a b : Tm) | product (a b : Tm) | less (a b : Tm) | when (c a b : Tm)
  | lett (x : Str) (a b : Tm) | turns (n : Int) (x : Str) (a b : Tm)
  | defn (f x kind : Str) (a b : Tm) | use (f : Str) (a : Tm)
  | quote (a : Tm) | hole (a : Tm) | lift (a : Tm) | run (a : Tm)
  deriving DecidableEq, Inhabited
abbrev S (s : String) : D := .str (Str.ofString s)
def Tm.toD : Tm → D
  | .num n => .tup [S "num", .int n]
  | .name x => .tup [S "name", .str x]
  | .sum a b => .tup [S "sum", a.toD, b.toD]
  | .product a b => .tup [S "product", a.toD, b.toD]
  | .less a b => .tup [S "less", a.toD, b.toD]
  | .when c a b => .tup [S "when", c.toD, a.toD, b.toD]
  | .lett x a b => .tup [S "let", .str x, a.toD, b.toD]
  | .turns n x a b => .tup [S "turns", .int n, .str x, a.toD, b.toD]
  | .defn f x k a b => .tup [S "def", .str f, .str x, .str k, a.toD, b.toD]
  | .use f a => .tup [S "use", .str f, a.toD]
  | .quote a => .tup [S "quote", a.toD]
  | .hole a => .tup [S "hole", a.toD]
  | .lift a => .tup [S "lift", a.toD]
  | .run a => .tup [S "run", a.toD]
def Tm.parts : Tm → List Tm
  | .num _ => [] | .name _ => []
  | .sum a b => [a, b] | .product a b => [a, b] | .less a b => [a, b] | .when c a b => [c, a, b]
  | .lett _ a b => [a, b] | .turns _ _ a b => [a, b] | .defn _ _ _ a b => [a, b] | .use _ a => [a]
  | .quote a => [a] | .hole a => [a] | .lift a => [a] | .run a => [a]
def Tm.size : Tm → Nat
  | .num _ => 1 | .name _ => 1
  | .sum a b => 1 + (a.size + b.size) | .product a b => 1 + (a.size + b.size) | .less a b => 1 + (a.size + b.size) | .when c a b => 1 + (c.size + (a.size + b.size))
  | .lett _ a b => 1 + (a.size + b.size) | .turns _ _ a b => 1 + (a.size + b.size) | .defn _ _ _ a b => 1 + (a.size + b.size) | .use _ a => 1 + a.size
  | .quote a => 1 + a.size | .hole a => 1 + a.size | .lift a => 1 + a.size | .run a => 1 + a.size
def Tm.depth : Tm → Nat
  | .num _ => 1 | .name _ => 1
  | .sum a b => 1 + max a.depth b.depth | .product a b => 1 + max a.depth b.depth | .less a b => 1 + max a.depth b.depth | .when c a b => 1 + max c.depth (max a.depth b.depth)
  | .lett _ a b => 1 + max a.depth b.depth | .turns _ _ a b => 1 + max a.depth b.depth | .defn _ _ _ a b => 1 + max a.depth b.depth | .use _ a => 1 + a.depth
  | .quote a => 1 + a.depth | .hole a => 1 + a.depth | .lift a => 1 + a.depth | .run a => 1 + a.depth
theorem Tm.depth_pos (t : Tm) : 0 < t.depth := by cases t <;> simp [Tm.depth] <;> omega
theorem Tm.parts_depth {t p : Tm} (h : p ∈ t.parts) : p.depth < t.depth := by
  cases t <;> simp only [Tm.parts, List.mem_cons, List.not_mem_nil, or_false] at h <;> simp only [Tm.depth] <;> first
    | exact h.elim
    | (rcases h with rfl | rfl | rfl <;> omega)
    | (rcases h with rfl | rfl <;> omega)
    | (subst h; omega)
theorem Tm.size_parts (t : Tm) : (t.size : Int) = 1 + (t.parts.map fun p => (p.size : Int)).sum := by
  cases t <;> simp [Tm.size, Tm.parts] <;> omega
theorem Tm.depth_parts (t : Tm) : (t.depth : Int) = 1 + MaxD.mxD 0 (t.parts.map fun p => (p.depth : Int)) := by
  cases t <;> simp [Tm.depth, Tm.parts, MaxD.mxD] <;> omega
end Qh

/- What the law's helpers compute. -/
namespace Qh
open PySem PySem.Spec PyProof.Rows L2 Dq

def cellAt (s : List Int) (k : Nat) : Int := s[k]?.getD 0
def mix0 (s : List Int) (k : Nat) : Int := (cellAt s k + 7919 * (k : Int)) * 48271 % 2147483647
def mixed (s : List Int) (k : Nat) : Int := (mix0 s k * mix0 s k + 7 * mix0 s k + (k : Int)) % 2147483629
theorem mix0_lo (s : List Int) (k : Nat) : 0 ≤ mix0 s k := Int.emod_nonneg _ (by decide)
theorem mix0_hi (s : List Int) (k : Nat) : mix0 s k < 2147483647 := Int.emod_lt_of_pos _ (by decide)
theorem mixed_lo (s : List Int) (k : Nat) : 0 ≤ mixed s k := Int.emod_nonneg _ (by decide)
theorem mixed_hi (s : List Int) (k : Nat) : mixed s k < 2147483629 := Int.emod_lt_of_pos _ (by decide)
def drawn : Int → List Int → List Int
  | _, [] => []
  | n, z :: r => n % z :: drawn (n / z) r
theorem drawn_len : ∀ (n : Int) (l : List Int), (drawn n l).length = l.length
  | _, [] => rfl
  | n, z :: r => by rw [drawn, List.length_cons, List.length_cons, drawn_len]
def wordsL : List Str := [Str.ofString "num", Str.ofString "name", Str.ofString "let", Str.ofString "quote", Str.ofString "hole", Str.ofString "run", Str.ofString "use", Str.ofString "lift"]
def letterAt (i : Int) : Str := ⟨#[97 + i.toNat]⟩
def nameLen (s : List Int) : Nat := 1 + (mixed s 0 % 8).toNat
def nameSigns (s : List Int) (w : Int) : List Str :=
  ((List.range (nameLen s)).map fun k : Nat => letterAt ((mixed s 0 / 64 + 5 * (k : Int)) % 26)).set (mixed s 0 / 8 % (nameLen s : Int)).toNat (letterAt ((mixed s 0 / 64 + 5 * (mixed s 0 / 8 % (nameLen s : Int)) + w) % 26))
def nameOf (s : List Int) (w : Int) : Str :=
  if mixed s 0 % 8 = 7 ∧ mixed s 0 / 8 % 2 = 0 then wordsL.getD ((mixed s 0 / 16 + w) % 8).toNat (Str.ofString "") else Txt.join (Str.ofString "") (nameSigns s w)
def numsL (n : Int) : List Int := [n % 3, n % 1000, -1 - n % 9, 1000003 * (n % 2) + n % 5, 10 ^ 20, -n]
def numberOf (n : Int) : Int := (numsL n).getD (n / 1000 % 6).toNat 0
def abc : Str := Str.ofString "abcdefghijklmnopqrstuvwxyz"
theorem abc_list : abc.cps.toList = (List.range 26).map fun i => 97 + i := by decide +kernel
theorem abc_at {i : Int} (h0 : 0 ≤ i) (h1 : i < 26) : atI abc.cps.toList i = some (97 + i.toNat) := by
  rw [atI_i h0, abc_list, List.getElem?_map, List.getElem?_range (by omega)] <;> rfl
theorem abc_len : abc.length ≤ sizeLine := by
  have : abc.length = 26 := by decide +kernel
  rw [this]; decide
theorem letter_len (i : Int) : (letterAt i).length = 1 := rfl
theorem nameLen_le (s : List Int) : nameLen s ≤ 8 := by
  have := Int.emod_lt_of_pos (mixed s 0) (show (0 : Int) < 8 by decide)
  have := Int.emod_nonneg (mixed s 0) (show (8 : Int) ≠ 0 by decide)
  unfold nameLen; omega
theorem nameLen_int (s : List Int) : (nameLen s : Int) = 1 + mixed s 0 % 8 := by
  have := Int.emod_nonneg (mixed s 0) (show (8 : Int) ≠ 0 by decide)
  unfold nameLen; omega
theorem nameSigns_len (s : List Int) (w : Int) : (nameSigns s w).length = nameLen s := by simp [nameSigns]
theorem nameSigns_one (s : List Int) (w : Int) : ∀ x ∈ nameSigns s w, x.length = 1 := by
  intro x hx
  unfold nameSigns at hx
  rcases List.mem_or_eq_of_mem_set hx with h | h
  · obtain ⟨k, _, rfl⟩ := List.mem_map.mp h
    rfl
  · rw [h]; rfl
theorem sum_ones : ∀ {l : List Str}, (∀ x ∈ l, x.length = 1) → (l.map (·.length)).sum = l.length
  | [], _ => rfl
  | x :: r, h => by
    rw [List.map_cons, List.sum_cons, sum_ones (fun y hy => h y (List.mem_cons_of_mem _ hy)), h x List.mem_cons_self, List.length_cons]
    omega
end Qh

namespace Qh
open PySem PySem.Spec PyProof.Rows L2 Dq
/-- the terms that the script draws -/
def pick (l : List Tm) (i : Int) : Tm := l.getD i.toNat (.num 0)
theorem atI_pick {l : List Tm} {i : Int} (h0 : 0 ≤ i) (h1 : i < l.length) : atI (l.map Tm.toD) i = some (pick l i).toD := by
  rw [atI_i h0, List.getElem?_map, pick, List.getD_eq_getElem?_getD, List.getElem?_eq_getElem (by omega)]
  rfl
theorem pick_mem {l : List Tm} {i : Int} (h0 : 0 ≤ i) (h1 : i < l.length) : pick l i ∈ l := by
  rw [pick, List.getD_eq_getElem?_getD, List.getElem?_eq_getElem (by omega)]
  exact List.getElem_mem _
def kindsL : List Str := [Str.ofString "number", Str.ofString "piece"]
def leafT (n : Int) (x : Str) : Tm := pick [.num (numberOf (n / 2880)), .name x] (n / 16 / 3 / 3 / 10 % 2)
def anyT (s : List Int) : Nat → Nat → Tm × Nat
  | 0, k => (leafT (mixed s (k + 1)) (nameOf s (mixed s (k + 1) / 16 % 3)), k + 1)
  | d + 1, k =>
    if mixed s (k + 1) % 16 = 0 then (leafT (mixed s (k + 1)) (nameOf s (mixed s (k + 1) / 16 % 3)), k + 1)
    else if mixed s (k + 1) % 16 = 1 then (.name (nameOf s (mixed s (k + 1) / 16 % 3)), k + 1)
    else if mixed s (k + 1) % 16 < 8 then
      (pick [.quote (anyT s d (k + 1)).1, .hole (anyT s d (k + 1)).1, .lift (anyT s d (k + 1)).1, .run (anyT s d (k + 1)).1, .use (nameOf s (mixed s (k + 1) / 16 / 3 % 3)) (anyT s d (k + 1)).1, .hole (anyT s d (k + 1)).1] (mixed s (k + 1) % 16 - 2), (anyT s d (k + 1)).2)
    else if mixed s (k + 1) % 16 < 12 then
      (pick [.sum (anyT s d (k + 1)).1 (anyT s d (anyT s d (k + 1)).2).1, .product (anyT s d (k + 1)).1 (anyT s d (anyT s d (k + 1)).2).1, .less (anyT s d (k + 1)).1 (anyT s d (anyT s d (k + 1)).2).1, .lett (nameOf s (mixed s (k + 1) / 16 % 3)) (anyT s d (k + 1)).1 (anyT s d (anyT s d (k + 1)).2).1] (mixed s (k + 1) % 16 - 8), (anyT s d (anyT s d (k + 1)).2).2)
    else if mixed s (k + 1) % 16 = 12 then (.turns (mixed s (k + 1) / 16 / 3 / 3 % 10) (nameOf s (mixed s (k + 1) / 16 % 3)) (anyT s d (k + 1)).1 (anyT s d (anyT s d (k + 1)).2).1, (anyT s d (anyT s d (k + 1)).2).2)
    else if mixed s (k + 1) % 16 < 15 then (.defn (nameOf s (mixed s (k + 1) / 16 / 3 % 3)) (nameOf s (mixed s (k + 1) / 16 % 3)) (kindsL.getD (mixed s (k + 1) / 16 / 3 / 3 / 10 % 2).toNat (Str.ofString "")) (anyT s d (k + 1)).1 (anyT s d (anyT s d (k + 1)).2).1, (anyT s d (anyT s d (k + 1)).2).2)
    else (.when (anyT s d (k + 1)).1 (anyT s d (anyT s d (k + 1)).2).1 (anyT s d (anyT s d (anyT s d (k + 1)).2).2).1, (anyT s d (anyT s d (anyT s d (k + 1)).2).2).2)
end Qh

namespace Qh
open PySem PySem.Spec PyProof.Rows L2 Dq
theorem in2 {z : Int} (h0 : 0 ≤ z) (h1 : z < 2) : z = 0 ∨ z = 1 := by omega
theorem okS_iff {x : Str} : okS x = true ↔ ∀ c ∈ x.cps.toList, c < 0x110000 := by
  unfold okS
  rw [Array.all_eq_true']
  simp
theorem okS_join {l : List Str} (h : ∀ x ∈ l, okS x = true) : okS (Txt.join (Str.ofString "") l) = true := by
  rw [okS_iff]
  intro c hc
  rw [show Txt.join (Str.ofString "") l = Str.join "" l from StrLaws.glued_eq_join _ _, mem_join] at hc
  rcases hc with ⟨t, ht, hc⟩ | ⟨_, hc⟩
  · exact okS_iff.mp (h t ht) c hc
  · rw [show (Str.ofString "").cps.toList = [] from rfl] at hc; cases hc
theorem okS_letter {i : Int} (h0 : 0 ≤ i) (h1 : i < 26) : okS (letterAt i) = true := by
  rw [okS_iff]
  intro c hc
  have : c = 97 + i.toNat := by simpa [letterAt] using hc
  omega
theorem okS_name (s : List Int) (w : Int) : okS (nameOf s w) = true := by
  unfold nameOf
  split
  · have hm : 0 ≤ (mixed s 0 / 16 + w) % 8 := Int.emod_nonneg _ (by decide)
    have hm2 : (mixed s 0 / 16 + w) % 8 < 8 := Int.emod_lt_of_pos _ (by decide)
    have hz : ((mixed s 0 / 16 + w) % 8).toNat < wordsL.length := by show _ < 8; omega
    rw [List.getD_eq_getElem?_getD, List.getElem?_eq_getElem hz]
    have all : ∀ x ∈ wordsL, okS x = true := by
      intro x hx
      simp only [wordsL, List.mem_cons, List.not_mem_nil, or_false] at hx
      rcases hx with rfl | rfl | rfl | rfl | rfl | rfl | rfl | rfl <;> decide +kernel
    exact all _ (List.getElem_mem hz)
  · refine okS_join fun x hx => ?_
    unfold nameSigns at hx
    rcases List.mem_or_eq_of_mem_set hx with h | h
    · obtain ⟨k, _, rfl⟩ := List.mem_map.mp h
      exact okS_letter (Int.emod_nonneg _ (by decide)) (Int.emod_lt_of_pos _ (by decide))
    · rw [h]
      exact okS_letter (Int.emod_nonneg _ (by decide)) (Int.emod_lt_of_pos _ (by decide))
def Tm.okN : Tm → Bool
  | .num _ => true | .name x => okS x
  | .sum a b => a.okN && b.okN | .product a b => a.okN && b.okN | .less a b => a.okN && b.okN | .when c a b => c.okN && (a.okN && b.okN)
  | .lett x a b => okS x && (a.okN && b.okN) | .turns _ x a b => okS x && (a.okN && b.okN) | .defn f x k a b => okS f && (okS x && (okS k && (a.okN && b.okN))) | .use f a => okS f && a.okN
  | .quote a => a.okN | .hole a => a.okN | .lift a => a.okN | .run a => a.okN
theorem okS_word {w : Str} (h : okS w = true) (n : Nat) : D.shp n (.str w) = true := by cases n <;> exact h
theorem shp_int (n : Nat) (z : Int) : D.shp n (.int z) = true := by cases n <;> rfl
theorem shp_toD : ∀ (t : Tm) (n : Nat), t.okN = true → t.depth ≤ n → D.shp n t.toD = true := by
  intro t
  induction t <;> intro n h hd <;> (cases n with
    | zero => simp [Tm.depth] at hd
    | succ n => ?_) <;> simp only [Tm.okN, Bool.and_eq_true] at h <;> simp only [Tm.depth] at hd <;> simp only [Tm.toD, S, D.shp, D.shps, Bool.and_eq_true, shp_int, and_true, true_and]
  all_goals
    first
      | exact okS_word (by decide +kernel) n
      | skip
  all_goals
    first
    | exact ⟨okS_word (by decide +kernel) n, okS_word h n⟩
    | (rename_i i1 i2; exact ⟨okS_word (by decide +kernel) n, i1 n h.1 (by omega), i2 n h.2 (by omega)⟩)
    | (rename_i i1 i2 i3; exact ⟨okS_word (by decide +kernel) n, i1 n h.1 (by omega), i2 n h.2.1 (by omega), i3 n h.2.2 (by omega)⟩)
    | (rename_i i1 i2; exact ⟨okS_word (by decide +kernel) n, okS_word h.1 n, i1 n h.2.1 (by omega), i2 n h.2.2 (by omega)⟩)
    | (rename_i i1 i2; exact ⟨okS_word (by decide +kernel) n, okS_word h.1 n, okS_word h.2.1 n, okS_word h.2.2.1 n, i1 n h.2.2.2.1 (by omega), i2 n h.2.2.2.2 (by omega)⟩)
    | (rename_i i1; exact ⟨okS_word (by decide +kernel) n, okS_word h.1 n, i1 n h.2 (by omega)⟩)
    | (rename_i i1; exact ⟨okS_word (by decide +kernel) n, i1 n h (by omega)⟩)
theorem shps_toD : ∀ (l : List Tm) (n : Nat), (∀ t ∈ l, t.okN = true ∧ t.depth ≤ n) → D.shps n (l.map Tm.toD) = true
  | [], n, _ => by cases n <;> rfl
  | t :: r, n, h => by
    rw [List.map_cons, D.shps, shp_toD t n (h t List.mem_cons_self).1 (h t List.mem_cons_self).2, shps_toD r n fun q hq => h q (List.mem_cons_of_mem _ hq)]
    rfl
theorem okN_parts {t p : Tm} (h : t.okN = true) (hp : p ∈ t.parts) : p.okN = true := by
  cases t <;> simp only [Tm.okN, Bool.and_eq_true] at h <;> simp only [Tm.parts, List.mem_cons, List.not_mem_nil, or_false] at hp <;> first
    | exact hp.elim
    | (rcases hp with rfl | rfl | rfl <;> first | exact h.1 | exact h.2.1 | exact h.2.2)
    | (rcases hp with rfl | rfl <;> first | exact h.1 | exact h.2 | exact h.2.1 | exact h.2.2 | exact h.2.2.2.1 | exact h.2.2.2.2)
    | (subst hp; first | exact h | exact h.2)
/-- what the drawn terms are bounded by -/
def Bnd (d : Nat) (t : Tm) : Prop := t.okN = true ∧ t.depth ≤ d + 1 ∧ t.size + 1 ≤ 2 * 3 ^ d
theorem bnd_leaf {d : Nat} (n : Int) {x : Str} (hx : okS x = true) : Bnd d (leafT n x) := by
  have p := Nat.one_le_pow d 3 (by decide)
  have m := pick_mem (l := [.num (numberOf (n / 2880)), .name x]) (i := n / 16 / 3 / 3 / 10 % 2) (Int.emod_nonneg _ (by decide)) (Int.emod_lt_of_pos _ (by decide))
  unfold leafT
  revert m
  generalize pick _ _ = t
  intro m
  simp only [List.mem_cons, List.not_mem_nil, or_false] at m
  rcases m with rfl | rfl
  · exact ⟨rfl, by simp [Tm.depth], by simp [Tm.size]; omega⟩
  · exact ⟨hx, by simp [Tm.depth], by simp [Tm.size]; omega⟩
theorem bnd_any (s : List Int) : ∀ (d k : Nat), Bnd d (anyT s d k).1
  | 0, k => bnd_leaf _ (okS_name _ _)
  | d + 1, k => by
    have p := Nat.one_le_pow d 3 (by decide)
    have p3 : 3 ^ (d + 1) = 3 * 3 ^ d := by rw [Nat.pow_succ]; omega
    have a0 : 0 ≤ mixed s (k + 1) % 16 := Int.emod_nonneg _ (by decide)
    have b1 := bnd_any s d (k + 1)
    have b2 := bnd_any s d (anyT s d (k + 1)).2
    have b3 := bnd_any s d (anyT s d (anyT s d (k + 1)).2).2
    have n1 := okS_name s (mixed s (k + 1) / 16 % 3)
    have n2 := okS_name s (mixed s (k + 1) / 16 / 3 % 3)
    rw [anyT]
    split
    · exact bnd_leaf _ n1
    · rename_i c0
      split
      · exact ⟨n1, by simp [Tm.depth], by simp [Tm.size]; omega⟩
      · rename_i c1
        obtain ⟨o1, d1, z1⟩ := b1
        obtain ⟨o2, d2, z2⟩ := b2
        obtain ⟨o3, d3, z3⟩ := b3
        revert o1 d1 z1 o2 d2 z2 o3 d3 z3 n1 n2
        generalize anyT s d (anyT s d (anyT s d (k + 1)).2).2 = r3
        generalize anyT s d (anyT s d (k + 1)).2 = r2
        generalize anyT s d (k + 1) = r1
        generalize nameOf s (mixed s (k + 1) / 16 % 3) = x1
        generalize nameOf s (mixed s (k + 1) / 16 / 3 % 3) = x2
        intro n1 n2 o1 d1 z1 o2 d2 z2 o3 d3 z3
        split
        · have m := pick_mem (l := [.quote r1.1, .hole r1.1, .lift r1.1, .run r1.1, .use x2 r1.1, .hole r1.1]) (i := mixed s (k + 1) % 16 - 2) (by omega) (by show _ < ((6 : Nat) : Int); omega)
          revert m
          generalize pick _ _ = t
          intro m
          simp only [List.mem_cons, List.not_mem_nil, or_false] at m
          rcases m with rfl | rfl | rfl | rfl | rfl | rfl <;> exact ⟨by simp [Tm.okN, o1, n2], by simp only [Tm.depth]; omega, by simp only [Tm.size]; omega⟩
        · split
          · have m := pick_mem (l := [.sum r1.1 r2.1, .product r1.1 r2.1, .less r1.1 r2.1, .lett x1 r1.1 r2.1]) (i := mixed s (k + 1) % 16 - 8) (by omega) (by show _ < ((4 : Nat) : Int); omega)
            revert m
            generalize pick _ _ = t
            intro m
            simp only [List.mem_cons, List.not_mem_nil, or_false] at m
            rcases m with rfl | rfl | rfl | rfl <;> exact ⟨by simp [Tm.okN, o1, o2, n1], by simp only [Tm.depth]; omega, by simp only [Tm.size]; omega⟩
          · split
            · exact ⟨by simp [Tm.okN, o1, o2, n1], by simp only [Tm.depth]; omega, by simp only [Tm.size]; omega⟩
            · split
              · have hk : ∀ i : Int, 0 ≤ i → i < 2 → okS (kindsL.getD i.toNat (Str.ofString "")) = true := by
                  intro i h0 h1
                  rcases in2 h0 h1 with rfl | rfl <;> decide +kernel
                have hk := hk (mixed s (k + 1) / 16 / 3 / 3 / 10 % 2) (Int.emod_nonneg _ (by decide)) (Int.emod_lt_of_pos _ (by decide))
                exact ⟨by simp only [Tm.okN, o1, o2, n1, n2, hk]; rfl, by simp only [Tm.depth]; omega, by simp only [Tm.size]; omega⟩
              · exact ⟨by simp [Tm.okN, o1, o2, o3], by simp only [Tm.depth]; omega, by simp only [Tm.size]; omega⟩
end Qh

namespace Qh
open PySem PySem.Spec PyProof.Rows L2 Dq
/-- a row of terms: signs, depth -/
def szs (l : List Tm) : Nat := (l.map Tm.size).sum
def dps : List Tm → Nat
  | [] => 0
  | t :: r => max t.depth (dps r)
def below (l : List Tm) : List Tm := l.flatMap Tm.parts
theorem szs_cons (t : Tm) (r : List Tm) : szs (t :: r) = t.size + szs r := by simp [szs]
theorem szs_app (a b : List Tm) : szs (a ++ b) = szs a + szs b := by simp [szs]
theorem dps_app : ∀ (a b : List Tm), dps (a ++ b) = max (dps a) (dps b)
  | [], b => by simp [dps]
  | t :: r, b => by rw [List.cons_append, dps, dps_app r b, dps]; omega
theorem size_parts' (t : Tm) : t.size = 1 + szs t.parts := by cases t <;> simp [Tm.size, Tm.parts, szs] <;> omega
theorem depth_parts' (t : Tm) : t.depth = 1 + dps t.parts := by cases t <;> simp [Tm.depth, Tm.parts, dps] <;> omega
theorem szs_below : ∀ l : List Tm, szs l = l.length + szs (below l)
  | [] => rfl
  | t :: r => by
    rw [szs_cons, size_parts', szs_below r, show below (t :: r) = t.parts ++ below r from rfl, szs_app, List.length_cons]; omega
theorem dps_below : ∀ l : List Tm, l ≠ [] → dps l = 1 + dps (below l)
  | [], h => (h rfl).elim
  | [t], _ => by rw [dps, dps, depth_parts', show below [t] = t.parts ++ [] from rfl, List.append_nil]; omega
  | t :: u :: r, _ => by
    rw [dps, dps_below (u :: r) (by simp), depth_parts', show below (t :: u :: r) = t.parts ++ below (u :: r) from rfl, dps_app]; omega
theorem dps_mem : ∀ {l : List Tm} {t : Tm}, t ∈ l → t.depth ≤ dps l
  | u :: r, t, h => by
    rw [dps]
    rcases List.mem_cons.mp h with rfl | h
    · omega
    · have := dps_mem h; omega
theorem len_szs : ∀ l : List Tm, l.length ≤ szs l := fun l => by rw [szs_below]; omega
theorem dps_nil {l : List Tm} (h : dps l = 0) : l = [] := by
  cases l with
  | nil => rfl
  | cons t r => rw [dps] at h; have := t.depth_pos; omega
theorem okN_below {l : List Tm} (h : ∀ t ∈ l, t.okN = true) : ∀ t ∈ below l, t.okN = true := by
  intro t ht
  obtain ⟨u, hu, hp⟩ := List.mem_flatMap.mp ht
  exact okN_parts (h u hu) hp
/-- the chain -/
def stepT (k : Nat) (t c : Tm) : Tm := pick [.hole c, .sum (.num k) c, .sum c t] ((if k % 7 = 3 then 1 else 0) + (if k % 20 = 3 then 1 else 0))
def chainT (t : Tm) : Nat → Tm
  | 0 => .num 5
  | k + 1 => stepT k t (chainT t k)
theorem step_at (k : Nat) : 0 ≤ ((if k % 7 = 3 then 1 else 0) + (if k % 20 = 3 then 1 else 0) : Int) ∧ ((if k % 7 = 3 then 1 else 0) + (if k % 20 = 3 then 1 else 0) : Int) < 3 := by
  split <;> split <;> omega
theorem chain_bnd {t : Tm} {n z : Nat} (ht : t.okN = true ∧ t.depth ≤ n ∧ t.size ≤ z) : ∀ k, (chainT t k).okN = true ∧ (chainT t k).depth ≤ n + 1 + k ∧ (chainT t k).size ≤ 1 + k * (z + 2)
  | 0 => ⟨rfl, by simp [chainT, Tm.depth], by simp [chainT, Tm.size]⟩
  | k + 1 => by
    obtain ⟨a, b, c⟩ := chain_bnd ht k
    rw [chainT, stepT]
    have m := pick_mem (l := [.hole (chainT t k), .sum (.num k) (chainT t k), .sum (chainT t k) t]) (step_at k).1 (by exact (step_at k).2)
    have hz := t.size
    revert m
    generalize pick _ _ = u
    intro m
    have e : (k + 1) * (z + 2) = k * (z + 2) + (z + 2) := Nat.succ_mul _ _
    simp only [List.mem_cons, List.not_mem_nil, or_false] at m
    rcases m with rfl | rfl | rfl
    · exact ⟨a, by simp only [Tm.depth]; omega, by simp only [Tm.size]; omega⟩
    · exact ⟨by simp [Tm.okN, a], by simp only [Tm.depth]; omega, by simp only [Tm.size]; omega⟩
    · exact ⟨by simp [Tm.okN, a, ht.1], by simp only [Tm.depth]; omega, by simp only [Tm.size]; omega⟩
end Qh

namespace Qh
open PySem PySem.Spec PyProof.Rows L2 Dq
/-- what the names stand for, as the kinds are told -/
abbrev KE := List (Str × (Int × List Str))
def kvD (v : Int × List Str) : D := .tup [.int v.1, .tup (v.2.map D.str)]
def envD (e : KE) : D := .dct (e.map fun p => (Sum.inr p.1 : Key)) (e.map fun p => kvD p.2)
def lk (e : KE) (x : Str) : Option (Int × List Str) := (e.find? fun p => decide (p.1 = x)).map (·.2)
def putE (e : KE) (x : Str) (v : Int × List Str) : KE := if (e.any fun p => decide (p.1 = x)) = true then e.map (fun p => if p.1 = x then (p.1, v) else p) else e ++ [(x, v)]
theorem valD_E (x : Str) : ∀ e : KE, valD (e.map fun p => (Sum.inr p.1 : Key)) (e.map fun p => kvD p.2) (.inr x) = (lk e x).map kvD
  | [] => rfl
  | p :: r => by
    by_cases h : p.1 = x
    · simp [valD, lk, h]
    · have := valD_E x r
      simp only [valD, lk] at this ⊢
      simp [h, this]
theorem any_E (x : Str) : ∀ e : KE, ((e.map fun p => (Sum.inr p.1 : Key)).any fun c => decide (c = .inr x)) = e.any fun p => decide (p.1 = x)
  | [] => rfl
  | p :: r => by
    rw [List.map_cons, List.any_cons, List.any_cons, any_E x r]
    by_cases h : p.1 = x <;> simp [h]
theorem zip_E (x : Str) (v : Int × List Str) : ∀ e : KE, ((e.map fun p => (Sum.inr p.1 : Key)).zip (e.map fun p => kvD p.2)).map (fun p => if p.1 = .inr x then kvD v else p.2) = (e.map (fun p => if p.1 = x then (p.1, v) else p)).map fun p => kvD p.2
  | [] => rfl
  | p :: r => by
    rw [List.map_cons, List.map_cons, List.zip_cons_cons, List.map_cons, zip_E x v r, List.map_cons, List.map_cons]
    by_cases h : p.1 = x <;> simp [h]
theorem keys_E (x : Str) (v : Int × List Str) : ∀ e : KE, (e.map (fun p => if p.1 = x then (p.1, v) else p)).map (fun p => (Sum.inr p.1 : Key)) = e.map fun p => (Sum.inr p.1 : Key)
  | [] => rfl
  | p :: r => by
    rw [List.map_cons, List.map_cons, keys_E x v r, List.map_cons]
    by_cases h : p.1 = x <;> simp [h]
theorem put_E (e : KE) (x : Str) (v : Int × List Str) : D.dct (putKs (e.map fun p => (Sum.inr p.1 : Key)) (.inr x)) (putDs (e.map fun p => (Sum.inr p.1 : Key)) (e.map fun p => kvD p.2) (.inr x) (kvD v)) = envD (putE e x v) := by
  unfold putKs putDs putE envD
  rw [any_E]
  split
  · rw [zip_E, keys_E]
  · simp
theorem putE_len (e : KE) (x : Str) (v : Int × List Str) : (putE e x v).length ≤ e.length + 1 := by
  unfold putE; split <;> simp
theorem lk_cons (p : Str × (Int × List Str)) (r : KE) (y : Str) : lk (p :: r) y = if p.1 = y then some p.2 else lk r y := by
  by_cases h : p.1 = y <;> simp [lk, h]
theorem lk_map (x : Str) (v : Int × List Str) (y : Str) : ∀ e : KE, lk (e.map (fun p => if p.1 = x then (p.1, v) else p)) y = if y = x then (if (e.any fun p => decide (p.1 = x)) = true then some v else none) else lk e y
  | [] => by simp [lk]
  | p :: r => by
    rw [List.map_cons, lk_cons, lk_map x v y r, lk_cons, List.any_cons]
    by_cases hp : p.1 = x
    · by_cases hy : y = x
      · simp [hp, hy]
      · have hy' : ¬ x = y := fun z => hy z.symm
        simp [hp, hy, hy']
    · by_cases hy : y = x
      · have hpy : ¬ p.1 = y := fun z => hp (z.trans hy)
        simp [hp, hy]
        rw [decide_eq_false hp, Bool.false_or]
      · by_cases hpy : p.1 = y
        · simp [hp, hy, hpy]
        · simp [hp, hy, hpy]
theorem lk_put (e : KE) (x : Str) (v : Int × List Str) (y : Str) : lk (putE e x v) y = if y = x then some v else lk e y := by
  unfold putE
  split
  · rename_i h
    rw [lk_map]
    simp [h]
  · rename_i h
    have hn : lk e x = none := by
      simp only [lk, Option.map_eq_none_iff, List.find?_eq_none]
      intro p hp
      simp only [List.any_eq_true, not_exists, not_and] at h
      exact h p hp
    simp only [lk] at hn ⊢
    rw [List.find?_append]
    by_cases hy : y = x
    · subst hy
      cases q : e.find? fun p => decide (p.1 = y) with
      | none => simp
      | some z => rw [q] at hn; cases hn
    · have hy' : ¬ x = y := fun z => hy z.symm
      simp [hy, hy']
def sNum : Str := Str.ofString "number"
def sPiece : Str := Str.ofString "piece"
abbrev Rho := Str → Option (Int × List Str)
def setR (ρ : Rho) (x : Str) (v : Int × List Str) : Rho := fun y => if y = x then some v else ρ y
theorem lk_setR (e : KE) (x : Str) (v : Int × List Str) : lk (putE e x v) = setR (lk e) x v := funext fun y => lk_put e x v y
/-- the kind of a term, where it has one -/
def kindT : Tm → Int → Rho → Bool → Option Str
  | .num _, _, _, _ => some sNum
  | .name x, l, ρ, _ => match ρ x with
    | some (l', [k]) => if l' = l then some k else none
    | _ => none
  | .sum a b, l, ρ, fr => if kindT a l ρ fr = some sNum ∧ kindT b l ρ fr = some sNum then some sNum else none
  | .product a b, l, ρ, fr => if kindT a l ρ fr = some sNum ∧ kindT b l ρ fr = some sNum then some sNum else none
  | .less a b, l, ρ, fr => if kindT a l ρ fr = some sNum ∧ kindT b l ρ fr = some sNum then some sNum else none
  | .when c a b, l, ρ, fr => if kindT c l ρ fr = some sNum ∧ kindT b l ρ fr = kindT a l ρ fr then kindT a l ρ fr else none
  | .lett x a b, l, ρ, fr => match kindT a l ρ fr with
    | some k => kindT b l (setR ρ x (l, [k])) fr
    | none => none
  | .turns _ x a b, l, ρ, fr => match kindT a l ρ fr with
    | some k => if kindT b l (setR ρ x (l, [k])) fr = some k then some k else none
    | none => none
  | .use f a, l, ρ, fr => match ρ f with
    | some (l', [k, m]) => if l' = l ∧ kindT a l ρ fr = some k then some m else none
    | _ => none
  | .defn f x k a b, l, ρ, fr => if l = 1 ∧ k ≠ sNum then none else match kindT a l (setR ρ x (l, [k])) false with
    | some m => kindT b l (setR ρ f (l, [k, m])) fr
    | none => none
  | .quote a, l, ρ, _ => if l ≠ 1 ∧ kindT a 1 ρ false = some sNum then some sPiece else none
  | .hole a, l, ρ, _ => if l = 1 ∧ kindT a 0 ρ false = some sPiece then some sNum else none
  | .lift a, l, ρ, fr => if l ≠ 1 ∧ kindT a 0 ρ fr = some sNum then some sPiece else none
  | .run a, l, ρ, fr => if l ≠ 1 ∧ fr = true ∧ kindT a 0 ρ fr = some sPiece then some sNum else none
end Qh

/- The laws' generator of programs: its mirror, and that what it makes has the kind that is asked for. -/
namespace Qh
open PySem PySem.Spec PyProof.Rows L2 Dq
structure Ent where
  name : Str
  lev : Int
  kinds : List Str
  deriving DecidableEq
instance : Inhabited Ent := ⟨⟨Str.ofString "", 0, []⟩⟩
def entD (e : Ent) : D := .tup [.str e.name, .int e.lev, .tup (e.kinds.map D.str)]
def rhoOf (sc : List Ent) : Rho := sc.foldl (fun ρ e => setR ρ e.name (e.lev, e.kinds)) fun _ => none
theorem rho_snoc (sc : List Ent) (e : Ent) : rhoOf (sc ++ [e]) = setR (rhoOf sc) e.name (e.lev, e.kinds) := by
  unfold rhoOf; rw [List.foldl_append]; rfl
def seen : List Ent → Int → List (List Str) → List Ent
  | [], _, _ => []
  | e :: r, l, ks => if (∀ o ∈ r, o.name ≠ e.name) ∧ e.lev = l ∧ e.kinds ∈ ks then e :: seen r l ks else seen r l ks
theorem fold_keep (x : Str) : ∀ (sc : List Ent) (ρ : Rho), (∀ o ∈ sc, o.name ≠ x) → sc.foldl (fun ρ e => setR ρ e.name (e.lev, e.kinds)) ρ x = ρ x
  | [], _, _ => rfl
  | e :: r, ρ, h => by
    rw [List.foldl_cons, fold_keep x r _ fun o ho => h o (List.mem_cons_of_mem _ ho)]
    have := h e List.mem_cons_self
    unfold setR
    rw [if_neg fun z => this z.symm]
theorem seen_fold : ∀ (sc : List Ent) (ρ : Rho) (l : Int) (ks : List (List Str)) (e : Ent), e ∈ seen sc l ks → sc.foldl (fun ρ e => setR ρ e.name (e.lev, e.kinds)) ρ e.name = some (l, e.kinds) ∧ e.kinds ∈ ks
  | [], _, _, _, _, h => by cases h
  | a :: r, ρ, l, ks, e, h => by
    rw [seen] at h
    rw [List.foldl_cons]
    split at h
    · rename_i c
      rcases List.mem_cons.mp h with rfl | h
      · rw [fold_keep e.name r _ c.1]
        unfold setR
        rw [if_pos rfl, c.2.1]
        exact ⟨rfl, c.2.2⟩
      · exact seen_fold r _ l ks e h
    · exact seen_fold r _ l ks e h
theorem seen_rho {sc : List Ent} {l : Int} {ks : List (List Str)} {e : Ent} (h : e ∈ seen sc l ks) : rhoOf sc e.name = some (l, e.kinds) ∧ e.kinds ∈ ks := seen_fold sc _ l ks e h
/-- one of them, by number -/
def nthE (l : List Ent) (i : Int) : Ent := l.getD (i % l.length).toNat default
theorem nthE_mem {l : List Ent} (i : Int) (h : l ≠ []) : nthE l i ∈ l := by
  have hl : 0 < l.length := by cases l with | nil => exact (h rfl).elim | cons a r => simp
  have h0 : 0 ≤ i % (l.length : Int) := Int.emod_nonneg _ (by omega)
  have h1 : i % (l.length : Int) < l.length := Int.emod_lt_of_pos _ (by omega)
  unfold nthE
  rw [List.getD_eq_getElem?_getD, List.getElem?_eq_getElem (by omega)]
  exact List.getElem_mem _
def kind2 (i : Int) : Str := [sNum, sPiece].getD i.toNat sNum
def othK (level : Int) : Str := if level = 0 then sNum else sPiece
def leafG (level : Int) (kind : Str) (sc : List Ent) (n : Int) : Tm :=
  let found := seen sc level [[kind]]
  let other := seen sc (1 - level) [[othK level]]
  if 0 < n % 4 ∧ found ≠ [] ∧ (n / 4 % 3 = 0 ∨ other = []) then .name (nthE found (n / 12)).name
  else if level = 1 ∧ other ≠ [] ∧ 0 < n % 4 then .hole (.name (nthE other (n / 12)).name)
  else if kind = sNum then .num (numberOf (n / 16))
  else if other ≠ [] ∧ 0 < n % 4 then .quote (.name (nthE other (n / 12)).name)
  else pick [.lift (.num (numberOf (n / 16))), .quote (.num (numberOf (n / 16)))] (n / 16 % 2)
def wLet : List Str := [Str.ofString "let", Str.ofString "turns", Str.ofString "def", Str.ofString "when", Str.ofString "use", Str.ofString "use"]
def wq : Str := Str.ofString "quote"
def wr : Str := Str.ofString "run"
def wk : Str := Str.ofString "kept"
def wordsG (level : Int) (kind : Str) (free : Bool) : List Str :=
  if kind = sPiece then wLet ++ [wq, wq, wq, wq, wq, wq, Str.ofString "lift"]
  else if level = 1 then wLet ++ [Str.ofString "sum", Str.ofString "sum", Str.ofString "product", Str.ofString "less", Str.ofString "hole", Str.ofString "hole", wk, wk, wk, wk, wk]
  else if free = true then wLet ++ [Str.ofString "sum", Str.ofString "product", Str.ofString "less", wr, wr, wr, wr, wr, wr]
  else wLet ++ [Str.ofString "sum", Str.ofString "product", Str.ofString "less"]
abbrev St2 := Nat × Nat
abbrev GenT := Nat → Int → Str → List Ent → Bool → St2 → Tm × St2
def xG (s : List Int) (n : Int) : Str := nameOf s ([0, 0, 1, 2].getD (n % 4).toNat 0)
def fG (s : List Int) (n : Int) : Str := nameOf s ([1, 2, 1, 0].getD (n / 4 % 4).toNat 0)
def twiceG (s : List Int) (T : GenT) (sc : List Ent) (d : Nat) (n : Int) (st : St2) : Tm × St2 :=
  let x := xG s n
  let more := sc ++ [⟨x, 1, [sNum]⟩]
  let found := seen more 0 [[sPiece]]
  let one : Tm := if found ≠ [] then .hole (.name (nthE found (n / 4)).name) else .name x
  let o := T d 1 sNum more false st
  (.lett x (.num (n / 16 % 50)) (.sum one o.1), o.2)
def boundG (s : List Int) (T : GenT) (word : Str) (level : Int) (kind : Str) (free : Bool) (sc : List Ent) (e : Nat) (n0 : Int) (st : St2) : Tm × St2 :=
  let x := xG s n0
  let f := fG s n0
  let other := kind2 (n0 / 16 % 2 * (1 - level))
  let n := n0 / 2
  if word = wk then
    let one := if n / 16 % 2 = 0 then T (e - 1) 1 sNum sc false st else (.num (numberOf (n / 18)), st)
    let more := sc ++ [⟨x, 1, [sNum]⟩] ++ [⟨f, 0, [sPiece]⟩]
    let inner := if n / 5000 % 2 = 0 then twiceG s T more (e - 2) (n / 10000) one.2 else T (e - 1) 1 sNum more false one.2
    (.lett x one.1 (.hole (.lett f (.quote (.name x)) (.quote inner.1))), inner.2)
  else if word = Str.ofString "let" then
    let one := T e level other sc free st
    let two := T e level kind (sc ++ [⟨x, level, [other]⟩]) free one.2
    (.lett x one.1 two.1, two.2)
  else if word = Str.ofString "turns" then
    let many0 := ([0, 1, 2, 3, 2, 3, 1, 9] : List Int).getD (n / 18 % 8).toNat 0
    let many := if 1 < e then many0 % 4 else many0
    let one := T e level kind sc free st
    let two := T e level kind (sc ++ [⟨x, level, [kind]⟩]) free one.2
    (.turns many x one.1 two.1, two.2)
  else
    let found := seen sc level [[sNum, kind], [sPiece, kind]]
    if word = Str.ofString "use" ∧ found ≠ [] then
      let u := nthE found (n / 18)
      let one := T e level (u.kinds.getD 0 sNum) sc free st
      (.use u.name one.1, one.2)
    else
      let whole := kind2 (n / 18 % 2 * (1 - level))
      let body := T e level whole (sc ++ [⟨x, level, [other]⟩]) false st
      let two := T e level kind (sc ++ [⟨f, level, [other, whole]⟩]) free body.2
      (.defn f x other body.1 two.1, two.2)
def isB (w : Str) : Bool := decide (w = Str.ofString "let") || decide (w = Str.ofString "turns") || decide (w = Str.ofString "def") || decide (w = Str.ofString "use") || decide (w = wk)
def termF (s : List Int) : Nat → GenT
  | 0, _, level, kind, sc, _, st => (leafG level kind sc (mixed s (st.1 + 1)), (st.1 + 1, st.2 + 1))
  | f + 1, d, level, kind, sc, free, st =>
    let n := mixed s (st.1 + 1)
    let st := (st.1 + 1, st.2 + 1)
    if d = 0 ∨ 60 < st.2 then (leafG level kind sc n, st) else
    let ws := wordsG level kind free
    let w := ws.getD (n % ws.length).toNat (Str.ofString "")
    let n := n / ws.length
    let T := termF s f
    if isB w = true then boundG s T w level kind free sc (d - 1) n st
    else if w = wq then (.quote (T (d - 1) 1 sNum sc false st).1, (T (d - 1) 1 sNum sc false st).2)
    else if w = Str.ofString "hole" then (.hole (T (d - 1) 0 sPiece sc false st).1, (T (d - 1) 0 sPiece sc false st).2)
    else if w = Str.ofString "lift" then (.lift (T (d - 1) 0 sNum sc free st).1, (T (d - 1) 0 sNum sc free st).2)
    else if w = wr then (.run (T (d - 1) 0 sPiece sc free st).1, (T (d - 1) 0 sPiece sc free st).2)
    else if w ≠ Str.ofString "when" then
      let one := T (d - 1) level sNum sc free st
      let two := T (d - 1) level sNum sc free one.2
      ((if w = Str.ofString "sum" then .sum one.1 two.1 else if w = Str.ofString "product" then .product one.1 two.1 else .less one.1 two.1), two.2)
    else
      let one := T (d - 1) level sNum sc free st
      let two := T (d - 1) level kind sc free one.2
      let three := T (d - 1) level kind sc free two.2
      (.when one.1 two.1 three.1, three.2)

/-! ### what is made has the kind that is asked for -/
section
variable {a b c : Tm} {l : Int} {ρ : Rho} {fr : Bool} {k k1 k2 : Str} {x f : Str}
theorem kT_hole (h : kindT a 0 ρ false = some sPiece) : kindT (.hole a) 1 ρ fr = some sNum := by rw [kindT, if_pos ⟨rfl, h⟩]
theorem kT_quote (h : kindT a 1 ρ false = some sNum) : kindT (.quote a) 0 ρ fr = some sPiece := by rw [kindT, if_pos ⟨by decide, h⟩]
theorem kT_lift (h : kindT a 0 ρ fr = some sNum) : kindT (.lift a) 0 ρ fr = some sPiece := by rw [kindT, if_pos ⟨by decide, h⟩]
theorem kT_run (h : kindT a 0 ρ true = some sPiece) : kindT (.run a) 0 ρ true = some sNum := by rw [kindT, if_pos ⟨by decide, rfl, h⟩]
theorem kT_sum (h : kindT a l ρ fr = some sNum) (h2 : kindT b l ρ fr = some sNum) : kindT (.sum a b) l ρ fr = some sNum := by rw [kindT, if_pos ⟨h, h2⟩]
theorem kT_product (h : kindT a l ρ fr = some sNum) (h2 : kindT b l ρ fr = some sNum) : kindT (.product a b) l ρ fr = some sNum := by rw [kindT, if_pos ⟨h, h2⟩]
theorem kT_less (h : kindT a l ρ fr = some sNum) (h2 : kindT b l ρ fr = some sNum) : kindT (.less a b) l ρ fr = some sNum := by rw [kindT, if_pos ⟨h, h2⟩]
theorem kT_when (h : kindT c l ρ fr = some sNum) (h2 : kindT a l ρ fr = some k) (h3 : kindT b l ρ fr = some k) : kindT (.when c a b) l ρ fr = some k := by rw [kindT, if_pos ⟨h, h3.trans h2.symm⟩, h2]
theorem kT_let (h : kindT a l ρ fr = some k1) (h2 : kindT b l (setR ρ x (l, [k1])) fr = some k) : kindT (.lett x a b) l ρ fr = some k := by rw [kindT, h]; exact h2
theorem kT_turns {n : Int} (h : kindT a l ρ fr = some k) (h2 : kindT b l (setR ρ x (l, [k])) fr = some k) : kindT (.turns n x a b) l ρ fr = some k := by rw [kindT, h]; simp only; rw [if_pos h2]
theorem kT_use (h : ρ f = some (l, [k1, k])) (h2 : kindT a l ρ fr = some k1) : kindT (.use f a) l ρ fr = some k := by rw [kindT, h]; simp [h2]
theorem kT_def (h0 : l = 1 → k1 = sNum) (h : kindT a l (setR ρ x (l, [k1])) false = some k2) (h2 : kindT b l (setR ρ f (l, [k1, k2])) fr = some k) : kindT (.defn f x k1 a b) l ρ fr = some k := by
  rw [kindT, if_neg fun z => z.2 (h0 z.1), h]; exact h2
theorem kT_name (h : ρ x = some (l, [k])) : kindT (.name x) l ρ fr = some k := by rw [kindT, h]; simp
end
/-- what is asked -/
structure Ask (level : Int) (kind : Str) (free : Bool) : Prop where
  l : level = 0 ∨ level = 1
  k : kind = sNum ∨ kind = sPiece
  h : level = 1 → kind = sNum ∧ free = false
theorem np : sNum ≠ sPiece := by decide +kernel
theorem kind_leaf {level : Int} {kind : Str} {free : Bool} (A : Ask level kind free) (sc : List Ent) (n : Int) : kindT (leafG level kind sc n) level (rhoOf sc) free = some kind := by
  have nm : ∀ {l : Int} {k : Str} {m : Int} {fr : Bool}, seen sc l [[k]] ≠ [] → kindT (.name (nthE (seen sc l [[k]]) m).name) l (rhoOf sc) fr = some k := by
    intro l k m fr hne
    have q := seen_rho (nthE_mem m hne)
    have e : (nthE (seen sc l [[k]]) m).kinds = [k] := by simpa using q.2
    rw [e] at q
    exact kT_name q.1
  unfold leafG
  simp only
  split
  · rename_i c; exact nm c.2.1
  · split
    · rename_i c
      obtain ⟨rfl, c2, _⟩ := c
      obtain ⟨rfl, rfl⟩ := A.h rfl
      exact kT_hole (nm c2)
    · split
      · rename_i c; rw [c]; rfl
      · rename_i hk
        have hp : kind = sPiece := A.k.resolve_left hk
        have l0 : level = 0 := A.l.resolve_right fun h => hk (A.h h).1
        subst hp l0
        split
        · rename_i c
          exact kT_quote (nm c.1)
        · have m := pick_mem (l := [.lift (.num (numberOf (n / 16))), .quote (.num (numberOf (n / 16)))]) (i := n / 16 % 2) (Int.emod_nonneg _ (by decide)) (Int.emod_lt_of_pos _ (by decide))
          revert m
          generalize pick _ _ = t
          intro m
          simp only [List.mem_cons, List.not_mem_nil, or_false] at m
          rcases m with rfl | rfl <;> simp [kindT]
theorem kind2_of {level : Int} (hl : level = 0 ∨ level = 1) (i : Int) (h0 : 0 ≤ i) (h1 : i < 2) : (kind2 (i * (1 - level)) = sNum ∨ kind2 (i * (1 - level)) = sPiece) ∧ (level = 1 → kind2 (i * (1 - level)) = sNum) := by
  rcases in2 h0 h1 with rfl | rfl <;> rcases hl with rfl | rfl <;> simp [kind2]
/-- the terms of T have the kind that is asked for -/
def OkSc (sc : List Ent) : Prop := ∀ e ∈ sc, e.lev = 1 → ∀ k ∈ e.kinds, k = sNum
theorem OkSc.snoc {sc : List Ent} (h : OkSc sc) {e : Ent} (he : e.lev = 1 → ∀ k ∈ e.kinds, k = sNum) : OkSc (sc ++ [e]) := by
  intro o ho
  rcases List.mem_append.mp ho with ho | ho
  · exact h o ho
  · rw [List.mem_singleton.mp ho]; exact he
theorem seen_sub : ∀ {sc : List Ent} {l : Int} {ks : List (List Str)} {e : Ent}, e ∈ seen sc l ks → e ∈ sc ∧ e.lev = l
  | a :: r, l, ks, e, h => by
    rw [seen] at h
    split at h
    · rename_i c
      rcases List.mem_cons.mp h with rfl | h
      · exact ⟨List.mem_cons_self, c.2.1⟩
      · exact ⟨List.mem_cons_of_mem _ (seen_sub h).1, (seen_sub h).2⟩
    · exact ⟨List.mem_cons_of_mem _ (seen_sub h).1, (seen_sub h).2⟩
def GoodT (T : GenT) : Prop := ∀ (d : Nat) (level : Int) (kind : Str) (sc : List Ent) (free : Bool) (st : St2), Ask level kind free → OkSc sc → kindT (T d level kind sc free st).1 level (rhoOf sc) free = some kind
theorem ask1 : Ask 1 sNum false := ⟨.inr rfl, .inl rfl, fun _ => ⟨rfl, rfl⟩⟩
theorem one_num {k : Str} : ∀ j ∈ [sNum], j = sNum := fun j h => List.mem_singleton.mp h
theorem kind_twice {s : List Int} {T : GenT} (G : GoodT T) (sc : List Ent) (O : OkSc sc) (d : Nat) (n : Int) (st : St2) : kindT (twiceG s T sc d n st).1 1 (rhoOf sc) false = some sNum := by
  unfold twiceG
  simp only
  have go := G d 1 sNum (sc ++ [⟨xG s n, 1, [sNum]⟩]) false st ask1 (O.snoc fun _ => one_num (k := sNum))
  rw [rho_snoc] at go
  refine kT_let (k1 := sNum) rfl (kT_sum ?_ go)
  split
  · rename_i c
    have q := seen_rho (nthE_mem (n / 4) c)
    rw [rho_snoc] at q
    have e : (nthE (seen (sc ++ [⟨xG s n, 1, [sNum]⟩]) 0 [[sPiece]]) (n / 4)).kinds = [sPiece] := by simpa using q.2
    rw [e] at q
    exact kT_hole (kT_name q.1)
  · exact kT_name (by simp [setR])
theorem emod2 (i : Int) : 0 ≤ i % 2 ∧ i % 2 < 2 := ⟨Int.emod_nonneg _ (by decide), Int.emod_lt_of_pos _ (by decide)⟩
theorem kind_bound {s : List Int} {T : GenT} (G : GoodT T) {word : Str} {level : Int} {kind : Str} {free : Bool} (A : Ask level kind free) (hk : word = wk → level = 1) (sc : List Ent) (O : OkSc sc) (e : Nat) (n : Int) (st : St2) :
    kindT (boundG s T word level kind free sc e n st).1 level (rhoOf sc) free = some kind := by
  have ko := kind2_of A.l (n / 16 % 2) (emod2 _).1 (emod2 _).2
  have kw := kind2_of A.l (n / 2 / 18 % 2) (emod2 _).1 (emod2 _).2
  have on : ∀ x : Str, OkSc (sc ++ [⟨x, level, [kind2 (n / 16 % 2 * (1 - level))]⟩]) := fun x => O.snoc fun h j hj => by rw [List.mem_singleton.mp hj]; exact ko.2 h
  unfold boundG
  simp only
  split
  · rename_i hw
    obtain rfl := hk hw
    obtain ⟨rfl, rfl⟩ := A.h rfl
    refine kT_let (k1 := sNum) ?_ (kT_hole (kT_let (k1 := sPiece) (kT_quote (kT_name (by simp [setR]))) (kT_quote ?_)))
    · split
      · exact G _ 1 sNum sc false _ ask1 O
      · rfl
    · have r : setR (setR (rhoOf sc) (xG s n) (1, [sNum])) (fG s n) (0, [sPiece]) = rhoOf (sc ++ [⟨xG s n, 1, [sNum]⟩] ++ [⟨fG s n, 0, [sPiece]⟩]) := by rw [rho_snoc, rho_snoc]
      have om : OkSc (sc ++ [⟨xG s n, 1, [sNum]⟩] ++ [⟨fG s n, 0, [sPiece]⟩]) := (O.snoc fun _ => one_num (k := sNum)).snoc fun h => by cases h
      rw [r]
      split
      · exact kind_twice G _ om _ _ _
      · exact G _ 1 sNum _ false _ ask1 om
  · split
    · have h1 := G e level (kind2 (n / 16 % 2 * (1 - level))) sc free st ⟨A.l, ko.1, fun h => ⟨ko.2 h, (A.h h).2⟩⟩ O
      refine kT_let h1 ?_
      have h2 := G e level kind (sc ++ [⟨xG s n, level, [kind2 (n / 16 % 2 * (1 - level))]⟩]) free (T e level (kind2 (n / 16 % 2 * (1 - level))) sc free st).2 A (on _)
      rw [rho_snoc] at h2
      exact h2
    · split
      · refine kT_turns (G e level kind sc free st A O) ?_
        have h2 := G e level kind (sc ++ [⟨xG s n, level, [kind]⟩]) free (T e level kind sc free st).2 A (O.snoc fun h j hj => by rw [List.mem_singleton.mp hj]; exact (A.h h).1)
        rw [rho_snoc] at h2
        exact h2
      · split
        · rename_i c
          have q := seen_rho (nthE_mem (n / 2 / 18) c.2)
          have ku : ∃ k1, (nthE (seen sc level [[sNum, kind], [sPiece, kind]]) (n / 2 / 18)).kinds = [k1, kind] ∧ (k1 = sNum ∨ k1 = sPiece) := by
            have z := q.2
            simp only [List.mem_cons, List.not_mem_nil, or_false] at z
            rcases z with z | z
            · exact ⟨_, z, .inl rfl⟩
            · exact ⟨_, z, .inr rfl⟩
          obtain ⟨k1, ek, hk1⟩ := ku
          have hs := seen_sub (nthE_mem (n / 2 / 18) c.2)
          have h1 : level = 1 → k1 = sNum := fun h => O _ hs.1 (hs.2.trans h) k1 (by rw [ek]; simp)
          rw [ek] at q ⊢
          exact kT_use q.1 (G e level k1 sc free st ⟨A.l, hk1, fun h => ⟨h1 h, (A.h h).2⟩⟩ O)
        · refine kT_def (k2 := kind2 (n / 2 / 18 % 2 * (1 - level))) ko.2 ?_ ?_
          · have h1 := G e level (kind2 (n / 2 / 18 % 2 * (1 - level))) (sc ++ [⟨xG s n, level, [kind2 (n / 16 % 2 * (1 - level))]⟩]) false st ⟨A.l, kw.1, fun h => ⟨kw.2 h, rfl⟩⟩ (on _)
            rw [rho_snoc] at h1
            exact h1
          · have h2 := G e level kind (sc ++ [⟨fG s n, level, [kind2 (n / 16 % 2 * (1 - level)), kind2 (n / 2 / 18 % 2 * (1 - level))]⟩]) free (T e level (kind2 (n / 2 / 18 % 2 * (1 - level))) (sc ++ [⟨xG s n, level, [kind2 (n / 16 % 2 * (1 - level))]⟩]) false st).2 A (O.snoc fun h j hj => by
              simp only [List.mem_cons, List.not_mem_nil, or_false] at hj
              rcases hj with hj | hj
              · rw [hj]; exact ko.2 h
              · rw [hj]; exact kw.2 h)
            rw [rho_snoc] at h2
            exact h2
end Qh

namespace Qh
open PySem PySem.Spec PyProof.Rows L2 Dq
abbrev wH : Str := Str.ofString "hole"
abbrev wL : Str := Str.ofString "lift"
abbrev wW : Str := Str.ofString "when"
theorem wLet_cases {w : Str} (h : w ∈ wLet) : (isB w = true ∧ w ≠ wk) ∨ w = wW := by
  simp only [wLet, List.mem_cons, List.not_mem_nil, or_false] at h
  rcases h with rfl | rfl | rfl | rfl | rfl | rfl
  · exact .inl ⟨by decide +kernel, by decide +kernel⟩
  · exact .inl ⟨by decide +kernel, by decide +kernel⟩
  · exact .inl ⟨by decide +kernel, by decide +kernel⟩
  · exact .inr rfl
  · exact .inl ⟨by decide +kernel, by decide +kernel⟩
  · exact .inl ⟨by decide +kernel, by decide +kernel⟩
theorem words_piece {level : Int} {free : Bool} {w : Str} (h : w ∈ wordsG level sPiece free) : (isB w = true ∧ w ≠ wk) ∨ w = wW ∨ w = wq ∨ w = wL := by
  rw [wordsG, if_pos rfl] at h
  rcases List.mem_append.mp h with h | h
  · exact (wLet_cases h).imp id .inl
  · simp only [List.mem_cons, List.not_mem_nil, or_false] at h
    rcases h with h | h | h | h | h | h | h
    · exact .inr (.inr (.inl h))
    · exact .inr (.inr (.inl h))
    · exact .inr (.inr (.inl h))
    · exact .inr (.inr (.inl h))
    · exact .inr (.inr (.inl h))
    · exact .inr (.inr (.inl h))
    · exact .inr (.inr (.inr h))
abbrev wS : Str := Str.ofString "sum"
abbrev wP : Str := Str.ofString "product"
abbrev wE : Str := Str.ofString "less"
theorem words_num {level : Int} {free : Bool} {w : Str} (h : w ∈ wordsG level sNum free) : (isB w = true ∧ (w = wk → level = 1)) ∨ w = wW ∨ w = wS ∨ w = wP ∨ w = wE ∨ (w = wH ∧ level = 1) ∨ (w = wr ∧ free = true ∧ level ≠ 1) := by
  rw [wordsG, if_neg np] at h
  split at h
  · rename_i l1
    rcases List.mem_append.mp h with h | h
    · exact (wLet_cases h).imp (fun z => ⟨z.1, fun _ => l1⟩) .inl
    · simp only [List.mem_cons, List.not_mem_nil, or_false] at h
      rcases h with h | h | h | h | h | h | h | h | h | h | h
      · exact .inr (.inr (.inl h))
      · exact .inr (.inr (.inl h))
      · exact .inr (.inr (.inr (.inl h)))
      · exact .inr (.inr (.inr (.inr (.inl h))))
      · exact .inr (.inr (.inr (.inr (.inr (.inl ⟨h, l1⟩)))))
      · exact .inr (.inr (.inr (.inr (.inr (.inl ⟨h, l1⟩)))))
      all_goals exact .inl ⟨by rw [h]; decide +kernel, fun _ => l1⟩
  · rename_i l1
    split at h
    · rename_i hf
      rcases List.mem_append.mp h with h | h
      · exact (wLet_cases h).imp (fun z => ⟨z.1, fun q => absurd q z.2⟩) .inl
      · simp only [List.mem_cons, List.not_mem_nil, or_false] at h
        rcases h with h | h | h | h | h | h | h | h | h
        · exact .inr (.inr (.inl h))
        · exact .inr (.inr (.inr (.inl h)))
        · exact .inr (.inr (.inr (.inr (.inl h))))
        all_goals exact .inr (.inr (.inr (.inr (.inr (.inr ⟨h, hf, l1⟩)))))
    · rcases List.mem_append.mp h with h | h
      · exact (wLet_cases h).imp (fun z => ⟨z.1, fun q => absurd q z.2⟩) .inl
      · simp only [List.mem_cons, List.not_mem_nil, or_false] at h
        rcases h with h | h | h
        · exact .inr (.inr (.inl h))
        · exact .inr (.inr (.inr (.inl h)))
        · exact .inr (.inr (.inr (.inr (.inl h))))
theorem b_false : isB wW = false ∧ isB wq = false ∧ isB wL = false ∧ isB wS = false ∧ isB wP = false ∧ isB wE = false ∧ isB wH = false ∧ isB wr = false := by
  refine ⟨?_, ?_, ?_, ?_, ?_, ?_, ?_, ?_⟩ <;> decide +kernel
theorem words_ne (level : Int) (kind : Str) (free : Bool) : wordsG level kind free ≠ [] := by
  unfold wordsG wLet
  split
  · simp
  · split
    · simp
    · split <;> simp
theorem getD_mem {l : List Str} (i : Int) (h : l ≠ []) : l.getD (i % l.length).toNat (Str.ofString "") ∈ l := by
  have hl : 0 < l.length := by cases l with | nil => exact (h rfl).elim | cons a r => simp
  have h0 : 0 ≤ i % (l.length : Int) := Int.emod_nonneg _ (by omega)
  have h1 : i % (l.length : Int) < l.length := Int.emod_lt_of_pos _ (by omega)
  rw [List.getD_eq_getElem?_getD, List.getElem?_eq_getElem (by omega)]
  exact List.getElem_mem _
theorem ask0p {free : Bool} : Ask 0 sPiece free := ⟨.inl rfl, .inr rfl, fun h => by cases h⟩
theorem ask0n {free : Bool} : Ask 0 sNum free := ⟨.inl rfl, .inl rfl, fun h => by cases h⟩
theorem kind_term (s : List Int) : ∀ f, GoodT (termF s f)
  | 0 => fun d level kind sc free st A O => kind_leaf A sc _
  | f + 1 => fun d level kind sc free st A O => by
    have G := kind_term s f
    rw [termF]
    simp only
    split
    · exact kind_leaf A sc _
    · have hm := getD_mem (mixed s (st.1 + 1)) (words_ne level kind free)
      revert hm
      generalize (wordsG level kind free).getD (mixed s (st.1 + 1) % ((wordsG level kind free).length : Int)).toNat (Str.ofString "") = w
      intro hm
      obtain ⟨bW, bq, bL, bS, bP, bE, bH, bR⟩ := b_false
      split
      · rename_i hb
        refine kind_bound G A (fun hk => ?_) sc O _ _ _
        rcases A.k with rfl | rfl
        · rcases words_num hm with z | z | z | z | z | z | z
          · exact z.2 hk
          · rw [z, bW] at hb; cases hb
          · rw [z, bS] at hb; cases hb
          · rw [z, bP] at hb; cases hb
          · rw [z, bE] at hb; cases hb
          · exact z.2
          · rw [z.1, bR] at hb; cases hb
        · rcases words_piece hm with z | z | z | z
          · exact absurd hk z.2
          · rw [z, bW] at hb; cases hb
          · rw [z, bq] at hb; cases hb
          · rw [z, bL] at hb; cases hb
      · rename_i hb
        have l0 : kind = sPiece → level = 0 := fun hp => A.l.resolve_right fun h => np ((A.h h).1.symm.trans hp)
        rcases A.k with rfl | rfl
        · -- a number
          have hw : w = wW ∨ w = wS ∨ w = wP ∨ w = wE ∨ (w = wH ∧ level = 1) ∨ (w = wr ∧ free = true ∧ level ≠ 1) := by
            rcases words_num hm with z | z
            · exact absurd z.1 hb
            · exact z
          have three : kindT (if w = wS then .sum (termF s f (d - 1) level sNum sc free (st.1 + 1, st.2 + 1)).1 (termF s f (d - 1) level sNum sc free (termF s f (d - 1) level sNum sc free (st.1 + 1, st.2 + 1)).2).1 else if w = wP then .product (termF s f (d - 1) level sNum sc free (st.1 + 1, st.2 + 1)).1 (termF s f (d - 1) level sNum sc free (termF s f (d - 1) level sNum sc free (st.1 + 1, st.2 + 1)).2).1 else .less (termF s f (d - 1) level sNum sc free (st.1 + 1, st.2 + 1)).1 (termF s f (d - 1) level sNum sc free (termF s f (d - 1) level sNum sc free (st.1 + 1, st.2 + 1)).2).1) level (rhoOf sc) free = some sNum := by
            split
            · exact kT_sum (G _ _ _ _ _ _ A O) (G _ _ _ _ _ _ A O)
            · split
              · exact kT_product (G _ _ _ _ _ _ A O) (G _ _ _ _ _ _ A O)
              · exact kT_less (G _ _ _ _ _ _ A O) (G _ _ _ _ _ _ A O)
          split
          · rename_i q
            rcases hw with z | z | z | z | z | z <;> first | (rw [q] at z; exact absurd z (by decide +kernel)) | (rw [q] at z; exact absurd z.1 (by decide +kernel))
          · split
            · rename_i q
              have l1 : level = 1 := by
                rcases hw with z | z | z | z | z | z <;> first | exact z.2 | (rw [q] at z; exact absurd z (by decide +kernel)) | (rw [q] at z; exact absurd z.1 (by decide +kernel))
              subst l1
              exact kT_hole (G _ _ _ _ _ _ ask0p O)
            · split
              · rename_i q
                rcases hw with z | z | z | z | z | z <;> first | (rw [q] at z; exact absurd z (by decide +kernel)) | (rw [q] at z; exact absurd z.1 (by decide +kernel))
              · split
                · rename_i q
                  have l1 : free = true ∧ level ≠ 1 := by
                    rcases hw with z | z | z | z | z | z <;> first | exact z.2 | (rw [q] at z; exact absurd z (by decide +kernel)) | (rw [q] at z; exact absurd z.1 (by decide +kernel))
                  obtain ⟨rfl, l1⟩ := l1
                  obtain rfl : level = 0 := A.l.resolve_right l1
                  exact kT_run (G _ _ _ _ _ _ ask0p O)
                · split
                  · exact three
                  · exact kT_when (G _ _ _ _ _ _ A O) (G _ _ _ _ _ _ A O) (G _ _ _ _ _ _ A O)
        · -- a piece
          obtain rfl := l0 rfl
          have hw : w = wW ∨ w = wq ∨ w = wL := by
            rcases words_piece hm with z | z
            · exact absurd z.1 hb
            · exact z
          split
          · exact kT_quote (G _ _ _ _ _ _ ask1 O)
          · rename_i nq
            split
            · rename_i q
              rcases hw with z | z | z <;> (rw [q] at z; exact absurd z (by decide +kernel))
            · split
              · exact kT_lift (G _ _ _ _ _ _ ask0n O)
              · rename_i nL
                have hW : w = wW := (hw.resolve_right fun z => z.elim nq nL)
                split
                · rename_i q
                  rw [hW] at q; exact absurd q (by decide +kernel)
                · split
                  · rename_i q; exact absurd hW q
                  · exact kT_when (G _ _ _ _ _ _ ask0n O) (G _ _ _ _ _ _ A O) (G _ _ _ _ _ _ A O)
end Qh

/- The generator: how deep what it makes stands; its step by the word that is drawn; its names. -/
namespace Qh
open PySem PySem.Spec PyProof.Rows L2 Dq
def stepG (s : List Int) (T : GenT) (w : Str) (level : Int) (kind : Str) (sc : List Ent) (free : Bool) (e : Nat) (n : Int) (st : St2) : Tm × St2 :=
  if isB w = true then boundG s T w level kind free sc e n st
  else if w = wq then (.quote (T e 1 sNum sc false st).1, (T e 1 sNum sc false st).2)
  else if w = wH then (.hole (T e 0 sPiece sc false st).1, (T e 0 sPiece sc false st).2)
  else if w = wL then (.lift (T e 0 sNum sc free st).1, (T e 0 sNum sc free st).2)
  else if w = wr then (.run (T e 0 sPiece sc free st).1, (T e 0 sPiece sc free st).2)
  else if w ≠ wW then
    let one := T e level sNum sc free st
    let two := T e level sNum sc free one.2
    ((if w = wS then .sum one.1 two.1 else if w = wP then .product one.1 two.1 else .less one.1 two.1), two.2)
  else
    let one := T e level sNum sc free st
    let two := T e level kind sc free one.2
    let three := T e level kind sc free two.2
    (.when one.1 two.1 three.1, three.2)
theorem termF_eq (s : List Int) (f d : Nat) (level : Int) (kind : Str) (sc : List Ent) (free : Bool) (k c : Nat) : termF s (f + 1) d level kind sc free (k, c) =
    if d = 0 ∨ 60 < c + 1 then (leafG level kind sc (mixed s (k + 1)), (k + 1, c + 1))
    else stepG s (termF s f) ((wordsG level kind free).getD (mixed s (k + 1) % ((wordsG level kind free).length : Int)).toNat (Str.ofString "")) level kind sc free (d - 1) (mixed s (k + 1) / ((wordsG level kind free).length : Int)) (k + 1, c + 1) := rfl
abbrev wE1 : Str := Str.ofString "let"
section
variable (s : List Int) (T : GenT) (level : Int) (kind : Str) (sc : List Ent) (free : Bool) (e : Nat) (n : Int) (st : St2)
theorem step_b {w : Str} (h : isB w = true) : stepG s T w level kind sc free e n st = boundG s T w level kind free sc e n st := by rw [stepG, if_pos h]
theorem step_q : stepG s T wq level kind sc free e n st = (.quote (T e 1 sNum sc false st).1, (T e 1 sNum sc false st).2) := by
  obtain ⟨bW, bq, bL, bS, bP, bE, bH, bR⟩ := b_false
  rw [stepG, if_neg (by rw [bq]; decide), if_pos rfl]
theorem step_H : stepG s T wH level kind sc free e n st = (.hole (T e 0 sPiece sc false st).1, (T e 0 sPiece sc false st).2) := by
  obtain ⟨bW, bq, bL, bS, bP, bE, bH, bR⟩ := b_false
  rw [stepG, if_neg (by rw [bH]; decide), if_neg (by decide +kernel), if_pos rfl]
theorem step_L : stepG s T wL level kind sc free e n st = (.lift (T e 0 sNum sc free st).1, (T e 0 sNum sc free st).2) := by
  obtain ⟨bW, bq, bL, bS, bP, bE, bH, bR⟩ := b_false
  rw [stepG, if_neg (by rw [bL]; decide), if_neg (by decide +kernel), if_neg (by decide +kernel), if_pos rfl]
theorem step_r : stepG s T wr level kind sc free e n st = (.run (T e 0 sPiece sc free st).1, (T e 0 sPiece sc free st).2) := by
  obtain ⟨bW, bq, bL, bS, bP, bE, bH, bR⟩ := b_false
  rw [stepG, if_neg (by rw [bR]; decide), if_neg (by decide +kernel), if_neg (by decide +kernel), if_neg (by decide +kernel), if_pos rfl]
theorem step_S : stepG s T wS level kind sc free e n st = (.sum (T e level sNum sc free st).1 (T e level sNum sc free (T e level sNum sc free st).2).1, (T e level sNum sc free (T e level sNum sc free st).2).2) := by
  obtain ⟨bW, bq, bL, bS, bP, bE, bH, bR⟩ := b_false
  rw [stepG, if_neg (by rw [bS]; decide), if_neg (by decide +kernel), if_neg (by decide +kernel), if_neg (by decide +kernel), if_neg (by decide +kernel), if_pos (by decide +kernel)]
  simp only [if_true]
theorem step_P : stepG s T wP level kind sc free e n st = (.product (T e level sNum sc free st).1 (T e level sNum sc free (T e level sNum sc free st).2).1, (T e level sNum sc free (T e level sNum sc free st).2).2) := by
  obtain ⟨bW, bq, bL, bS, bP, bE, bH, bR⟩ := b_false
  rw [stepG, if_neg (by rw [bP]; decide), if_neg (by decide +kernel), if_neg (by decide +kernel), if_neg (by decide +kernel), if_neg (by decide +kernel), if_pos (by decide +kernel)]
  dsimp only
  rw [if_neg (by decide +kernel), if_pos rfl]
theorem step_E : stepG s T wE level kind sc free e n st = (.less (T e level sNum sc free st).1 (T e level sNum sc free (T e level sNum sc free st).2).1, (T e level sNum sc free (T e level sNum sc free st).2).2) := by
  obtain ⟨bW, bq, bL, bS, bP, bE, bH, bR⟩ := b_false
  rw [stepG, if_neg (by rw [bE]; decide), if_neg (by decide +kernel), if_neg (by decide +kernel), if_neg (by decide +kernel), if_neg (by decide +kernel), if_pos (by decide +kernel)]
  dsimp only
  rw [if_neg (by decide +kernel), if_neg (by decide +kernel)]
theorem step_W : stepG s T wW level kind sc free e n st = (.when (T e level sNum sc free st).1 (T e level kind sc free (T e level sNum sc free st).2).1 (T e level kind sc free (T e level kind sc free (T e level sNum sc free st).2).2).1, (T e level kind sc free (T e level kind sc free (T e level sNum sc free st).2).2).2) := by
  obtain ⟨bW, bq, bL, bS, bP, bE, bH, bR⟩ := b_false
  rw [stepG, if_neg (by rw [bW]; decide), if_neg (by decide +kernel), if_neg (by decide +kernel), if_neg (by decide +kernel), if_neg (by decide +kernel), if_neg (by simp)]
end
/-- each word that may be drawn -/
theorem words_all {level : Int} {kind : Str} {free : Bool} (hk : kind = sNum ∨ kind = sPiece) {w : Str} (h : w ∈ wordsG level kind free) :
    w = Str.ofString "let" ∨ w = Str.ofString "turns" ∨ w = Str.ofString "def" ∨ w = Str.ofString "use" ∨ w = wk ∨ w = wW ∨ w = wq ∨ w = wL ∨ w = wS ∨ w = wP ∨ w = wE ∨ w = wH ∨ w = wr := by
  have hb : isB w = true → w = Str.ofString "let" ∨ w = Str.ofString "turns" ∨ w = Str.ofString "def" ∨ w = Str.ofString "use" ∨ w = wk := by
    intro h
    unfold isB at h
    simp only [Bool.or_eq_true, decide_eq_true_eq, or_assoc] at h
    exact h
  have fin : w = Str.ofString "let" ∨ w = Str.ofString "turns" ∨ w = Str.ofString "def" ∨ w = Str.ofString "use" ∨ w = wk → _ ∨ w = wW ∨ w = wq ∨ w = wL ∨ w = wS ∨ w = wP ∨ w = wE ∨ w = wH ∨ w = wr := Or.inl
  rcases hk with rfl | rfl
  · rcases words_num h with z | z | z | z | z | z | z
    · rcases hb z.1 with z | z | z | z | z <;> simp only [z, true_or, or_true]
    · simp only [z, true_or, or_true]
    · simp only [z, true_or, or_true]
    · simp only [z, true_or, or_true]
    · simp only [z, true_or, or_true]
    · simp only [z.1, true_or, or_true]
    · simp only [z.1, true_or, or_true]
  · rcases words_piece h with z | z | z | z
    · rcases hb z.1 with z | z | z | z | z <;> simp only [z, true_or, or_true]
    · simp only [z, true_or, or_true]
    · simp only [z, true_or, or_true]
    · simp only [z, true_or, or_true]
/-! ### how deep -/
def DepT (T : GenT) : Prop := ∀ (d : Nat) (level : Int) (kind : Str) (sc : List Ent) (free : Bool) (st : St2), (T d level kind sc free st).1.depth ≤ 2 + 6 * d
theorem dep_leaf (level : Int) (kind : Str) (sc : List Ent) (n : Int) : (leafG level kind sc n).depth ≤ 2 := by
  unfold leafG
  simp only
  split
  · simp [Tm.depth]
  · split
    · simp [Tm.depth]
    · split
      · simp [Tm.depth]
      · split
        · simp [Tm.depth]
        · have m := pick_mem (l := [.lift (.num (numberOf (n / 16))), .quote (.num (numberOf (n / 16)))]) (i := n / 16 % 2) (Int.emod_nonneg _ (by decide)) (Int.emod_lt_of_pos _ (by decide))
          revert m
          generalize pick _ _ = t
          intro m
          simp only [List.mem_cons, List.not_mem_nil, or_false] at m
          rcases m with rfl | rfl <;> simp [Tm.depth]
theorem dep_twice {s : List Int} {T : GenT} (G : DepT T) (sc : List Ent) (d : Nat) (n : Int) (st : St2) : (twiceG s T sc d n st).1.depth ≤ 4 + 6 * d := by
  unfold twiceG
  simp only [Tm.depth]
  have := G d 1 sNum (sc ++ [⟨xG s n, 1, [sNum]⟩]) false st
  split <;> simp only [Tm.depth] <;> omega
theorem dep_bound {s : List Int} {T : GenT} (G : DepT T) (word : Str) (level : Int) (kind : Str) (free : Bool) (sc : List Ent) (e : Nat) (n : Int) (st : St2) :
    (boundG s T word level kind free sc e n st).1.depth ≤ 8 + 6 * e := by
  unfold boundG
  simp only
  split
  · simp only [Tm.depth]
    have h1 : ∀ (c : Prop) [Decidable c] (a : St2) (v : Int) , (if c then T (e - 1) 1 sNum sc false a else (.num v, a)).1.depth ≤ 2 + 6 * (e - 1) := by
      intro c _ a v
      split
      · exact G _ _ _ _ _ _
      · simp only [Tm.depth]; omega
    have a1 := h1 (n / 2 / 16 % 2 = 0) st (numberOf (n / 2 / 18))
    have h2 : ∀ (c : Prop) [Decidable c] (sc : List Ent) (m : Int) (a : St2), (if c then twiceG s T sc (e - 2) m a else T (e - 1) 1 sNum sc false a).1.depth ≤ 4 + 6 * (e - 1) := by
      intro c _ sc m a
      split
      · have := dep_twice (s := s) G sc (e - 2) m a
        omega
      · have := G (e - 1) 1 sNum sc false a
        omega
    have a2 := h2 (n / 2 / 5000 % 2 = 0) (sc ++ [⟨xG s n, 1, [sNum]⟩] ++ [⟨fG s n, 0, [sPiece]⟩]) (n / 2 / 10000) (if n / 2 / 16 % 2 = 0 then T (e - 1) 1 sNum sc false st else (.num (numberOf (n / 2 / 18)), st)).2
    omega
  · split
    · simp only [Tm.depth]
      have a1 := G e level (kind2 (n / 16 % 2 * (1 - level))) sc free st
      have a2 := G e level kind (sc ++ [⟨xG s n, level, [kind2 (n / 16 % 2 * (1 - level))]⟩]) free (T e level (kind2 (n / 16 % 2 * (1 - level))) sc free st).2
      omega
    · split
      · simp only [Tm.depth]
        have a1 := G e level kind sc free st
        have a2 := G e level kind (sc ++ [⟨xG s n, level, [kind]⟩]) free (T e level kind sc free st).2
        omega
      · split
        · simp only [Tm.depth]
          have a1 := G e level ((nthE (seen sc level [[sNum, kind], [sPiece, kind]]) (n / 2 / 18)).kinds.getD 0 sNum) sc free st
          omega
        · simp only [Tm.depth]
          have a1 := G e level (kind2 (n / 2 / 18 % 2 * (1 - level))) (sc ++ [⟨xG s n, level, [kind2 (n / 16 % 2 * (1 - level))]⟩]) false st
          have a2 := G e level kind (sc ++ [⟨fG s n, level, [kind2 (n / 16 % 2 * (1 - level)), kind2 (n / 2 / 18 % 2 * (1 - level))]⟩]) free (T e level (kind2 (n / 2 / 18 % 2 * (1 - level))) (sc ++ [⟨xG s n, level, [kind2 (n / 16 % 2 * (1 - level))]⟩]) false st).2
          omega
theorem dep_term (s : List Int) : ∀ f, DepT (termF s f)
  | 0 => fun d level kind sc free st => by
    have := dep_leaf level kind sc (mixed s (st.1 + 1))
    rw [termF]
    simp only
    omega
  | f + 1 => fun d level kind sc free st => by
    have G := dep_term s f
    obtain ⟨k, c⟩ := st
    rw [termF_eq]
    split
    · have := dep_leaf level kind sc (mixed s (k + 1))
      simp only
      omega
    · rename_i hc
      have hd : d - 1 + 1 = d := by omega
      generalize mixed s (k + 1) / _ = n
      generalize (wordsG level kind free).getD _ _ = w
      generalize he : d - 1 = e at hd ⊢
      unfold stepG
      split
      · have := dep_bound (s := s) G w level kind free sc e n (k + 1, c + 1)
        omega
      · split
        · have := G e 1 sNum sc false (k + 1, c + 1)
          simp only [Tm.depth]; omega
        · split
          · have := G e 0 sPiece sc false (k + 1, c + 1)
            simp only [Tm.depth]; omega
          · split
            · have := G e 0 sNum sc free (k + 1, c + 1)
              simp only [Tm.depth]; omega
            · split
              · have := G e 0 sPiece sc free (k + 1, c + 1)
                simp only [Tm.depth]; omega
              · split
                · have a1 := G e level sNum sc free (k + 1, c + 1)
                  have a2 := G e level sNum sc free (termF s f e level sNum sc free (k + 1, c + 1)).2
                  simp only
                  split
                  · simp only [Tm.depth]; omega
                  · split
                    · simp only [Tm.depth]; omega
                    · simp only [Tm.depth]; omega
                · have a1 := G e level sNum sc free (k + 1, c + 1)
                  have a2 := G e level kind sc free (termF s f e level sNum sc free (k + 1, c + 1)).2
                  have a3 := G e level kind sc free (termF s f e level kind sc free (termF s f e level sNum sc free (k + 1, c + 1)).2).2
                  simp only [Tm.depth]; omega
end Qh
namespace Qh
open PySem PySem.Spec PyProof.Rows L2 Dq
section
variable (s : List Int) (T : GenT) (l : Int) (kind : Str) (fr : Bool) (sc : List Ent) (e : Nat) (n : Int) (st : St2)
abbrev othG (l n : Int) : Str := kind2 (n / 16 % 2 * (1 - l))
abbrev whoG (l n : Int) : Str := kind2 (n / 2 / 18 % 2 * (1 - l))
theorem bound_let : boundG s T (Str.ofString "let") l kind fr sc e n st = (.lett (xG s n) (T e l (othG l n) sc fr st).1 (T e l kind (sc ++ [⟨xG s n, l, [othG l n]⟩]) fr (T e l (othG l n) sc fr st).2).1, (T e l kind (sc ++ [⟨xG s n, l, [othG l n]⟩]) fr (T e l (othG l n) sc fr st).2).2) := by
  unfold boundG
  dsimp only
  rw [if_neg (by decide +kernel), if_pos rfl]
def manyG (e : Nat) (n : Int) : Int := if 1 < e then ([0, 1, 2, 3, 2, 3, 1, 9] : List Int).getD (n / 2 / 18 % 8).toNat 0 % 4 else ([0, 1, 2, 3, 2, 3, 1, 9] : List Int).getD (n / 2 / 18 % 8).toNat 0
theorem bound_turns : boundG s T (Str.ofString "turns") l kind fr sc e n st = (.turns (manyG e n) (xG s n) (T e l kind sc fr st).1 (T e l kind (sc ++ [⟨xG s n, l, [kind]⟩]) fr (T e l kind sc fr st).2).1, (T e l kind (sc ++ [⟨xG s n, l, [kind]⟩]) fr (T e l kind sc fr st).2).2) := by
  unfold boundG
  dsimp only
  rw [if_neg (by decide +kernel), if_neg (by decide +kernel), if_pos rfl]
  rfl
abbrev usesG (l : Int) (kind : Str) (sc : List Ent) : List Ent := seen sc l [[sNum, kind], [sPiece, kind]]
theorem bound_use (h : usesG l kind sc ≠ []) : boundG s T (Str.ofString "use") l kind fr sc e n st = (.use (nthE (usesG l kind sc) (n / 2 / 18)).name (T e l ((nthE (usesG l kind sc) (n / 2 / 18)).kinds.getD 0 sNum) sc fr st).1, (T e l ((nthE (usesG l kind sc) (n / 2 / 18)).kinds.getD 0 sNum) sc fr st).2) := by
  unfold boundG
  dsimp only
  rw [if_neg (by decide +kernel), if_neg (by decide +kernel), if_neg (by decide +kernel), if_pos ⟨rfl, h⟩]
theorem bound_def {w : Str} (hw : w = Str.ofString "def" ∨ w = Str.ofString "use" ∧ usesG l kind sc = []) : boundG s T w l kind fr sc e n st = (.defn (fG s n) (xG s n) (othG l n) (T e l (whoG l n) (sc ++ [⟨xG s n, l, [othG l n]⟩]) false st).1 (T e l kind (sc ++ [⟨fG s n, l, [othG l n, whoG l n]⟩]) fr (T e l (whoG l n) (sc ++ [⟨xG s n, l, [othG l n]⟩]) false st).2).1, (T e l kind (sc ++ [⟨fG s n, l, [othG l n, whoG l n]⟩]) fr (T e l (whoG l n) (sc ++ [⟨xG s n, l, [othG l n]⟩]) false st).2).2) := by
  unfold boundG
  dsimp only
  rcases hw with rfl | ⟨rfl, h⟩
  · rw [if_neg (by decide +kernel), if_neg (by decide +kernel), if_neg (by decide +kernel), if_neg fun z => absurd z.1 (by decide +kernel)]
  · rw [if_neg (by decide +kernel), if_neg (by decide +kernel), if_neg (by decide +kernel), if_neg fun z => z.2 h]
abbrev moreG (s : List Int) (sc : List Ent) (n : Int) : List Ent := sc ++ [⟨xG s n, 1, [sNum]⟩] ++ [⟨fG s n, 0, [sPiece]⟩]
def keptA (s : List Int) (T : GenT) (sc : List Ent) (e : Nat) (n : Int) (st : St2) : Tm × St2 := if n / 2 / 16 % 2 = 0 then T (e - 1) 1 sNum sc false st else (.num (numberOf (n / 2 / 18)), st)
def keptB (s : List Int) (T : GenT) (sc : List Ent) (e : Nat) (n : Int) (st : St2) : Tm × St2 := if n / 2 / 5000 % 2 = 0 then twiceG s T (moreG s sc n) (e - 2) (n / 2 / 10000) st else T (e - 1) 1 sNum (moreG s sc n) false st
theorem bound_kept : boundG s T wk l kind fr sc e n st = (.lett (xG s n) (keptA s T sc e n st).1 (.hole (.lett (fG s n) (.quote (.name (xG s n))) (.quote (keptB s T sc e n (keptA s T sc e n st).2).1))), (keptB s T sc e n (keptA s T sc e n st).2).2) := by
  unfold boundG
  dsimp only
  rw [if_pos rfl]
  rfl
end
theorem nth_str {l : List Str} {i : Int} (h : l ≠ []) : atI (l.map D.str) (i % (l.length : Int)) = some (.str (l.getD (i % l.length).toNat (Str.ofString ""))) := by
  have hl : 0 < l.length := by cases l with | nil => exact (h rfl).elim | cons a r => simp
  have h0 : 0 ≤ i % (l.length : Int) := Int.emod_nonneg _ (by omega)
  have h1 : i % (l.length : Int) < l.length := Int.emod_lt_of_pos _ (by omega)
  rw [atI_i h0, List.getElem?_map, List.getD_eq_getElem?_getD, List.getElem?_eq_getElem (by omega)]
  rfl
theorem nth_int {l : List Int} {i : Int} (h0 : 0 ≤ i) (h1 : i < l.length) : atI (l.map D.int) i = some (.int (l.getD i.toNat 0)) := by
  rw [atI_i h0, List.getElem?_map, List.getD_eq_getElem?_getD, List.getElem?_eq_getElem (by omega)]
  rfl
theorem emod4 (i : Int) : 0 ≤ i % 4 ∧ i % 4 < 4 := ⟨Int.emod_nonneg _ (by decide), Int.emod_lt_of_pos _ (by decide)⟩
theorem emod8 (i : Int) : 0 ≤ i % 8 ∧ i % 8 < 8 := ⟨Int.emod_nonneg _ (by decide), Int.emod_lt_of_pos _ (by decide)⟩
theorem ix_x (n : Int) : atI [D.int 0, D.int 0, D.int 1, D.int 2] (n % 4) = some (.int (([0, 0, 1, 2] : List Int).getD (n % 4).toNat 0)) := nth_int (l := [0, 0, 1, 2]) (emod4 n).1 (emod4 n).2
theorem ix_f (n : Int) : atI [D.int 1, D.int 2, D.int 1, D.int 0] (n % 4) = some (.int (([1, 2, 1, 0] : List Int).getD (n % 4).toNat 0)) := nth_int (l := [1, 2, 1, 0]) (emod4 n).1 (emod4 n).2
theorem ix_m (n : Int) : atI [D.int 0, D.int 1, D.int 2, D.int 3, D.int 2, D.int 3, D.int 1, D.int 9] (n % 8) = some (.int (([0, 1, 2, 3, 2, 3, 1, 9] : List Int).getD (n % 8).toNat 0)) := nth_int (l := [0, 1, 2, 3, 2, 3, 1, 9]) (emod8 n).1 (emod8 n).2
theorem ix_k {l : Int} (hl : l = 0 ∨ l = 1) (n : Int) : atI [D.str (Str.ofString "number"), D.str (Str.ofString "piece")] (n % 2 * (1 - l)) = some (.str (kind2 (n % 2 * (1 - l)))) := by
  rcases in2 (emod2 n).1 (emod2 n).2 with h | h <;> rcases hl with rfl | rfl <;> rw [h] <;> rfl
theorem gx (l : List Int) (h : ∀ z ∈ l, 0 ≤ z ∧ z < 100) (i : Nat) : 0 ≤ l.getD i 0 ∧ l.getD i 0 < 100 := by
  rw [List.getD_eq_getElem?_getD]
  cases e : l[i]? with
  | none => simp
  | some z => exact h z (List.mem_of_getElem? e)
end Qh

/- What the programs come to: values, names' values, the program's own way of going through a term. -/
namespace Qh
open PySem PySem.Spec PyProof.Rows L2 Dq
/-! ### names' dicts -/
section
variable {α : Type} (val : α → D)
abbrev keysG (e : List (Str × α)) : List Key := e.map fun p => (Sum.inr p.1 : Key)
def envG (e : List (Str × α)) : D := .dct (keysG e) (e.map fun p => val p.2)
def lkG (e : List (Str × α)) (x : Str) : Option α := (e.find? fun p => decide (p.1 = x)).map (·.2)
def putG (e : List (Str × α)) (x : Str) (v : α) : List (Str × α) := if (e.any fun p => decide (p.1 = x)) = true then e.map (fun p => if p.1 = x then (p.1, v) else p) else e ++ [(x, v)]
theorem valD_G (x : Str) : ∀ e : List (Str × α), valD (keysG e) (e.map fun p => val p.2) (.inr x) = (lkG e x).map val
  | [] => rfl
  | p :: r => by
    by_cases h : p.1 = x
    · simp [valD, lkG, keysG, h]
    · have := valD_G x r
      simp only [valD, lkG, keysG] at this ⊢
      simp [h, this]
theorem any_G (x : Str) : ∀ e : List (Str × α), ((keysG e).any fun c => decide (c = .inr x)) = e.any fun p => decide (p.1 = x)
  | [] => rfl
  | p :: r => by
    have h := any_G x r
    simp only [keysG] at h ⊢
    rw [List.map_cons, List.any_cons, List.any_cons, h]
    by_cases h : p.1 = x <;> simp [h]
theorem zip_G (x : Str) (v : α) : ∀ e : List (Str × α), ((keysG e).zip (e.map fun p => val p.2)).map (fun p => if p.1 = .inr x then val v else p.2) = (e.map (fun p => if p.1 = x then (p.1, v) else p)).map fun p => val p.2
  | [] => rfl
  | p :: r => by
    have h := zip_G x v r
    simp only [keysG] at h ⊢
    rw [List.map_cons, List.map_cons, List.zip_cons_cons, List.map_cons, h, List.map_cons, List.map_cons]
    by_cases h : p.1 = x <;> simp [h]
theorem keys_G (x : Str) (v : α) : ∀ e : List (Str × α), keysG (e.map (fun p => if p.1 = x then (p.1, v) else p)) = keysG e
  | [] => rfl
  | p :: r => by
    have h := keys_G x v r
    simp only [keysG] at h ⊢
    rw [List.map_cons, List.map_cons, h, List.map_cons]
    by_cases h : p.1 = x <;> simp [h]
theorem put_G (e : List (Str × α)) (x : Str) (v : α) : D.dct (putKs (keysG e) (.inr x)) (putDs (keysG e) (e.map fun p => val p.2) (.inr x) (val v)) = envG val (putG e x v) := by
  unfold putKs putDs putG envG
  rw [any_G]
  split
  · rw [zip_G, keys_G]
  · simp [keysG]
theorem putG_len (e : List (Str × α)) (x : Str) (v : α) : (putG e x v).length ≤ e.length + 1 := by
  unfold putG; split <;> simp
theorem lkG_cons (p : Str × α) (r : List (Str × α)) (y : Str) : lkG (p :: r) y = if p.1 = y then some p.2 else lkG r y := by
  by_cases h : p.1 = y <;> simp [lkG, h]
theorem lkG_map (x : Str) (v : α) (y : Str) : ∀ e : List (Str × α), lkG (e.map (fun p => if p.1 = x then (p.1, v) else p)) y = if y = x then (if (e.any fun p => decide (p.1 = x)) = true then some v else none) else lkG e y
  | [] => by simp [lkG]
  | p :: r => by
    rw [List.map_cons, lkG_cons, lkG_map x v y r, lkG_cons, List.any_cons]
    by_cases hp : p.1 = x
    · by_cases hy : y = x
      · simp [hp, hy]
      · have hy' : ¬ x = y := fun z => hy z.symm
        simp [hp, hy, hy']
    · by_cases hy : y = x
      · have hpy : ¬ p.1 = y := fun z => hp (z.trans hy)
        simp [hp, hy]
        rw [decide_eq_false hp, Bool.false_or]
      · by_cases hpy : p.1 = y
        · simp [hp, hy, hpy]
        · simp [hp, hy, hpy]
theorem lkG_put (e : List (Str × α)) (x : Str) (v : α) (y : Str) : lkG (putG e x v) y = if y = x then some v else lkG e y := by
  unfold putG
  split
  · rename_i h
    rw [lkG_map]
    simp [h]
  · rename_i h
    have hn : lkG e x = none := by
      simp only [lkG, Option.map_eq_none_iff, List.find?_eq_none]
      intro p hp
      simp only [List.any_eq_true, not_exists, not_and] at h
      exact h p hp
    simp only [lkG] at hn ⊢
    rw [List.find?_append]
    by_cases hy : y = x
    · subst hy
      cases q : e.find? fun p => decide (p.1 = y) with
      | none => simp
      | some z => rw [q] at hn; cases hn
    · have hy' : ¬ x = y := fun z => hy z.symm
      simp [hy, hy']
end
/-! ### values -/
inductive Vl where
  | num (n : Int) | pc (t : Tm) | fn (x : Str) (b : Tm) (e : List (Str × Vl)) | nm (x : Str)
abbrev VE := List (Str × Vl)
mutual
/-- as data; w: how a function is laid -/
def Vl.rp (w : List D → D) : Vl → D
  | .num n => .int n
  | .pc t => t.toD
  | .fn x b e => w [.str x, b.toD, .dct (keysG e) (Vl.rps w e)]
  | .nm x => .str x
def Vl.rps (w : List D → D) : List (Str × Vl) → List D
  | [] => []
  | (_, v) :: r => Vl.rp w v :: Vl.rps w r
end
theorem Vl.rps_map (w : List D → D) : ∀ e : VE, Vl.rps w e = e.map fun p => Vl.rp w p.2
  | [] => by rw [Vl.rps]; rfl
  | (x, v) :: r => by rw [Vl.rps, Vl.rps_map w r]; rfl
theorem Vl.rp_fn (w : List D → D) (x : Str) (b : Tm) (e : VE) : Vl.rp w (.fn x b e) = w [.str x, b.toD, envG (Vl.rp w) e] := by
  rw [Vl.rp, Vl.rps_map]; rfl
theorem Vl.rp_num (w : List D → D) (n : Int) : Vl.rp w (.num n) = .int n := by rw [Vl.rp]
theorem Vl.rp_pc (w : List D → D) (t : Tm) : Vl.rp w (.pc t) = t.toD := by rw [Vl.rp]
theorem Vl.rp_nm (w : List D → D) (x : Str) : Vl.rp w (.nm x) = .str x := by rw [Vl.rp]
/-- what a going-through comes to: nothing told; too great; a value -/
abbrev R (α : Type) := Option (Option α)
section
variable {α β : Type}
def bindR (x : R α) (f : α → R β) : R β := match x with
  | none => none
  | some none => some none
  | some (some a) => f a
theorem bindR_ok {x : R α} {f : α → R β} {b : β} (h : bindR x f = some (some b)) : ∃ a, x = some (some a) ∧ f a = some (some b) := by
  cases x with
  | none => cases h
  | some y =>
    cases y with
    | none => cases h
    | some a => exact ⟨a, rfl, h⟩
theorem bindR_great {x : R α} {f : α → R β} (h : bindR x f = some none) : x = some none ∨ ∃ a, x = some (some a) ∧ f a = some none := by
  cases x with
  | none => cases h
  | some y =>
    cases y with
    | none => exact .inl rfl
    | some a => exact .inr ⟨a, rfl, h⟩
def numR (v : Vl × Nat) (f : Int → Nat → R β) : R β := match v with
  | (.num i, k) => if 0 ≤ i ∧ i < 1000003 then f i k else none
  | _ => none
theorem numR_of {v : Vl × Nat} {f : Int → Nat → R β} {r : Option β} (h : numR v f = some r) : ∃ i k, v = (.num i, k) ∧ 0 ≤ i ∧ i < 1000003 ∧ f i k = some r := by
  match v, h with
  | (.num i, k), h =>
    unfold numR at h
    simp only at h
    split at h
    · rename_i c; exact ⟨i, k, rfl, c.1, c.2, h⟩
    · cases h
def pcR (v : Vl × Nat) (f : Tm → Nat → R β) : R β := match v with
  | (.pc p, k) => f p k
  | _ => none
theorem pcR_of {v : Vl × Nat} {f : Tm → Nat → R β} {r : Option β} (h : pcR v f = some r) : ∃ p k, v = (.pc p, k) ∧ f p k = some r := by
  match v, h with
  | (.pc p, k), h => exact ⟨p, k, rfl, h⟩
def onR (o : Option α) (f : α → R β) : R β := match o with
  | some a => f a
  | none => none
theorem onR_of {o : Option α} {f : α → R β} {r : Option β} (h : onR o f = some r) : ∃ a, o = some a ∧ f a = some r := by
  match o, h with
  | some a, h => exact ⟨a, rfl, h⟩
def chkR (c : Prop) [Decidable c] (x : R β) : R β := if c then x else none
theorem chkR_of {c : Prop} [Decidable c] {x : R β} {r : Option β} (h : chkR c x = some r) : c ∧ x = some r := by
  unfold chkR at h
  split at h
  · rename_i q; exact ⟨q, h⟩
  · cases h
end
def loopR (g : Vl → Nat → R (Vl × Nat)) : Nat → Vl → Nat → R (Vl × Nat)
  | 0, v, k => some (some (v, k))
  | n + 1, v, k => bindR (g v k) fun r => loopR g n r.1 r.2
def vN (k : Nat) : Str := Str.ofString "v" ++ (toString (k : Int))
def b2i (b : Bool) : Int := if b then 1 else 0
mutual
/-- the value of a term; the names' values; how many names are given -/
def evV : Nat → Tm → VE → Nat → R (Vl × Nat)
  | 0, _, _, _ => none
  | f + 1, t, ρ, k => match t with
    | .num n => some (some (.num (n % 1000003), k))
    | .name x => onR (lkG ρ x) fun v => some (some (v, k))
    | .sum a b => bindR (evV f a ρ k) fun v => numR v fun i k1 => bindR (evV f b ρ k1) fun w => numR w fun j k2 => some (some (.num ((i + j) % 1000003), k2))
    | .product a b => bindR (evV f a ρ k) fun v => numR v fun i k1 => bindR (evV f b ρ k1) fun w => numR w fun j k2 => some (some (.num (i * j % 1000003), k2))
    | .less a b => bindR (evV f a ρ k) fun v => numR v fun i k1 => bindR (evV f b ρ k1) fun w => numR w fun j k2 => some (some (.num (b2i (decide (i < j))), k2))
    | .when c a b => bindR (evV f c ρ k) fun v => numR v fun i k1 => if i ≠ 0 then evV f a ρ k1 else evV f b ρ k1
    | .lett x a b => bindR (evV f a ρ k) fun v => chkR (ρ.length ≤ 1000) (evV f b (putG ρ x v.1) v.2)
    | .turns n x a b => bindR (evV f a ρ k) fun v => chkR (0 ≤ n ∧ n ≤ 1000 ∧ ρ.length ≤ 1000) (loopR (fun u j => evV f b (putG ρ x u) j) n.toNat v.1 v.2)
    | .defn g x _ a b => chkR (ρ.length ≤ 1000) (evV f b (putG ρ g (.fn x a ρ)) k)
    | .use g a => bindR (evV f a ρ k) fun v => onR (lkG ρ g) fun u => match u with
      | .fn x b e => chkR (e.length ≤ 1000) (evV f b (putG e x v.1) v.2)
      | _ => none
    | .quote a => bindR (evP f a ρ k) fun p => chkR (p.1.depth ≤ 64) (if 2000 < p.1.size ∨ 30 < p.1.depth then some none else some (some (.pc p.1, p.2)))
    | .lift a => bindR (evV f a ρ k) fun v => numR v fun i k1 => some (some (.pc (.num i), k1))
    | .run a => bindR (evV f a ρ k) fun v => pcR v fun p k1 => evV f p [] k1
    | .hole _ => none
/-- the piece that a quoted term makes -/
def evP : Nat → Tm → VE → Nat → R (Tm × Nat)
  | 0, _, _, _ => none
  | f + 1, t, ρ, k => match t with
    | .num n => some (some (.num n, k))
    | .name x => onR (lkG ρ x) fun v => match v with
      | .nm y => some (some (.name y, k))
      | _ => none
    | .hole a => bindR (evV f a ρ k) fun v => pcR v fun p k1 => some (some (p, k1))
    | .lett x a b => chkR (k < 1000000 ∧ ρ.length ≤ 1000) (bindR (evP f a ρ (k + 1)) fun p => bindR (evP f b (putG ρ x (.nm (vN (k + 1)))) p.2) fun q => some (some (.lett (vN (k + 1)) p.1 q.1, q.2)))
    | .turns n x a b => chkR (k < 1000000 ∧ ρ.length ≤ 1000) (bindR (evP f a ρ (k + 1)) fun p => bindR (evP f b (putG ρ x (.nm (vN (k + 1)))) p.2) fun q => some (some (.turns n (vN (k + 1)) p.1 q.1, q.2)))
    | .defn g x _ a b => chkR (k < 1000000 ∧ ρ.length ≤ 1000) (bindR (evP f a (putG ρ x (.nm (vN (k + 2)))) (k + 2)) fun p => bindR (evP f b (putG ρ g (.nm (vN (k + 1)))) p.2) fun q => some (some (.defn (vN (k + 1)) (vN (k + 2)) (Str.ofString "number") p.1 q.1, q.2)))
    | .use g a => onR (lkG ρ g) fun v => match v with
      | .nm y => bindR (evP f a ρ k) fun p => some (some (.use y p.1, p.2))
      | _ => none
    | .sum a b => bindR (evP f a ρ k) fun p => bindR (evP f b ρ p.2) fun q => some (some (.sum p.1 q.1, q.2))
    | .product a b => bindR (evP f a ρ k) fun p => bindR (evP f b ρ p.2) fun q => some (some (.product p.1 q.1, q.2))
    | .less a b => bindR (evP f a ρ k) fun p => bindR (evP f b ρ p.2) fun q => some (some (.less p.1 q.1, q.2))
    | .when c a b => bindR (evP f c ρ k) fun o => bindR (evP f a ρ o.2) fun p => bindR (evP f b ρ p.2) fun q => some (some (.when o.1 p.1 q.1, q.2))
    | _ => none
end
end Qh

/- A piece that is too great, met outside of pieces. -/
namespace Qh
open PySem PySem.Spec PyProof.Rows L2 Dq
def loopG (g : Vl → Nat → R (Vl × Nat)) (gg : Vl → Nat → Prop) : Nat → Vl → Nat → Prop
  | 0, _, _ => False
  | n + 1, v, k => gg v k ∨ ∃ r, g v k = some (some r) ∧ loopG g gg n r.1 r.2
def evG : Nat → Tm → VE → Nat → Prop
  | 0, _, _, _ => False
  | f + 1, t, ρ, k => match t with
    | .quote a => ∃ p, evP f a ρ k = some (some p) ∧ p.1.depth ≤ 64 ∧ (2000 < p.1.size ∨ 30 < p.1.depth)
    | .lett x a b => evG f a ρ k ∨ ∃ v, evV f a ρ k = some (some v) ∧ ρ.length ≤ 1000 ∧ evG f b (putG ρ x v.1) v.2
    | .turns n x a b => evG f a ρ k ∨ ∃ v, evV f a ρ k = some (some v) ∧ (0 ≤ n ∧ n ≤ 1000 ∧ ρ.length ≤ 1000) ∧ loopG (fun u j => evV f b (putG ρ x u) j) (fun u j => evG f b (putG ρ x u) j) n.toNat v.1 v.2
    | .run a => evG f a ρ k
    | _ => False
end Qh

/- What a program comes to with all stages passed over, as the laws work it out. -/
namespace Qh
open PySem PySem.Spec PyProof.Rows L2 Dq
section
variable {α β : Type}
def onO (o : Option α) (f : α → Option β) : Option β := match o with
  | some a => f a
  | none => none
theorem onO_of {o : Option α} {f : α → Option β} {r : β} (h : onO o f = some r) : ∃ a, o = some a ∧ f a = some r := by
  match o, h with
  | some a, h => exact ⟨a, rfl, h⟩
def numO (v : Vl) (f : Int → Option β) : Option β := match v with
  | .num i => if 0 ≤ i ∧ i < 1000003 then f i else none
  | _ => none
theorem numO_of {v : Vl} {f : Int → Option β} {r : β} (h : numO v f = some r) : ∃ i, v = .num i ∧ 0 ≤ i ∧ i < 1000003 ∧ f i = some r := by
  match v, h with
  | .num i, h =>
    unfold numO at h
    simp only at h
    split at h
    · rename_i c; exact ⟨i, rfl, c.1, c.2, h⟩
    · cases h
def chkO (c : Prop) [Decidable c] (x : Option β) : Option β := if c then x else none
theorem chkO_of {c : Prop} [Decidable c] {x : Option β} {r : β} (h : chkO c x = some r) : c ∧ x = some r := by
  unfold chkO at h
  split at h
  · rename_i q; exact ⟨q, h⟩
  · cases h
theorem numO_ok {i : Int} {f : Int → Option β} (h0 : 0 ≤ i) (h1 : i < 1000003) : numO (.num i) f = f i := by
  unfold numO; simp only; rw [if_pos ⟨h0, h1⟩]
theorem chkO_ok {c : Prop} [Decidable c] {x : Option β} (h : c) : chkO c x = x := by unfold chkO; rw [if_pos h]
end
def loopO (g : Vl → Option Vl) : Nat → Vl → Option Vl
  | 0, v => some v
  | n + 1, v => onO (g v) fun u => loopO g n u
def evW : Nat → Tm → VE → Option Vl
  | 0, _, _ => none
  | f + 1, t, ρ => match t with
    | .num n => some (.num (n % 1000003))
    | .name x => lkG ρ x
    | .quote a => evW f a ρ
    | .hole a => evW f a ρ
    | .lift a => evW f a ρ
    | .run a => evW f a ρ
    | .sum a b => onO (evW f a ρ) fun v => numO v fun i => onO (evW f b ρ) fun w => numO w fun j => some (.num ((i + j) % 1000003))
    | .product a b => onO (evW f a ρ) fun v => numO v fun i => onO (evW f b ρ) fun w => numO w fun j => some (.num (i * j % 1000003))
    | .less a b => onO (evW f a ρ) fun v => numO v fun i => onO (evW f b ρ) fun w => numO w fun j => some (.num (b2i (decide (i < j))))
    | .when c a b => onO (evW f c ρ) fun v => numO v fun i => if i ≠ 0 then evW f a ρ else evW f b ρ
    | .lett x a b => onO (evW f a ρ) fun v => chkO (ρ.length ≤ 1000) (evW f b (putG ρ x v))
    | .turns n x a b => onO (evW f a ρ) fun v => chkO (0 ≤ n ∧ n ≤ 1000 ∧ ρ.length ≤ 1000) (loopO (fun u => evW f b (putG ρ x u)) n.toNat v)
    | .defn g x _ a b => chkO (ρ.length ≤ 1000) (evW f b (putG ρ g (.fn x a ρ)))
    | .use g a => onO (evW f a ρ) fun v => onO (lkG ρ g) fun u => match u with
      | .fn x b e => chkO (e.length ≤ 1000) (evW f b (putG e x v))
      | _ => none
/-! ### terms without stages: the program's own way comes to the same -/
def Tm.flat : Tm → Bool
  | .num _ => true | .name _ => true
  | .sum a b => a.flat && b.flat | .product a b => a.flat && b.flat | .less a b => a.flat && b.flat | .when c a b => c.flat && (a.flat && b.flat)
  | .lett _ a b => a.flat && b.flat | .turns _ _ a b => a.flat && b.flat | .defn _ _ _ a b => a.flat && b.flat | .use _ a => a.flat
  | .quote _ => false | .hole _ => false | .lift _ => false | .run _ => false
mutual
def Vl.flat : Vl → Prop
  | .num _ => True
  | .pc _ => True
  | .fn _ b e => b.flat = true ∧ Vl.flats e
  | .nm _ => True
def Vl.flats : List (Str × Vl) → Prop
  | [] => True
  | (_, v) :: r => Vl.flat v ∧ Vl.flats r
end
theorem flats_iff : ∀ e : VE, Vl.flats e ↔ ∀ p ∈ e, Vl.flat p.2
  | [] => by rw [Vl.flats]; simp
  | (x, v) :: r => by rw [Vl.flats, flats_iff r]; simp
theorem flats_put {e : VE} (h : Vl.flats e) (x : Str) {v : Vl} (hv : Vl.flat v) : Vl.flats (putG e x v) := by
  rw [flats_iff] at h ⊢
  unfold putG
  split
  · intro p hp
    obtain ⟨q, hq, rfl⟩ := List.mem_map.mp hp
    split
    · exact hv
    · exact h q hq
  · intro p hp
    rcases List.mem_append.mp hp with hp | hp
    · exact h p hp
    · rw [List.mem_singleton.mp hp]; exact hv
theorem lkG_mem {α : Type} {e : List (Str × α)} {x : Str} {v : α} (h : lkG e x = some v) : ∃ p ∈ e, p.2 = v := by
  unfold lkG at h
  cases q : e.find? fun p => decide (p.1 = x) with
  | none => rw [q] at h; cases h
  | some p =>
    rw [q] at h
    exact ⟨p, List.mem_of_find?_eq_some q, by simpa using h⟩
theorem flats_get {e : VE} (h : Vl.flats e) {x : Str} {v : Vl} (hv : lkG e x = some v) : Vl.flat v := by
  obtain ⟨p, hp, rfl⟩ := lkG_mem hv
  exact (flats_iff e).mp h p hp
theorem bindR_some {α β : Type} {a : α} {f : α → R β} : bindR (some (some a)) f = f a := rfl
theorem numR_some {β : Type} {i : Int} {k : Nat} {f : Int → Nat → R β} (h0 : 0 ≤ i) (h1 : i < 1000003) : numR (.num i, k) f = f i k := by
  unfold numR; simp only; rw [if_pos ⟨h0, h1⟩]
theorem chkR_some {c : Prop} [Decidable c] {β : Type} {x : R β} (h : c) : chkR c x = x := by unfold chkR; rw [if_pos h]
def FlatAt (f : Nat) : Prop := ∀ (t : Tm) (ρ : VE) (v : Vl), t.flat = true → Vl.flats ρ → evW f t ρ = some v → Vl.flat v ∧ ∀ k, evV f t ρ k = some (some (v, k))
theorem flat_loop {f : Nat} (G : FlatAt f) {b : Tm} (hb : b.flat = true) {ρ : VE} (hρ : Vl.flats ρ) {x : Str} : ∀ (n : Nat) (u v : Vl), Vl.flat u → loopO (fun u => evW f b (putG ρ x u)) n u = some v → Vl.flat v ∧ ∀ k, loopR (fun u j => evV f b (putG ρ x u) j) n u k = some (some (v, k))
  | 0, u, v, hu, h => by cases h; exact ⟨hu, fun k => rfl⟩
  | n + 1, u, v, hu, h => by
    obtain ⟨w, hw, h⟩ := onO_of h
    obtain ⟨fw, ew⟩ := G b _ w hb (flats_put hρ x hu) hw
    obtain ⟨fv, ev⟩ := flat_loop G hb hρ n w v fw h
    refine ⟨fv, fun k => ?_⟩
    rw [loopR, ew k]
    exact ev k
theorem flat_ev : ∀ f : Nat, FlatAt f
  | 0 => fun t ρ v _ _ h => by cases h
  | f + 1 => fun t ρ v ht hρ h => by
    have G := flat_ev f
    cases t <;> simp only [Tm.flat, Bool.and_eq_true, Bool.false_eq_true] at ht <;> simp only [evW] at h
    case num n => cases h; exact ⟨by rw [Vl.flat]; trivial, fun k => by rw [evV]⟩
    case name x => exact ⟨flats_get hρ h, fun k => by rw [evV]; simp only [h, onR]⟩
    case sum a b =>
      obtain ⟨va, ha, h⟩ := onO_of h
      obtain ⟨i, rfl, i0, i1, hh⟩ := numO_of h
      obtain ⟨vb, hb, hh⟩ := onO_of hh
      obtain ⟨j, rfl, j0, j1, hh⟩ := numO_of hh
      cases hh
      exact ⟨by rw [Vl.flat]; trivial, fun k => by rw [evV]; simp only [(G a ρ _ ht.1 hρ ha).2, (G b ρ _ ht.2 hρ hb).2, bindR_some, numR_some i0 i1, numR_some j0 j1]⟩
    case product a b =>
      obtain ⟨va, ha, h⟩ := onO_of h
      obtain ⟨i, rfl, i0, i1, hh⟩ := numO_of h
      obtain ⟨vb, hb, hh⟩ := onO_of hh
      obtain ⟨j, rfl, j0, j1, hh⟩ := numO_of hh
      cases hh
      exact ⟨by rw [Vl.flat]; trivial, fun k => by rw [evV]; simp only [(G a ρ _ ht.1 hρ ha).2, (G b ρ _ ht.2 hρ hb).2, bindR_some, numR_some i0 i1, numR_some j0 j1]⟩
    case less a b =>
      obtain ⟨va, ha, h⟩ := onO_of h
      obtain ⟨i, rfl, i0, i1, hh⟩ := numO_of h
      obtain ⟨vb, hb, hh⟩ := onO_of hh
      obtain ⟨j, rfl, j0, j1, hh⟩ := numO_of hh
      cases hh
      exact ⟨by rw [Vl.flat]; trivial, fun k => by rw [evV]; simp only [(G a ρ _ ht.1 hρ ha).2, (G b ρ _ ht.2 hρ hb).2, bindR_some, numR_some i0 i1, numR_some j0 j1]⟩
    case when c a b =>
      obtain ⟨va, ha, h⟩ := onO_of h
      obtain ⟨i, rfl, i0, i1, hh⟩ := numO_of h
      split at hh
      · rename_i c1
        have q := G a ρ _ ht.2.1 hρ hh
        exact ⟨q.1, fun k => by rw [evV]; simp only [(G c ρ _ ht.1 hρ ha).2, bindR_some, numR_some i0 i1]; rw [if_pos c1]; exact q.2 k⟩
      · rename_i c1
        have q := G b ρ _ ht.2.2 hρ hh
        exact ⟨q.1, fun k => by rw [evV]; simp only [(G c ρ _ ht.1 hρ ha).2, bindR_some, numR_some i0 i1]; rw [if_neg c1]; exact q.2 k⟩
    case lett x a b =>
      obtain ⟨va, ha, h⟩ := onO_of h
      obtain ⟨hl, h⟩ := chkO_of h
      have qa := G a ρ _ ht.1 hρ ha
      have q := G b _ _ ht.2 (flats_put hρ x qa.1) h
      exact ⟨q.1, fun k => by rw [evV]; simp only [qa.2, bindR_some, chkR_some hl]; exact q.2 k⟩
    case turns n x a b =>
      obtain ⟨va, ha, h⟩ := onO_of h
      obtain ⟨hl, h⟩ := chkO_of h
      have qa := G a ρ _ ht.1 hρ ha
      have q := flat_loop G ht.2 hρ n.toNat va v qa.1 h
      exact ⟨q.1, fun k => by rw [evV]; simp only [qa.2, bindR_some, chkR_some hl]; exact q.2 k⟩
    case defn g x m a b =>
      obtain ⟨hl, h⟩ := chkO_of h
      have q := G b _ _ ht.2 (flats_put hρ g (v := .fn x a ρ) (by rw [Vl.flat]; exact ⟨ht.1, hρ⟩)) h
      exact ⟨q.1, fun k => by rw [evV]; simp only [chkR_some hl]; exact q.2 k⟩
    case use g a =>
      obtain ⟨va, ha, h⟩ := onO_of h
      obtain ⟨u, hu, h⟩ := onO_of h
      have qa := G a ρ _ ht hρ ha
      cases u with
      | fn x b e =>
        obtain ⟨hl, h⟩ := chkO_of h
        have fu := flats_get hρ hu
        rw [Vl.flat] at fu
        have q := G b _ _ fu.1 (flats_put fu.2 x qa.1) h
        exact ⟨q.1, fun k => by rw [evV]; simp only [qa.2, bindR_some, hu, onR, chkR_some hl]; exact q.2 k⟩
      | num _ => cases h
      | pc _ => cases h
      | nm _ => cases h
/-! ### it comes to something -/
abbrev Gm := Str → Option Nat
def setN (Γ : Gm) (x : Str) (n : Nat) : Gm := fun y => if y = x then some n else Γ y
/-- names of values and of functions, each where it belongs; turns few -/
def WT : Tm → Gm → Prop
  | .num _, _ => True
  | .name x, Γ => Γ x = some 1
  | .sum a b, Γ => WT a Γ ∧ WT b Γ
  | .product a b, Γ => WT a Γ ∧ WT b Γ
  | .less a b, Γ => WT a Γ ∧ WT b Γ
  | .when c a b, Γ => WT c Γ ∧ WT a Γ ∧ WT b Γ
  | .lett x a b, Γ => WT a Γ ∧ WT b (setN Γ x 1)
  | .turns n x a b, Γ => (0 ≤ n ∧ n ≤ 9) ∧ WT a Γ ∧ WT b (setN Γ x 1)
  | .defn g x _ a b, Γ => WT a (setN Γ x 1) ∧ WT b (setN Γ g 2)
  | .use g a, Γ => Γ g = some 2 ∧ WT a Γ
  | .quote a, Γ => WT a Γ
  | .hole a, Γ => WT a Γ
  | .lift a, Γ => WT a Γ
  | .run a, Γ => WT a Γ
/-- how long it goes through -/
def Tm.wd : Tm → Nat
  | .num _ => 1 | .name _ => 1
  | .sum a b => 1 + max a.wd b.wd | .product a b => 1 + max a.wd b.wd | .less a b => 1 + max a.wd b.wd | .when c a b => 1 + max c.wd (max a.wd b.wd)
  | .lett _ a b => 1 + max a.wd b.wd | .turns _ _ a b => 1 + max a.wd b.wd | .defn _ _ _ a b => 1 + (a.wd + b.wd) | .use _ a => 1 + a.wd
  | .quote a => 1 + a.wd | .hole a => 1 + a.wd | .lift a => 1 + a.wd | .run a => 1 + a.wd
def isN (v : Vl) : Prop := ∃ i, v = .num i ∧ 0 ≤ i ∧ i < 1000003
/-- the names' values are what the names are told to be; each function comes to a number within B -/
def EnvW (B : Nat) (Γ : Gm) (ρ : VE) : Prop := (∀ x, Γ x = some 1 → ∃ v, lkG ρ x = some v ∧ isN v) ∧
  ∀ x, Γ x = some 2 → ∃ y b e, lkG ρ x = some (.fn y b e) ∧ e.length ≤ 1000 ∧ ∀ f, B ≤ f → ∀ v, isN v → ∃ u, evW f b (putG e y v) = some u ∧ isN u
theorem EnvW.val {B : Nat} {Γ : Gm} {ρ : VE} (E : EnvW B Γ ρ) {x : Str} {v : Vl} (hv : isN v) : EnvW B (setN Γ x 1) (putG ρ x v) := by
  refine ⟨fun y h => ?_, fun y h => ?_⟩
  · rw [lkG_put]
    unfold setN at h
    by_cases e : y = x
    · rw [if_pos e]; exact ⟨v, rfl, hv⟩
    · rw [if_neg e] at h ⊢; exact E.1 y h
  · rw [lkG_put]
    unfold setN at h
    by_cases e : y = x
    · rw [if_pos e] at h; cases h
    · rw [if_neg e] at h ⊢; exact E.2 y h
theorem EnvW.up {B C : Nat} {Γ : Gm} {ρ : VE} (E : EnvW B Γ ρ) (h : B ≤ C) : EnvW C Γ ρ :=
  ⟨E.1, fun x hx => by
    obtain ⟨y, b, e, h1, h2, h3⟩ := E.2 x hx
    exact ⟨y, b, e, h1, h2, fun f hf => h3 f (by omega)⟩⟩
theorem EnvW.fun {B : Nat} {Γ : Gm} {ρ : VE} (E : EnvW B Γ ρ) {g x : Str} {a : Tm} (hl : ρ.length ≤ 1000) (hf : ∀ f, B ≤ f → ∀ v, isN v → ∃ u, evW f a (putG ρ x v) = some u ∧ isN u) : EnvW B (setN Γ g 2) (putG ρ g (.fn x a ρ)) := by
  refine ⟨fun y h => ?_, fun y h => ?_⟩
  · rw [lkG_put]
    unfold setN at h
    by_cases e : y = g
    · rw [if_pos e] at h; cases h
    · rw [if_neg e] at h ⊢; exact E.1 y h
  · rw [lkG_put]
    unfold setN at h
    by_cases e : y = g
    · rw [if_pos e]; exact ⟨x, a, ρ, rfl, hl, hf⟩
    · rw [if_neg e] at h ⊢; exact E.2 y h
theorem isN_mod (i : Int) : isN (.num (i % 1000003)) := ⟨_, rfl, Int.emod_nonneg _ (by decide), Int.emod_lt_of_pos _ (by decide)⟩
theorem isN_b (b : Bool) : isN (.num (b2i b)) := by cases b <;> exact ⟨_, rfl, by decide, by decide⟩
theorem tot_loop {g : Vl → Option Vl} (h : ∀ v, isN v → ∃ u, g v = some u ∧ isN u) : ∀ (n : Nat) (v : Vl), isN v → ∃ u, loopO g n v = some u ∧ isN u
  | 0, v, hv => ⟨v, rfl, hv⟩
  | n + 1, v, hv => by
    obtain ⟨u, hu, iu⟩ := h v hv
    obtain ⟨r, hr, ir⟩ := tot_loop h n u iu
    exact ⟨r, by rw [loopO, hu]; exact hr, ir⟩
theorem tot : ∀ (t : Tm) (Γ : Gm) (ρ : VE) (B f : Nat), WT t Γ → EnvW B Γ ρ → ρ.length + t.depth ≤ 1000 → B + t.wd ≤ f → ∃ v, evW f t ρ = some v ∧ isN v := by
  intro t
  induction t with
  | num n =>
    intro Γ ρ B f hw E hl hf
    obtain ⟨f, rfl⟩ : ∃ g, f = g + 1 := ⟨f - 1, by simp only [Tm.wd] at hf; omega⟩
    exact ⟨_, by rw [evW], isN_mod n⟩
  | name x =>
    intro Γ ρ B f hw E hl hf
    obtain ⟨f, rfl⟩ : ∃ g, f = g + 1 := ⟨f - 1, by simp only [Tm.wd] at hf; omega⟩
    obtain ⟨v, hv, iv⟩ := E.1 x hw
    exact ⟨v, by rw [evW]; exact hv, iv⟩
  | sum a b iha ihb =>
    intro Γ ρ B f hw E hl hf
    simp only [Tm.wd] at hf
    simp only [Tm.depth] at hl
    obtain ⟨f, rfl⟩ : ∃ g, f = g + 1 := ⟨f - 1, by omega⟩
    obtain ⟨_, ha, i, rfl, i0, i1⟩ := iha Γ ρ B f hw.1 E (by omega) (by omega)
    obtain ⟨_, hb, j, rfl, j0, j1⟩ := ihb Γ ρ B f hw.2 E (by omega) (by omega)
    exact ⟨.num ((i + j) % 1000003), by simp only [evW, ha, onO, numO_ok i0 i1, hb, numO_ok j0 j1], isN_mod _⟩
  | product a b iha ihb =>
    intro Γ ρ B f hw E hl hf
    simp only [Tm.wd] at hf
    simp only [Tm.depth] at hl
    obtain ⟨f, rfl⟩ : ∃ g, f = g + 1 := ⟨f - 1, by omega⟩
    obtain ⟨_, ha, i, rfl, i0, i1⟩ := iha Γ ρ B f hw.1 E (by omega) (by omega)
    obtain ⟨_, hb, j, rfl, j0, j1⟩ := ihb Γ ρ B f hw.2 E (by omega) (by omega)
    exact ⟨.num (i * j % 1000003), by simp only [evW, ha, onO, numO_ok i0 i1, hb, numO_ok j0 j1], isN_mod _⟩
  | less a b iha ihb =>
    intro Γ ρ B f hw E hl hf
    simp only [Tm.wd] at hf
    simp only [Tm.depth] at hl
    obtain ⟨f, rfl⟩ : ∃ g, f = g + 1 := ⟨f - 1, by omega⟩
    obtain ⟨_, ha, i, rfl, i0, i1⟩ := iha Γ ρ B f hw.1 E (by omega) (by omega)
    obtain ⟨_, hb, j, rfl, j0, j1⟩ := ihb Γ ρ B f hw.2 E (by omega) (by omega)
    exact ⟨.num (b2i (decide (i < j))), by simp only [evW, ha, onO, numO_ok i0 i1, hb, numO_ok j0 j1], isN_b _⟩
  | when c a b ihc iha ihb =>
    intro Γ ρ B f hw E hl hf
    simp only [Tm.wd] at hf
    simp only [Tm.depth] at hl
    obtain ⟨f, rfl⟩ : ∃ g, f = g + 1 := ⟨f - 1, by omega⟩
    obtain ⟨_, hc, i, rfl, i0, i1⟩ := ihc Γ ρ B f hw.1 E (by omega) (by omega)
    by_cases h : i ≠ 0
    · obtain ⟨v, ha, iv⟩ := iha Γ ρ B f hw.2.1 E (by omega) (by omega)
      exact ⟨v, by simp only [evW, hc, onO, numO_ok i0 i1]; rw [if_pos h]; exact ha, iv⟩
    · obtain ⟨v, ha, iv⟩ := ihb Γ ρ B f hw.2.2 E (by omega) (by omega)
      exact ⟨v, by simp only [evW, hc, onO, numO_ok i0 i1]; rw [if_neg h]; exact ha, iv⟩
  | lett x a b iha ihb =>
    intro Γ ρ B f hw E hl hf
    simp only [Tm.wd] at hf
    simp only [Tm.depth] at hl
    obtain ⟨f, rfl⟩ : ∃ g, f = g + 1 := ⟨f - 1, by omega⟩
    obtain ⟨u, ha, iu⟩ := iha Γ ρ B f hw.1 E (by omega) (by omega)
    have pl := putG_len ρ x u
    obtain ⟨v, hb, iv⟩ := ihb _ _ B f hw.2 (E.val iu) (by omega) (by omega)
    exact ⟨v, by simp only [evW, ha, onO]; rw [chkO_ok (by omega)]; exact hb, iv⟩
  | turns n x a b iha ihb =>
    intro Γ ρ B f hw E hl hf
    simp only [Tm.wd] at hf
    simp only [Tm.depth] at hl
    obtain ⟨f, rfl⟩ : ∃ g, f = g + 1 := ⟨f - 1, by omega⟩
    obtain ⟨u, ha, iu⟩ := iha Γ ρ B f hw.2.1 E (by omega) (by omega)
    obtain ⟨v, hv, iv⟩ := tot_loop (g := fun u => evW f b (putG ρ x u)) (fun u iu => ihb _ _ B f hw.2.2 (E.val iu) (by have := putG_len ρ x u; omega) (by omega)) n.toNat u iu
    have h9 := hw.1
    exact ⟨v, by simp only [evW, ha, onO]; rw [chkO_ok ⟨h9.1, by omega, by omega⟩]; exact hv, iv⟩
  | defn g x m a b iha ihb =>
    intro Γ ρ B f hw E hl hf
    simp only [Tm.wd] at hf
    simp only [Tm.depth] at hl
    obtain ⟨f, rfl⟩ : ∃ g, f = g + 1 := ⟨f - 1, by omega⟩
    have pl := putG_len ρ g (.fn x a ρ)
    obtain ⟨v, hb, iv⟩ := ihb _ _ (B + a.wd) f hw.2 ((E.up (by omega)).fun (g := g) (by omega) fun f hf v iv => iha _ _ B f hw.1 (E.val iv) (by have := putG_len ρ x v; omega) hf) (by omega) (by omega)
    exact ⟨v, by simp only [evW]; rw [chkO_ok (by omega)]; exact hb, iv⟩
  | use g a iha =>
    intro Γ ρ B f hw E hl hf
    simp only [Tm.wd] at hf
    simp only [Tm.depth] at hl
    obtain ⟨f, rfl⟩ : ∃ g, f = g + 1 := ⟨f - 1, by omega⟩
    obtain ⟨u, ha, iu⟩ := iha Γ ρ B f hw.2 E (by omega) (by omega)
    obtain ⟨y, b, e, h1, h2, h3⟩ := E.2 g hw.1
    obtain ⟨v, hv, iv⟩ := h3 f (by omega) u iu
    exact ⟨v, by simp only [evW, ha, onO, h1]; rw [chkO_ok h2]; exact hv, iv⟩
  | quote a ih =>
    intro Γ ρ B f hw E hl hf
    simp only [Tm.wd] at hf
    simp only [Tm.depth] at hl
    obtain ⟨f, rfl⟩ : ∃ g, f = g + 1 := ⟨f - 1, by omega⟩
    obtain ⟨v, hv, iv⟩ := ih Γ ρ B f hw E (by omega) (by omega)
    exact ⟨v, by rw [evW]; exact hv, iv⟩
  | hole a ih =>
    intro Γ ρ B f hw E hl hf
    simp only [Tm.wd] at hf
    simp only [Tm.depth] at hl
    obtain ⟨f, rfl⟩ : ∃ g, f = g + 1 := ⟨f - 1, by omega⟩
    obtain ⟨v, hv, iv⟩ := ih Γ ρ B f hw E (by omega) (by omega)
    exact ⟨v, by rw [evW]; exact hv, iv⟩
  | lift a ih =>
    intro Γ ρ B f hw E hl hf
    simp only [Tm.wd] at hf
    simp only [Tm.depth] at hl
    obtain ⟨f, rfl⟩ : ∃ g, f = g + 1 := ⟨f - 1, by omega⟩
    obtain ⟨v, hv, iv⟩ := ih Γ ρ B f hw E (by omega) (by omega)
    exact ⟨v, by rw [evW]; exact hv, iv⟩
  | run a ih =>
    intro Γ ρ B f hw E hl hf
    simp only [Tm.wd] at hf
    simp only [Tm.depth] at hl
    obtain ⟨f, rfl⟩ : ∃ g, f = g + 1 := ⟨f - 1, by omega⟩
    obtain ⟨v, hv, iv⟩ := ih Γ ρ B f hw E (by omega) (by omega)
    exact ⟨v, by rw [evW]; exact hv, iv⟩
end Qh

/- The generator's programs: their turns, how long they go; without stages; their cost. -/
namespace Qh
open PySem PySem.Spec PyProof.Rows L2 Dq
def Tm.tOk : Tm → Prop
  | .num _ => True | .name _ => True
  | .sum a b => a.tOk ∧ b.tOk | .product a b => a.tOk ∧ b.tOk | .less a b => a.tOk ∧ b.tOk | .when c a b => c.tOk ∧ a.tOk ∧ b.tOk
  | .lett _ a b => a.tOk ∧ b.tOk | .turns n _ a b => (0 ≤ n ∧ n ≤ 9) ∧ a.tOk ∧ b.tOk | .defn _ _ _ a b => a.tOk ∧ b.tOk | .use _ a => a.tOk
  | .quote a => a.tOk | .hole a => a.tOk | .lift a => a.tOk | .run a => a.tOk
def ar (ρ : Rho) : Gm := fun x => (ρ x).map fun v => v.2.length
theorem ar_set (ρ : Rho) (x : Str) (l : Int) (ks : List Str) : ar (setR ρ x (l, ks)) = setN (ar ρ) x ks.length := by
  funext y
  unfold ar setR setN
  by_cases h : y = x <;> simp [h]
theorem kind_wt : ∀ (t : Tm) (l : Int) (ρ : Rho) (fr : Bool) (k : Str), kindT t l ρ fr = some k → t.tOk → WT t (ar ρ) := by
  intro t
  induction t with
  | num n => intro l ρ fr k h ht; trivial
  | name x =>
    intro l ρ fr k h ht
    rw [kindT] at h
    split at h
    · rename_i l2 k2 e
      show ar ρ x = some 1
      unfold ar; rw [e]; rfl
    · cases h
  | sum a b iha ihb => intro l ρ fr k h ht; rw [kindT] at h; split at h; (· rename_i c; exact ⟨iha _ _ _ _ c.1 ht.1, ihb _ _ _ _ c.2 ht.2⟩); (· cases h)
  | product a b iha ihb => intro l ρ fr k h ht; rw [kindT] at h; split at h; (· rename_i c; exact ⟨iha _ _ _ _ c.1 ht.1, ihb _ _ _ _ c.2 ht.2⟩); (· cases h)
  | less a b iha ihb => intro l ρ fr k h ht; rw [kindT] at h; split at h; (· rename_i c; exact ⟨iha _ _ _ _ c.1 ht.1, ihb _ _ _ _ c.2 ht.2⟩); (· cases h)
  | when c a b ihc iha ihb => intro l ρ fr k h ht; rw [kindT] at h; split at h; (· rename_i q; exact ⟨ihc _ _ _ _ q.1 ht.1, iha _ _ _ _ h ht.2.1, ihb _ _ _ _ (q.2.trans h) ht.2.2⟩); (· cases h)
  | lett x a b iha ihb =>
    intro l ρ fr k h ht
    rw [kindT] at h
    split at h
    · rename_i k1 h1
      have := ihb _ _ _ _ h ht.2
      rw [ar_set] at this
      exact ⟨iha _ _ _ _ h1 ht.1, this⟩
    · cases h
  | turns n x a b iha ihb =>
    intro l ρ fr k h ht
    rw [kindT] at h
    split at h
    · rename_i k1 h1
      split at h
      · rename_i h2
        have := ihb _ _ _ _ h2 ht.2.2
        rw [ar_set] at this
        exact ⟨ht.1, iha _ _ _ _ h1 ht.2.1, this⟩
      · cases h
    · cases h
  | defn g x m a b iha ihb =>
    intro l ρ fr k h ht
    rw [kindT] at h
    split at h
    · cases h
    · split at h
      · rename_i k1 h1
        have q1 := iha _ _ _ _ h1 ht.1
        have q2 := ihb _ _ _ _ h ht.2
        rw [ar_set] at q1 q2
        exact ⟨q1, q2⟩
      · cases h
  | use g a iha =>
    intro l ρ fr k h ht
    rw [kindT] at h
    split at h
    · rename_i l2 k1 k2 e
      split at h
      · rename_i c
        refine ⟨?_, iha _ _ _ _ c.2 ht⟩
        unfold ar; rw [e]; rfl
      · cases h
    · cases h
  | quote a ih => intro l ρ fr k h ht; rw [kindT] at h; split at h; (· rename_i c; exact ih _ _ _ _ c.2 ht); (· cases h)
  | hole a ih => intro l ρ fr k h ht; rw [kindT] at h; split at h; (· rename_i c; exact ih _ _ _ _ c.2 ht); (· cases h)
  | lift a ih => intro l ρ fr k h ht; rw [kindT] at h; split at h; (· rename_i c; exact ih _ _ _ _ c.2 ht); (· cases h)
  | run a ih => intro l ρ fr k h ht; rw [kindT] at h; split at h; (· rename_i c; exact ih _ _ _ _ c.2.2 ht); (· cases h)
/-! ### the generator -/
def GB (T : GenT) : Prop := ∀ (d : Nat) (level : Int) (kind : Str) (sc : List Ent) (free : Bool) (st : St2), (T d level kind sc free st).1.tOk ∧ (T d level kind sc free st).1.wd + 1 ≤ 6 * 2 ^ d
theorem gb_leaf (level : Int) (kind : Str) (sc : List Ent) (n : Int) : (leafG level kind sc n).tOk ∧ (leafG level kind sc n).wd ≤ 2 := by
  unfold leafG
  simp only
  split
  · simp [Tm.tOk, Tm.wd]
  · split
    · simp [Tm.tOk, Tm.wd]
    · split
      · simp [Tm.tOk, Tm.wd]
      · split
        · simp [Tm.tOk, Tm.wd]
        · have m := pick_mem (l := [.lift (.num (numberOf (n / 16))), .quote (.num (numberOf (n / 16)))]) (i := n / 16 % 2) (Int.emod_nonneg _ (by decide)) (Int.emod_lt_of_pos _ (by decide))
          revert m
          generalize pick _ _ = t
          intro m
          simp only [List.mem_cons, List.not_mem_nil, or_false] at m
          rcases m with rfl | rfl <;> simp [Tm.tOk, Tm.wd]
theorem pow_mono {a b : Nat} (h : a ≤ b) : 2 ^ a ≤ 2 ^ b := Nat.pow_le_pow_right (by decide) h
theorem many9 (e : Nat) (n : Int) : 0 ≤ manyG e n ∧ manyG e n ≤ 9 := by
  have h : ∀ z ∈ ([0, 1, 2, 3, 2, 3, 1, 9] : List Int), 0 ≤ z ∧ z ≤ 9 := by decide
  have g : ∀ i : Nat, 0 ≤ ([0, 1, 2, 3, 2, 3, 1, 9] : List Int).getD i 0 ∧ ([0, 1, 2, 3, 2, 3, 1, 9] : List Int).getD i 0 ≤ 9 := by
    intro i
    rw [List.getD_eq_getElem?_getD]
    cases e : ([0, 1, 2, 3, 2, 3, 1, 9] : List Int)[i]? with
    | none => simp
    | some z => exact h z (List.mem_of_getElem? e)
  have := g (n / 2 / 18 % 8).toNat
  unfold manyG
  split <;> omega
theorem gb_twice {s : List Int} {T : GenT} (G : GB T) (sc : List Ent) (d : Nat) (n : Int) (st : St2) : (twiceG s T sc d n st).1.tOk ∧ (twiceG s T sc d n st).1.wd ≤ 1 + 6 * 2 ^ d := by
  unfold twiceG
  simp only [Tm.tOk, Tm.wd]
  have h := G d 1 sNum (sc ++ [⟨xG s n, 1, [sNum]⟩]) false st
  have p : 1 ≤ 2 ^ d := Nat.one_le_two_pow
  split <;> simp only [Tm.tOk, Tm.wd] <;> exact ⟨⟨trivial, trivial, h.1⟩, by omega⟩
theorem gb_bound {s : List Int} {T : GenT} (G : GB T) {word : Str} (hb : isB word = true) (level : Int) (kind : Str) (free : Bool) (sc : List Ent) (e : Nat) (n : Int) (st : St2) :
    (boundG s T word level kind free sc e n st).1.tOk ∧ (boundG s T word level kind free sc e n st).1.wd + 1 ≤ 6 * 2 ^ (e + 1) := by
  have p : 1 ≤ 2 ^ e := Nat.one_le_two_pow
  have p2 : 2 ^ (e + 1) = 2 * 2 ^ e := by rw [Nat.pow_succ]; omega
  have p3 : 2 ^ (e - 1) ≤ 2 ^ e := pow_mono (by omega)
  have p4 : 2 ^ (e - 2) ≤ 2 ^ e := pow_mono (by omega)
  rw [p2]
  have hb2 : word = Str.ofString "let" ∨ word = Str.ofString "turns" ∨ word = Str.ofString "def" ∨ word = Str.ofString "use" ∨ word = wk := by
    unfold isB at hb
    simp only [Bool.or_eq_true, decide_eq_true_eq, or_assoc] at hb
    exact hb
  have defc : ∀ w : Str, (w = Str.ofString "def" ∨ w = Str.ofString "use" ∧ usesG level kind sc = []) → (boundG s T w level kind free sc e n st).1.tOk ∧ (boundG s T w level kind free sc e n st).1.wd + 1 ≤ 6 * (2 * 2 ^ e) := by
    intro w hw
    rw [bound_def (hw := hw)]
    have a1 := G e level (whoG level n) (sc ++ [⟨xG s n, level, [othG level n]⟩]) false st
    have a2 := G e level kind (sc ++ [⟨fG s n, level, [othG level n, whoG level n]⟩]) free (T e level (whoG level n) (sc ++ [⟨xG s n, level, [othG level n]⟩]) false st).2
    exact ⟨⟨a1.1, a2.1⟩, by simp only [Tm.wd]; omega⟩
  rcases hb2 with rfl | rfl | rfl | rfl | rfl
  · rw [bound_let]
    have a1 := G e level (othG level n) sc free st
    have a2 := G e level kind (sc ++ [⟨xG s n, level, [othG level n]⟩]) free (T e level (othG level n) sc free st).2
    exact ⟨⟨a1.1, a2.1⟩, by simp only [Tm.wd]; omega⟩
  · rw [bound_turns]
    have a1 := G e level kind sc free st
    have a2 := G e level kind (sc ++ [⟨xG s n, level, [kind]⟩]) free (T e level kind sc free st).2
    exact ⟨⟨many9 e n, a1.1, a2.1⟩, by simp only [Tm.wd]; omega⟩
  · exact defc _ (.inl rfl)
  · by_cases h : usesG level kind sc = []
    · exact defc _ (.inr ⟨rfl, h⟩)
    · rw [bound_use (h := h)]
      have a1 := G e level ((nthE (usesG level kind sc) (n / 2 / 18)).kinds.getD 0 sNum) sc free st
      exact ⟨a1.1, by simp only [Tm.wd]; omega⟩
  · rw [bound_kept]
    have a1 : (keptA s T sc e n st).1.tOk ∧ (keptA s T sc e n st).1.wd + 1 ≤ 6 * 2 ^ e := by
      unfold keptA
      split
      · have := G (e - 1) 1 sNum sc false st
        exact ⟨this.1, by omega⟩
      · exact ⟨trivial, by simp only [Tm.wd]; omega⟩
    have a2 : ∀ st, (keptB s T sc e n st).1.tOk ∧ (keptB s T sc e n st).1.wd + 5 ≤ 6 * (2 * 2 ^ e) := by
      intro st
      unfold keptB
      split
      · have := gb_twice (s := s) G (moreG s sc n) (e - 2) (n / 2 / 10000) st
        refine ⟨this.1, ?_⟩
        have q : 2 ^ (e - 2) = 2 ^ e ∨ 2 * 2 ^ (e - 2) ≤ 2 ^ e := by
          rcases Nat.eq_zero_or_pos e with h | h
          · left; rw [h]
          · right
            rw [Nat.mul_comm, ← Nat.pow_succ]
            exact pow_mono (by omega)
        omega
      · have := G (e - 1) 1 sNum (moreG s sc n) false st
        exact ⟨this.1, by omega⟩
    have q := a2 (keptA s T sc e n st).2
    exact ⟨⟨a1.1, trivial, q.1⟩, by simp only [Tm.wd]; omega⟩
theorem gb_term (s : List Int) : ∀ f, ∀ (d : Nat) (level : Int) (kind : Str) (sc : List Ent) (free : Bool) (st : St2), (termF s f d level kind sc free st).1.tOk ∧ (termF s f d level kind sc free st).1.wd + 1 ≤ 6 * 2 ^ d
  | 0 => fun d level kind sc free st => by
    have := gb_leaf level kind sc (mixed s (st.1 + 1))
    have p : 1 ≤ 2 ^ d := Nat.one_le_two_pow
    rw [termF]
    exact ⟨this.1, by simp only; omega⟩
  | f + 1 => fun d level kind sc free st => by
    have G : GB (termF s f) := gb_term s f
    obtain ⟨k, c⟩ := st
    rw [termF_eq]
    split
    · have := gb_leaf level kind sc (mixed s (k + 1))
      have p : 1 ≤ 2 ^ d := Nat.one_le_two_pow
      exact ⟨this.1, by simp only; omega⟩
    · rename_i hc
      obtain ⟨e, rfl⟩ : ∃ e, d = e + 1 := ⟨d - 1, by omega⟩
      rw [show e + 1 - 1 = e by omega]
      generalize mixed s (k + 1) / _ = n
      generalize (wordsG level kind free).getD _ _ = w
      have p : 1 ≤ 2 ^ e := Nat.one_le_two_pow
      have p2 : 2 ^ (e + 1) = 2 * 2 ^ e := by rw [Nat.pow_succ]; omega
      unfold stepG
      split
      · rename_i hb
        exact gb_bound G hb level kind free sc e n (k + 1, c + 1)
      · rw [p2]
        split
        · have := G e 1 sNum sc false (k + 1, c + 1)
          exact ⟨this.1, by simp only [Tm.wd]; omega⟩
        · split
          · have := G e 0 sPiece sc false (k + 1, c + 1)
            exact ⟨this.1, by simp only [Tm.wd]; omega⟩
          · split
            · have := G e 0 sNum sc free (k + 1, c + 1)
              exact ⟨this.1, by simp only [Tm.wd]; omega⟩
            · split
              · have := G e 0 sPiece sc free (k + 1, c + 1)
                exact ⟨this.1, by simp only [Tm.wd]; omega⟩
              · split
                · have a1 := G e level sNum sc free (k + 1, c + 1)
                  have a2 := G e level sNum sc free (termF s f e level sNum sc free (k + 1, c + 1)).2
                  simp only
                  split
                  · exact ⟨⟨a1.1, a2.1⟩, by simp only [Tm.wd]; omega⟩
                  · split
                    · exact ⟨⟨a1.1, a2.1⟩, by simp only [Tm.wd]; omega⟩
                    · exact ⟨⟨a1.1, a2.1⟩, by simp only [Tm.wd]; omega⟩
                · have a1 := G e level sNum sc free (k + 1, c + 1)
                  have a2 := G e level kind sc free (termF s f e level sNum sc free (k + 1, c + 1)).2
                  have a3 := G e level kind sc free (termF s f e level kind sc free (termF s f e level sNum sc free (k + 1, c + 1)).2).2
                  exact ⟨⟨a1.1, a2.1, a3.1⟩, by simp only [Tm.wd]; omega⟩
/-! ### without stages -/
def wo : Tm → Tm
  | .num n => .num n | .name x => .name x
  | .sum a b => .sum (wo a) (wo b) | .product a b => .product (wo a) (wo b) | .less a b => .less (wo a) (wo b) | .when c a b => .when (wo c) (wo a) (wo b)
  | .lett x a b => .lett x (wo a) (wo b) | .turns n x a b => .turns n x (wo a) (wo b) | .defn f x _ a b => .defn f x (Str.ofString "number") (wo a) (wo b) | .use f a => .use f (wo a)
  | .quote a => wo a | .hole a => wo a | .lift a => wo a | .run a => .run (wo a)
theorem wo_wt : ∀ (t : Tm) (Γ : Gm), WT t Γ → WT (wo t) Γ := by
  intro t
  induction t <;> intro Γ h <;> simp only [wo, WT] at h ⊢ <;> simp_all
theorem wo_depth (t : Tm) : (wo t).depth ≤ t.depth := by
  induction t <;> simp only [wo, Tm.depth] <;> omega
theorem wo_wd (t : Tm) : (wo t).wd ≤ t.wd := by
  induction t <;> simp only [wo, Tm.wd] <;> omega
theorem wo_flat : ∀ (t : Tm) (l : Int) (ρ : Rho) (k : Str), kindT t l ρ false = some k → (wo t).flat = true := by
  intro t
  induction t with
  | num n => intro l ρ k h; rfl
  | name x => intro l ρ k h; rfl
  | sum a b iha ihb => intro l ρ k h; rw [kindT] at h; split at h; (· rename_i c; rw [wo, Tm.flat, iha _ _ _ c.1, ihb _ _ _ c.2]; rfl); (· cases h)
  | product a b iha ihb => intro l ρ k h; rw [kindT] at h; split at h; (· rename_i c; rw [wo, Tm.flat, iha _ _ _ c.1, ihb _ _ _ c.2]; rfl); (· cases h)
  | less a b iha ihb => intro l ρ k h; rw [kindT] at h; split at h; (· rename_i c; rw [wo, Tm.flat, iha _ _ _ c.1, ihb _ _ _ c.2]; rfl); (· cases h)
  | when c a b ihc iha ihb => intro l ρ k h; rw [kindT] at h; split at h; (· rename_i q; rw [wo, Tm.flat, ihc _ _ _ q.1, iha _ _ _ h, ihb _ _ _ (q.2.trans h)]; rfl); (· cases h)
  | lett x a b iha ihb =>
    intro l ρ k h
    rw [kindT] at h
    split at h
    · rename_i k1 h1
      rw [wo, Tm.flat, iha _ _ _ h1, ihb _ _ _ h]; rfl
    · cases h
  | turns n x a b iha ihb =>
    intro l ρ k h
    rw [kindT] at h
    split at h
    · rename_i k1 h1
      split at h
      · rename_i h2
        rw [wo, Tm.flat, iha _ _ _ h1, ihb _ _ _ h2]; rfl
      · cases h
    · cases h
  | defn g x m a b iha ihb =>
    intro l ρ k h
    rw [kindT] at h
    split at h
    · cases h
    · split at h
      · rename_i k1 h1
        rw [wo, Tm.flat, iha _ _ _ h1, ihb _ _ _ h]; rfl
      · cases h
  | use g a iha =>
    intro l ρ k h
    rw [kindT] at h
    split at h
    · split at h
      · rename_i c
        rw [wo, Tm.flat, iha _ _ _ c.2]
      · cases h
    · cases h
  | quote a ih => intro l ρ k h; rw [kindT] at h; split at h; (· rename_i c; exact ih _ _ _ c.2); (· cases h)
  | hole a ih => intro l ρ k h; rw [kindT] at h; split at h; (· rename_i c; exact ih _ _ _ c.2); (· cases h)
  | lift a ih => intro l ρ k h; rw [kindT] at h; split at h; (· rename_i c; exact ih _ _ _ c.2); (· cases h)
  | run a ih => intro l ρ k h; rw [kindT] at h; split at h; (· rename_i c; cases c.2.1); (· cases h)
/-! ### cost -/
def costT : Tm → VE → Option Int
  | .num _, _ => some 1
  | .name _, _ => some 1
  | .turns n _ a b, e => onO (costT a e) fun p => onO (costT b e) fun q => chkO (0 ≤ n ∧ n ≤ 1000) (some (1 + p + n * q))
  | .defn g _ _ a b, e => onO (costT a e) fun p => chkO (e.length ≤ 1000) (onO (costT b (putG e g (.num p))) fun q => some (1 + q))
  | .use g a, e => onO (lkG e g) fun u => match u with
    | .num p => onO (costT a e) fun q => some (1 + p + q)
    | _ => none
  | .sum a b, e => onO (costT a e) fun p => onO (costT b e) fun q => some (1 + (p + q))
  | .product a b, e => onO (costT a e) fun p => onO (costT b e) fun q => some (1 + (p + q))
  | .less a b, e => onO (costT a e) fun p => onO (costT b e) fun q => some (1 + (p + q))
  | .when c a b, e => onO (costT c e) fun o => onO (costT a e) fun p => onO (costT b e) fun q => some (1 + (o + p + q))
  | .lett _ a b, e => onO (costT a e) fun p => onO (costT b e) fun q => some (1 + (p + q))
  | .quote a, e => onO (costT a e) fun p => some (1 + p)
  | .hole a, e => onO (costT a e) fun p => some (1 + p)
  | .lift a, e => onO (costT a e) fun p => some (1 + p)
  | .run a, e => onO (costT a e) fun p => some (1 + p)
def EnvC (Γ : Gm) (e : VE) : Prop := ∀ x, Γ x = some 2 → ∃ p, lkG e x = some (.num p)
theorem EnvC.val {Γ : Gm} {e : VE} (E : EnvC Γ e) (x : Str) : EnvC (setN Γ x 1) e := fun y h => by
  unfold setN at h
  by_cases c : y = x
  · rw [if_pos c] at h; cases h
  · rw [if_neg c] at h; exact E y h
theorem EnvC.fun {Γ : Gm} {e : VE} (E : EnvC Γ e) (x : Str) (p : Int) : EnvC (setN Γ x 2) (putG e x (.num p)) := fun y h => by
  rw [lkG_put]
  unfold setN at h
  by_cases c : y = x
  · rw [if_pos c]; exact ⟨p, rfl⟩
  · rw [if_neg c] at h ⊢; exact E y h
theorem cost_tot : ∀ (t : Tm) (Γ : Gm) (e : VE), WT t Γ → EnvC Γ e → e.length + t.depth ≤ 1000 → ∃ c, costT t e = some c := by
  intro t
  induction t with
  | num n => intro Γ e h E hl; exact ⟨1, rfl⟩
  | name x => intro Γ e h E hl; exact ⟨1, rfl⟩
  | sum a b iha ihb =>
    intro Γ e h E hl
    simp only [Tm.depth] at hl
    obtain ⟨p, hp⟩ := iha Γ e h.1 E (by omega)
    obtain ⟨q, hq⟩ := ihb Γ e h.2 E (by omega)
    exact ⟨1 + (p + q), by simp only [costT, hp, hq, onO]⟩
  | product a b iha ihb =>
    intro Γ e h E hl
    simp only [Tm.depth] at hl
    obtain ⟨p, hp⟩ := iha Γ e h.1 E (by omega)
    obtain ⟨q, hq⟩ := ihb Γ e h.2 E (by omega)
    exact ⟨1 + (p + q), by simp only [costT, hp, hq, onO]⟩
  | less a b iha ihb =>
    intro Γ e h E hl
    simp only [Tm.depth] at hl
    obtain ⟨p, hp⟩ := iha Γ e h.1 E (by omega)
    obtain ⟨q, hq⟩ := ihb Γ e h.2 E (by omega)
    exact ⟨1 + (p + q), by simp only [costT, hp, hq, onO]⟩
  | when c a b ihc iha ihb =>
    intro Γ e h E hl
    simp only [Tm.depth] at hl
    obtain ⟨o, ho⟩ := ihc Γ e h.1 E (by omega)
    obtain ⟨p, hp⟩ := iha Γ e h.2.1 E (by omega)
    obtain ⟨q, hq⟩ := ihb Γ e h.2.2 E (by omega)
    exact ⟨1 + (o + p + q), by simp only [costT, ho, hp, hq, onO]⟩
  | lett x a b iha ihb =>
    intro Γ e h E hl
    simp only [Tm.depth] at hl
    obtain ⟨p, hp⟩ := iha Γ e h.1 E (by omega)
    obtain ⟨q, hq⟩ := ihb _ e h.2 (E.val x) (by omega)
    exact ⟨1 + (p + q), by simp only [costT, hp, hq, onO]⟩
  | turns n x a b iha ihb =>
    intro Γ e h E hl
    simp only [Tm.depth] at hl
    obtain ⟨p, hp⟩ := iha Γ e h.2.1 E (by omega)
    obtain ⟨q, hq⟩ := ihb _ e h.2.2 (E.val x) (by omega)
    have h9 := h.1
    exact ⟨1 + p + n * q, by simp only [costT, hp, hq, onO]; rw [chkO_ok ⟨h9.1, by omega⟩]⟩
  | defn g x m a b iha ihb =>
    intro Γ e h E hl
    simp only [Tm.depth] at hl
    obtain ⟨p, hp⟩ := iha _ e h.1 (E.val x) (by omega)
    have := putG_len e g (.num p)
    obtain ⟨q, hq⟩ := ihb _ _ h.2 (E.fun g p) (by omega)
    exact ⟨1 + q, by simp only [costT, hp, onO]; rw [chkO_ok (by omega)]; simp only [hq]⟩
  | use g a iha =>
    intro Γ e h E hl
    simp only [Tm.depth] at hl
    obtain ⟨p, hp⟩ := E g h.1
    obtain ⟨q, hq⟩ := iha Γ e h.2 E (by omega)
    exact ⟨1 + p + q, by simp only [costT, hp, hq, onO]⟩
  | quote a ih =>
    intro Γ e h E hl
    simp only [Tm.depth] at hl
    obtain ⟨p, hp⟩ := ih Γ e h E (by omega)
    exact ⟨1 + p, by simp only [costT, hp, onO]⟩
  | hole a ih =>
    intro Γ e h E hl
    simp only [Tm.depth] at hl
    obtain ⟨p, hp⟩ := ih Γ e h E (by omega)
    exact ⟨1 + p, by simp only [costT, hp, onO]⟩
  | lift a ih =>
    intro Γ e h E hl
    simp only [Tm.depth] at hl
    obtain ⟨p, hp⟩ := ih Γ e h E (by omega)
    exact ⟨1 + p, by simp only [costT, hp, onO]⟩
  | run a ih =>
    intro Γ e h E hl
    simp only [Tm.depth] at hl
    obtain ⟨p, hp⟩ := ih Γ e h E (by omega)
    exact ⟨1 + p, by simp only [costT, hp, onO]⟩
end Qh

/- Binders within binders, a kept piece of each: what the program of k09 makes, and what it comes to. -/
namespace Qh
open PySem PySem.Spec PyProof.Rows L2 Dq
def roundT (way : Int) (x : Str) (n : Int) (inner : Tm) (f : Str) : Tm :=
  if way = 0 then .lett x (.num n) inner else if way = 1 then .turns 1 x (.num n) inner else .defn f x (Str.ofString "number") inner (.use f (.num n))
/-- a binder: its name, the kept name, its number, the drawn one, which it is; the name that it is given in the piece -/
structure Bd where
  x : Str
  q : Str
  n : Int
  t : Int
  way : Int
  v : Str
def sumT (g : Bd → Tm) : List Bd → Tm → Tm
  | [], a => a
  | b :: r, a => sumT g r (.sum a (.product (g b) (.num b.t)))
def coreG (g : Bd → Tm) (l : List Bd) : Tm := match l with
  | [] => .num 0
  | b :: r => sumT g r (.product (g b) (.num b.t))
abbrev gQ (b : Bd) : Tm := .hole (.name b.q)
abbrev gV (b : Bd) : Tm := .name b.v
def wrapT (ex : Option Int) (last : Str) (a : Tm) : Tm := match ex with
  | none => a
  | some way => roundT way last 5 a last
def stepK (last : Str) (b : Bd) (inner : Tm) : Tm := roundT b.way b.x b.n (.hole (.lett b.q (.quote (.name b.x)) (.quote inner))) last
def buildT (last : Str) (core : Tm) : List Bd → Tm
  | [] => core
  | b :: r => stepK last b (buildT last core r)
/-! ### kinds -/
theorem kind_sum : ∀ (l : List Bd) (a : Tm) (ρ : Rho), kindT a 1 ρ false = some sNum → (∀ p ∈ l, ρ p.q = some (0, [sPiece])) → kindT (sumT gQ l a) 1 ρ false = some sNum
  | [], a, ρ, ha, h => ha
  | b :: r, a, ρ, ha, h => by
    rw [sumT]
    exact kind_sum r _ ρ (kT_sum ha (kT_product (kT_hole (kT_name (h b List.mem_cons_self))) rfl)) fun p hp => h p (List.mem_cons_of_mem _ hp)
theorem kind_core {l : List Bd} {ρ : Rho} (h : ∀ p ∈ l, ρ p.q = some (0, [sPiece])) : kindT (coreG gQ l) 1 ρ false = some sNum := by
  cases l with
  | nil => rfl
  | cons b r => exact kind_sum r _ ρ (kT_product (kT_hole (kT_name (h b List.mem_cons_self))) rfl) fun p hp => h p (List.mem_cons_of_mem _ hp)
theorem kind_round {way : Int} {x f : Str} {n : Int} {a : Tm} {ρ : Rho} (h : kindT a 1 (setR ρ x (1, [sNum])) false = some sNum) : kindT (roundT way x n a f) 1 ρ false = some sNum := by
  unfold roundT
  split
  · exact kT_let (k1 := sNum) rfl h
  · split
    · exact kT_turns rfl h
    · change kindT (.defn f x sNum a (.use f (.num n))) 1 ρ false = some sNum
      refine kT_def (k2 := sNum) (fun _ => rfl) h (kT_use (k1 := sNum) ?_ rfl)
      simp [setR]
theorem kind_wrap {ex : Option Int} {last : Str} {l : List Bd} {ρ : Rho} (hl : ∀ p ∈ l, p.q ≠ last) (h : ∀ p ∈ l, ρ p.q = some (0, [sPiece])) : kindT (wrapT ex last (coreG gQ l)) 1 ρ false = some sNum := by
  cases ex with
  | none => exact kind_core h
  | some way =>
    refine kind_round (kind_core fun p hp => ?_)
    unfold setR
    rw [if_neg (hl p hp)]
    exact h p hp
theorem kind_build {last : Str} {ex : Option Int} {l : List Bd} (hl : ∀ p ∈ l, p.q ≠ last) (hx : ∀ p ∈ l, ∀ b ∈ l, p.q ≠ b.x) : ∀ (bs : List Bd) (ρ : Rho), (∀ b ∈ bs, b ∈ l) → (∀ p ∈ l, ρ p.q = some (0, [sPiece]) ∨ p ∈ bs) →
    kindT (buildT last (wrapT ex last (coreG gQ l)) bs) 1 ρ false = some sNum
  | [], ρ, hb, h => kind_wrap hl fun p hp => (h p hp).resolve_right (by simp)
  | b :: r, ρ, hb, h => by
    rw [buildT, stepK]
    have nm : ∀ k, setR ρ b.x k b.x = some k := fun k => by simp [setR]
    refine kind_round (kT_hole (kT_let (k1 := sPiece) (kT_quote (kT_name (nm _))) (kT_quote ?_)))
    refine kind_build hl hx r _ (fun c hc => hb c (List.mem_cons_of_mem _ hc)) fun p hp => ?_
    by_cases e : p.q = b.q
    · left; unfold setR; rw [if_pos e]
    · rcases h p hp with z | z
      · left
        unfold setR
        rw [if_neg e, if_neg (hx p hp b (hb b List.mem_cons_self))]
        exact z
      · rcases List.mem_cons.mp z with rfl | z
        · exact absurd rfl e
        · exact .inr z
/-! ### the piece -/
def nmC (way : Int) (k : Nat) : Str × Str × Nat := if way = 0 ∨ way = 1 then (vN (k + 1), Str.ofString "", k + 1) else (vN (k + 2), vN (k + 1), k + 2)
theorem nmC_le (way : Int) (k : Nat) : k < (nmC way k).2.2 ∧ (nmC way k).2.2 ≤ k + 2 := by
  unfold nmC; split <;> simp
def wrapP (ex : Option Int) (a : Tm) (k : Nat) : Tm × Nat := match ex with
  | none => (a, k)
  | some way => (roundT way (nmC way k).1 5 a (nmC way k).2.1, (nmC way k).2.2)
def buildP (core : Nat → Tm × Nat) : List Bd → Nat → Tm × Nat
  | [], k => core k
  | b :: r, k => (roundT b.way (nmC b.way k).1 b.n (buildP core r (nmC b.way k).2.2).1 (nmC b.way k).2.1, (buildP core r (nmC b.way k).2.2).2)
/-- each is given its name in its turn -/
def VOk : List Bd → Nat → Prop
  | [], _ => True
  | b :: r, k => b.v = (nmC b.way k).1 ∧ VOk r (nmC b.way k).2.2
abbrev okP (p : Tm × Nat) : R (Tm × Nat) := some (some p)
theorem evP_kept {F k : Nat} {a : Tm} {ρ : VE} {q x y : Str} {r : Tm × Nat} (hx : lkG ρ x = some (.nm y)) (hl : ρ.length ≤ 1000) (h : ∀ f, F ≤ f → evP f a (putG ρ q (.pc (.name y))) k = okP r) (hd : r.1.depth ≤ 30) (hs : r.1.size ≤ 2000) :
    ∀ f, F + 6 ≤ f → evP f (.hole (.lett q (.quote (.name x)) (.quote a))) ρ k = okP r := by
  intro f hf
  obtain ⟨f, rfl⟩ : ∃ g, f = g + 6 := ⟨f - 6, by omega⟩
  have e1 : evV (f + 4) (.quote (.name x)) ρ k = some (some (.pc (.name y), k)) := by
    rw [evV]
    (try simp only)
    have : evP (f + 3) (.name x) ρ k = okP (.name y, k) := by rw [evP]; simp only [onR, hx]
    rw [this, bindR_some, chkR_some (by show (1 : Nat) ≤ 64; decide), if_neg (by show ¬(2000 < (1 : Nat) ∨ 30 < (1 : Nat)); decide)]
  have e2 : evV (f + 4) (.quote a) (putG ρ q (.pc (.name y))) k = some (some (.pc r.1, r.2)) := by
    rw [evV]
    (try simp only)
    rw [h (f + 3) (by omega), bindR_some, chkR_some (by omega), if_neg (by omega)]
  rw [evP]
  (try simp only)
  have e3 : evV (f + 5) (.lett q (.quote (.name x)) (.quote a)) ρ k = some (some (.pc r.1, r.2)) := by
    rw [evV]
    (try simp only)
    rw [e1, bindR_some, chkR_some hl]
    exact e2
  rw [e3, bindR_some]
  rfl
theorem evP_round {F k : Nat} {a : Tm} {ρ : VE} {way : Int} {x last : Str} {n : Int} {r : Tm × Nat} (hk : k < 999990) (hl : ρ.length ≤ 1000) (h : ∀ f, F ≤ f → evP f a (putG ρ x (.nm (nmC way k).1)) (nmC way k).2.2 = okP r) :
    ∀ f, F + 4 ≤ f → evP f (roundT way x n a last) ρ k = okP (roundT way (nmC way k).1 n r.1 (nmC way k).2.1, r.2) := by
  intro f hf
  obtain ⟨f, rfl⟩ : ∃ g, f = g + 4 := ⟨f - 4, by omega⟩
  have hn : ∀ (g j : Nat) (σ : VE), evP (g + 1) (.num n) σ j = okP (.num n, j) := fun g j σ => by rw [evP]
  unfold nmC at h ⊢
  by_cases c0 : way = 0
  · rw [if_pos (.inl c0)] at h ⊢
    rw [roundT, if_pos c0, roundT, if_pos c0, evP]
    (try simp only)
    rw [chkR_some ⟨by omega, hl⟩, hn, bindR_some]
    simp only at h ⊢
    rw [h (f + 3) (by omega), bindR_some]
  · by_cases c1 : way = 1
    · rw [if_pos (.inr c1)] at h ⊢
      rw [roundT, if_neg c0, if_pos c1, roundT, if_neg c0, if_pos c1, evP]
      (try simp only)
      rw [chkR_some ⟨by omega, hl⟩, hn, bindR_some]
      simp only at h ⊢
      rw [h (f + 3) (by omega), bindR_some]
    · rw [if_neg (by omega)] at h ⊢
      rw [roundT, if_neg c0, if_neg c1, roundT, if_neg c0, if_neg c1, evP]
      (try simp only)
      simp only at h
      rw [chkR_some ⟨by omega, hl⟩, h (f + 3) (by omega), bindR_some]
      have e : evP (f + 3) (.use last (.num n)) (putG ρ last (.nm (vN (k + 1)))) r.2 = okP (.use (vN (k + 1)) (.num n), r.2) := by
        rw [evP]
        (try simp only)
        have : lkG (putG ρ last (.nm (vN (k + 1)))) last = some (.nm (vN (k + 1))) := by rw [lkG_put, if_pos rfl]
        rw [this, onR, hn]
        rfl
      rw [e, bindR_some]
theorem evP_sum {k : Nat} {ρ : VE} : ∀ (l : List Bd) (a p : Tm) (F : Nat), 4 ≤ F → (∀ b ∈ l, lkG ρ b.q = some (.pc (.name b.v))) → (∀ f, F ≤ f → evP f a ρ k = okP (p, k)) →
    ∀ f, F + l.length ≤ f → evP f (sumT gQ l a) ρ k = okP (sumT gV l p, k)
  | [], a, p, F, h4, h, ha, f, hf => ha f (by simpa using hf)
  | b :: r, a, p, F, h4, h, ha, f, hf => by
    rw [sumT, sumT]
    refine evP_sum r _ _ (F + 1) (by omega) (fun c hc => h c (List.mem_cons_of_mem _ hc)) (fun f hf => ?_) f (by simp at hf; omega)
    obtain ⟨f, rfl⟩ : ∃ g, f = g + 4 := ⟨f - 4, by omega⟩
    have e1 : evP (f + 2) (gQ b) ρ k = okP (.name b.v, k) := by
      rw [evP]
      (try simp only)
      have : evV (f + 1) (.name b.q) ρ k = some (some (.pc (.name b.v), k)) := by rw [evV]; simp only [onR, h b List.mem_cons_self]
      rw [this, bindR_some]; rfl
    have e2 : evP (f + 3) (.product (gQ b) (.num b.t)) ρ k = okP (.product (.name b.v) (.num b.t), k) := by
      rw [evP]
      (try simp only)
      rw [e1, bindR_some]
      have : evP (f + 2) (.num b.t) ρ k = okP (.num b.t, k) := by rw [evP]
      rw [this, bindR_some]
    rw [evP]
    (try simp only)
    rw [ha (f + 3) (by omega), bindR_some, e2, bindR_some]
theorem evP_core {k : Nat} {ρ : VE} {l : List Bd} (h : ∀ b ∈ l, lkG ρ b.q = some (.pc (.name b.v))) : ∀ f, 4 + l.length ≤ f → evP f (coreG gQ l) ρ k = okP (coreG gV l, k) := by
  cases l with
  | nil =>
    intro f hf
    obtain ⟨f, rfl⟩ : ∃ g, f = g + 1 := ⟨f - 1, by omega⟩
    show evP (f + 1) (.num 0) ρ k = okP (.num 0, k)
    rw [evP]
  | cons b r =>
    intro f hf
    refine evP_sum r _ _ 4 (by omega) (fun c hc => h c (List.mem_cons_of_mem _ hc)) (fun f hf => ?_) f (by simp at hf; omega)
    obtain ⟨f, rfl⟩ : ∃ g, f = g + 3 := ⟨f - 3, by omega⟩
    have e1 : evP (f + 2) (gQ b) ρ k = okP (.name b.v, k) := by
      rw [evP]
      (try simp only)
      have : evV (f + 1) (.name b.q) ρ k = some (some (.pc (.name b.v), k)) := by rw [evV]; simp only [onR, h b List.mem_cons_self]
      rw [this, bindR_some]; rfl
    rw [evP]
    (try simp only)
    rw [e1, bindR_some]
    have : evP (f + 2) (.num b.t) ρ k = okP (.num b.t, k) := by rw [evP]
    rw [this, bindR_some]
theorem round_size (way : Int) (x f : Str) (n : Int) (a : Tm) : (roundT way x n a f).size ≤ a.size + 4 ∧ (roundT way x n a f).depth ≤ max a.depth 2 + 1 := by
  unfold roundT
  split
  · simp only [Tm.size, Tm.depth]; omega
  · split
    · simp only [Tm.size, Tm.depth]; omega
    · simp only [Tm.size, Tm.depth]; omega
theorem sum_size (g : Bd → Tm) (hg : ∀ b, (g b).size ≤ 2 ∧ (g b).depth ≤ 2) : ∀ (l : List Bd) (a : Tm), (sumT g l a).size ≤ a.size + 5 * l.length ∧ (sumT g l a).depth ≤ max a.depth 3 + l.length
  | [], a => by simp [sumT]; omega
  | b :: r, a => by
    have := sum_size g hg r (.sum a (.product (g b) (.num b.t)))
    have := hg b
    simp only [sumT, Tm.size, Tm.depth, List.length_cons] at *
    omega
theorem core_size (g : Bd → Tm) (hg : ∀ b, (g b).size ≤ 2 ∧ (g b).depth ≤ 2) (l : List Bd) : (coreG g l).size ≤ 4 + 5 * l.length ∧ (coreG g l).depth ≤ 3 + l.length := by
  cases l with
  | nil => simp [coreG, Tm.size, Tm.depth]
  | cons b r =>
    have := sum_size g hg r (.product (g b) (.num b.t))
    have := hg b
    simp only [coreG, Tm.size, Tm.depth, List.length_cons] at *
    omega
theorem gV_small (b : Bd) : (gV b).size ≤ 2 ∧ (gV b).depth ≤ 2 := by simp [Tm.size, Tm.depth]
theorem gQ_small (b : Bd) : (gQ b).size ≤ 2 ∧ (gQ b).depth ≤ 2 := by simp [Tm.size, Tm.depth]
theorem wrapP_size (ex : Option Int) (a : Tm) (k : Nat) : (wrapP ex a k).1.size ≤ a.size + 4 ∧ (wrapP ex a k).1.depth ≤ max a.depth 2 + 1 := by
  cases ex with
  | none => simp [wrapP]; omega
  | some way => exact round_size _ _ _ _ _
theorem buildP_size (core : Nat → Tm × Nat) (S Dp : Nat) (h : ∀ k, (core k).1.size ≤ S ∧ (core k).1.depth ≤ Dp) (h2 : 2 ≤ Dp) : ∀ (bs : List Bd) (k : Nat), (buildP core bs k).1.size ≤ S + 4 * bs.length ∧ (buildP core bs k).1.depth ≤ Dp + bs.length
  | [], k => by simpa [buildP] using h k
  | b :: r, k => by
    have a1 := buildP_size core S Dp h h2 r (nmC b.way k).2.2
    have a2 := round_size b.way (nmC b.way k).1 (nmC b.way k).2.1 b.n (buildP core r (nmC b.way k).2.2).1
    simp only [buildP, List.length_cons]
    omega
abbrev coreK (ex : Option Int) (l : List Bd) : Nat → Tm × Nat := fun k => wrapP ex (coreG gV l) k
theorem coreK_size (ex : Option Int) (l : List Bd) (k : Nat) : (coreK ex l k).1.size ≤ 8 + 5 * l.length ∧ (coreK ex l k).1.depth ≤ 4 + l.length := by
  have h1 := core_size gV gV_small l
  have h2 := wrapP_size ex (coreG gV l) k
  show (wrapP ex (coreG gV l) k).1.size ≤ _ ∧ (wrapP ex (coreG gV l) k).1.depth ≤ _
  omega
theorem evP_build {last : Str} {ex : Option Int} {l : List Bd} (h3 : l.length ≤ 3) (hl : ∀ p ∈ l, p.q ≠ last) (hx : ∀ p ∈ l, ∀ b ∈ l, p.q ≠ b.x) (hq : ∀ p ∈ l, ∀ b ∈ l, p.q = b.q → p.v = b.v) : ∀ (bs : List Bd) (ρ : VE) (k : Nat), bs.length ≤ 3 → (∀ b ∈ bs, b ∈ l) → (∀ p ∈ l, lkG ρ p.q = some (.pc (.name p.v)) ∨ p ∈ bs) → VOk bs k →
    k + 2 * bs.length < 999980 → ρ.length + 2 * bs.length ≤ 900 → ∀ f, 12 + l.length + 10 * bs.length ≤ f → evP f (buildT last (wrapT ex last (coreG gQ l)) bs) ρ k = okP (buildP (coreK ex l) bs k)
  | [], ρ, k, hb3, hb, h, hv, hk, hr, f, hf => by
    have hc : ∀ p ∈ l, lkG ρ p.q = some (.pc (.name p.v)) := fun p hp => (h p hp).resolve_right (by simp)
    cases ex with
    | none => exact evP_core hc f (by simp at hf; omega)
    | some way =>
      exact evP_round (F := 4 + l.length) (by simp at hk; omega) (by omega) (fun f hf => evP_core (fun b hb => by rw [lkG_put, if_neg (hl b hb)]; exact hc b hb) f hf) f (by simp at hf; omega)
  | b :: r, ρ, k, hb3, hb, h, hv, hk, hr, f, hf => by
    simp only [List.length_cons] at hb3 hk hr hf
    obtain ⟨v1, v2⟩ := hv
    have kl := nmC_le b.way k
    have bl := hb b List.mem_cons_self
    have pl := putG_len ρ b.x (.nm (nmC b.way k).1)
    have pl2 := putG_len (putG ρ b.x (.nm (nmC b.way k).1)) b.q (.pc (.name (nmC b.way k).1))
    rw [buildT, stepK, buildP]
    have sz := buildP_size (coreK ex l) _ _ (coreK_size ex l) (by omega) r (nmC b.way k).2.2
    refine evP_round (F := 12 + l.length + 10 * r.length + 6) (by omega) (by omega) (fun f hf => evP_kept (F := 12 + l.length + 10 * r.length) (y := (nmC b.way k).1) (by rw [lkG_put, if_pos rfl]) (by omega) (fun f hf => ?_) (by omega) (by omega) f hf) f (by omega)
    refine evP_build h3 hl hx hq r _ _ (by omega) (fun c hc => hb c (List.mem_cons_of_mem _ hc)) (fun p hp => ?_) v2 (by omega) (by omega) f hf
    by_cases e : p.q = b.q
    · left
      rw [lkG_put, if_pos e, hq p hp b bl e, v1]
    · rcases h p hp with z | z
      · left
        rw [lkG_put, if_neg e, lkG_put, if_neg (hx p hp b bl)]
        exact z
      · rcases List.mem_cons.mp z with rfl | z
        · exact absurd rfl e
        · exact .inr z
/-! ### what the piece comes to -/
def sumN : List Bd → Int → Int
  | [], a => a
  | b :: r, a => sumN r ((a + b.n % 1000003 * (b.t % 1000003) % 1000003) % 1000003)
def coreN (l : List Bd) : Int := match l with
  | [] => 0
  | b :: r => sumN r (b.n % 1000003 * (b.t % 1000003) % 1000003)
theorem mN (i : Int) : 0 ≤ i % 1000003 ∧ i % 1000003 < 1000003 := ⟨Int.emod_nonneg _ (by decide), Int.emod_lt_of_pos _ (by decide)⟩
theorem evW_prod {f : Nat} {ρ : VE} {b : Bd} (h : lkG ρ b.v = some (.num (b.n % 1000003))) : evW (f + 2) (.product (gV b) (.num b.t)) ρ = some (.num (b.n % 1000003 * (b.t % 1000003) % 1000003)) := by
  have e1 : evW (f + 1) (gV b) ρ = some (.num (b.n % 1000003)) := by rw [evW]; exact h
  have e2 : evW (f + 1) (.num b.t) ρ = some (.num (b.t % 1000003)) := by rw [evW]
  rw [evW]
  simp only [e1, e2, onO, numO_ok (mN b.n).1 (mN b.n).2, numO_ok (mN b.t).1 (mN b.t).2]
theorem evW_sum {ρ : VE} : ∀ (l : List Bd) (a : Tm) (i : Int) (F : Nat), 4 ≤ F → 0 ≤ i ∧ i < 1000003 → (∀ b ∈ l, lkG ρ b.v = some (.num (b.n % 1000003))) → (∀ f, F ≤ f → evW f a ρ = some (.num i)) →
    ∀ f, F + l.length ≤ f → evW f (sumT gV l a) ρ = some (.num (sumN l i))
  | [], a, i, F, h4, hi, h, ha, f, hf => ha f (by simpa using hf)
  | b :: r, a, i, F, h4, hi, h, ha, f, hf => by
    rw [sumT, sumN]
    refine evW_sum r _ _ (F + 1) (by omega) (mN _) (fun c hc => h c (List.mem_cons_of_mem _ hc)) (fun f hf => ?_) f (by simp at hf; omega)
    obtain ⟨f, rfl⟩ : ∃ g, f = g + 3 := ⟨f - 3, by omega⟩
    rw [evW]
    simp only [ha (f + 2) (by omega), evW_prod (f := f) (h b List.mem_cons_self), onO, numO_ok hi.1 hi.2, numO_ok (mN _).1 (mN _).2]
theorem evW_core {ρ : VE} {l : List Bd} (h : ∀ b ∈ l, lkG ρ b.v = some (.num (b.n % 1000003))) : ∀ f, 4 + l.length ≤ f → evW f (coreG gV l) ρ = some (.num (coreN l)) := by
  cases l with
  | nil =>
    intro f hf
    obtain ⟨f, rfl⟩ : ∃ g, f = g + 1 := ⟨f - 1, by omega⟩
    show evW (f + 1) (.num 0) ρ = some (.num 0)
    rw [evW]; rfl
  | cons b r =>
    intro f hf
    refine evW_sum r _ _ 4 (by omega) (mN _) (fun c hc => h c (List.mem_cons_of_mem _ hc)) (fun f hf => ?_) f (by simp at hf; omega)
    obtain ⟨f, rfl⟩ : ∃ g, f = g + 2 := ⟨f - 2, by omega⟩
    exact evW_prod (h b List.mem_cons_self)
theorem evW_round {F : Nat} {a : Tm} {ρ : VE} {way : Int} {x g : Str} {n : Int} {u : Vl} (hl : ρ.length ≤ 900) (h : ∀ f, F ≤ f → evW f a (putG ρ x (.num (n % 1000003))) = some u) :
    ∀ f, F + 4 ≤ f → evW f (roundT way x n a g) ρ = some u := by
  intro f hf
  obtain ⟨f, rfl⟩ : ∃ g, f = g + 4 := ⟨f - 4, by omega⟩
  have hn : ∀ (g : Nat) (σ : VE), evW (g + 1) (.num n) σ = some (.num (n % 1000003)) := fun g σ => by rw [evW]
  unfold roundT
  split
  · rw [evW]
    simp only [hn, onO]
    rw [chkO_ok (by omega)]
    exact h (f + 3) (by omega)
  · split
    · rw [evW]
      simp only [hn, onO]
      rw [chkO_ok ⟨by decide, by decide, by omega⟩, show Int.toNat 1 = 1 from rfl, loopO, h (f + 3) (by omega)]
      rfl
    · have pl := putG_len ρ g (.fn x a ρ)
      rw [evW]
      (try simp only)
      rw [chkO_ok (by omega), evW]
      have : lkG (putG ρ g (.fn x a ρ)) g = some (.fn x a ρ) := by rw [lkG_put, if_pos rfl]
      simp only [hn, onO, this]
      rw [chkO_ok (by omega)]
      exact h (f + 2) (by omega)
theorem evW_build {ex : Option Int} {l : List Bd} (h3 : l.length ≤ 3) (hv : ∀ p ∈ l, ∀ b ∈ l, p.v = b.v → p.n = b.n) (hex : ∀ p ∈ l, ∀ way k, ex = some way → (∀ b ∈ l, ∃ j, b.v = vN j ∧ j ≤ k) → k ≤ 9 → p.v ≠ (nmC way k).1) :
    ∀ (bs : List Bd) (ρ : VE) (k : Nat), (∀ b ∈ bs, b ∈ l) → (∀ p ∈ l, lkG ρ p.v = some (.num (p.n % 1000003)) ∨ p ∈ bs) → VOk bs k → (∀ b ∈ l, b ∈ bs ∨ ∃ j, b.v = vN j ∧ j ≤ k) → k + 2 * bs.length ≤ 9 → ρ.length + 2 * bs.length ≤ 800 →
    ∀ f, 12 + l.length + 10 * bs.length ≤ f → evW f (buildP (coreK ex l) bs k).1 ρ = some (.num (coreN l))
  | [], ρ, k, hb, h, hvk, hj, hk, hr, f, hf => by
    have hc : ∀ p ∈ l, lkG ρ p.v = some (.num (p.n % 1000003)) := fun p hp => (h p hp).resolve_right (by simp)
    cases ex with
    | none => exact evW_core hc f (by simp at hf; omega)
    | some way =>
      refine evW_round (F := 4 + l.length) (by omega) (fun f hf => evW_core (fun b hb => ?_) f hf) f (by simp at hf; omega)
      rw [lkG_put, if_neg (hex b hb way k rfl (fun c hc => (hj c hc).resolve_left (by simp)) (by simp at hk; omega))]
      exact hc b hb
  | b :: r, ρ, k, hb, h, hvk, hj, hk, hr, f, hf => by
    simp only [List.length_cons] at hk hr hf
    obtain ⟨v1, v2⟩ := hvk
    have kl := nmC_le b.way k
    have bl := hb b List.mem_cons_self
    have pl := putG_len ρ (nmC b.way k).1 (.num (b.n % 1000003))
    rw [buildP]
    refine evW_round (F := 12 + l.length + 10 * r.length) (by omega) (fun f hf => ?_) f (by omega)
    refine evW_build h3 hv hex r _ _ (fun c hc => hb c (List.mem_cons_of_mem _ hc)) (fun p hp => ?_) v2 (fun c hc => ?_) (by omega) (by omega) f hf
    · by_cases e : p.v = b.v
      · left
        rw [lkG_put, ← v1, if_pos e, hv p hp b bl e]
      · rcases h p hp with z | z
        · left
          rw [lkG_put, ← v1, if_neg e]
          exact z
        · rcases List.mem_cons.mp z with rfl | z
          · exact absurd rfl e
          · exact .inr z
    · rcases hj c hc with z | ⟨j, z, hz⟩
      · rcases List.mem_cons.mp z with rfl | z
        · right
          rw [v1]
          unfold nmC
          split
          · exact ⟨k + 1, rfl, Nat.le_refl _⟩
          · exact ⟨k + 2, rfl, Nat.le_refl _⟩
        · exact .inl z
      · exact .inr ⟨j, z, by omega⟩
theorem vN_inj : ∀ i : Fin 14, ∀ j : Fin 14, vN i.val = vN j.val → i = j := by decide +kernel
theorem vN_ne {i j : Nat} (hi : i < 14) (hj : j < 14) (h : i ≠ j) : vN i ≠ vN j := fun e => h (by have := vN_inj ⟨i, hi⟩ ⟨j, hj⟩ e; exact congrArg Fin.val this)
theorem nmC_ne {way : Int} {k j : Nat} (hk : k ≤ 10) (hj : j ≤ k) : vN j ≠ (nmC way k).1 := by
  unfold nmC
  split
  · exact vN_ne (by omega) (by omega) (by omega)
  · exact vN_ne (by omega) (by omega) (by omega)
/-- those behind have later names -/
theorem VOk.later : ∀ {bs : List Bd} {k : Nat}, VOk bs k → ∀ b ∈ bs, ∃ j, b.v = vN j ∧ k < j ∧ j ≤ k + 2 * bs.length
  | [], _, _, b, hb => by simp at hb
  | c :: r, k, h, b, hb => by
    have kl := nmC_le c.way k
    rcases List.mem_cons.mp hb with rfl | hb
    · rw [h.1]
      unfold nmC
      simp only [List.length_cons]
      split
      · exact ⟨k + 1, rfl, by omega, by omega⟩
      · exact ⟨k + 2, rfl, by omega, by omega⟩
    · obtain ⟨j, e, h1, h2⟩ := VOk.later h.2 b hb
      exact ⟨j, e, by omega, by simp only [List.length_cons]; omega⟩
theorem VOk.inj : ∀ {bs : List Bd} {k : Nat}, VOk bs k → k + 2 * bs.length ≤ 9 → ∀ p ∈ bs, ∀ b ∈ bs, p.v = b.v → p = b
  | [], _, _, _, p, hp, _, _, _ => by simp at hp
  | c :: r, k, h, hk, p, hp, b, hb, e => by
    have kl := nmC_le c.way k
    simp only [List.length_cons] at hk
    have head : ∀ d ∈ r, c.v ≠ d.v := fun d hd e => by
      obtain ⟨j, e2, h1, h2⟩ := VOk.later h.2 d hd
      have hc : ∃ i, c.v = vN i ∧ i ≤ (nmC c.way k).2.2 := by
        rw [h.1]
        unfold nmC
        split
        · exact ⟨k + 1, rfl, Nat.le_refl _⟩
        · exact ⟨k + 2, rfl, Nat.le_refl _⟩
      obtain ⟨i, hi, hle⟩ := hc
      exact vN_ne (i := i) (j := j) (by omega) (by omega) (by omega) (by rw [← hi, ← e2]; exact e)
    rcases List.mem_cons.mp hp with ep | hp2
    · rcases List.mem_cons.mp hb with eb | hb2
      · rw [ep, eb]
      · rw [ep] at e; exact absurd e (head b hb2)
    · rcases List.mem_cons.mp hb with eb | hb2
      · rw [eb] at e; exact absurd e.symm (head p hp2)
      · exact VOk.inj h.2 (by omega) p hp2 b hb2 e
theorem round_flat {way : Int} {x f : Str} {n : Int} {a : Tm} (h : a.flat = true) : (roundT way x n a f).flat = true := by
  unfold roundT
  split
  · simp [Tm.flat, h]
  · split <;> simp [Tm.flat, h]
theorem sum_flat : ∀ (l : List Bd) (a : Tm), a.flat = true → (sumT gV l a).flat = true
  | [], a, h => h
  | b :: r, a, h => sum_flat r _ (by simp [Tm.flat, h])
theorem core_flat (l : List Bd) : (coreG gV l).flat = true := by
  cases l with
  | nil => rfl
  | cons b r => exact sum_flat r _ (by simp [Tm.flat])
theorem build_flat (ex : Option Int) (l : List Bd) : ∀ (bs : List Bd) (k : Nat), (buildP (coreK ex l) bs k).1.flat = true
  | [], k => by
    cases ex with
    | none => exact core_flat l
    | some way => exact round_flat (core_flat l)
  | b :: r, k => round_flat (build_flat ex l r _)
/-- the whole of it -/
theorem own_binders {last : Str} {ex : Option Int} {l : List Bd} (h3 : l.length ≤ 3) (hl : ∀ p ∈ l, p.q ≠ last) (hx : ∀ p ∈ l, ∀ b ∈ l, p.q ≠ b.x) (hq : ∀ p ∈ l, ∀ b ∈ l, p.q = b.q → p.v = b.v) (hv : VOk l 0) :
    ∃ P k, (∀ f, 60 ≤ f → evV f (.quote (buildT last (wrapT ex last (coreG gQ l)) l)) [] 0 = some (some (.pc P, k))) ∧ (∀ f, 60 ≤ f → evW f P [] = some (.num (coreN l))) ∧ ∀ f, 60 ≤ f → ∀ j, evV f P [] j = some (some (.num (coreN l), j)) := by
  have sz := buildP_size (coreK ex l) _ _ (coreK_size ex l) (by omega) l 0
  have e1 : ∀ f, 59 ≤ f → evP f (buildT last (wrapT ex last (coreG gQ l)) l) [] 0 = okP (buildP (coreK ex l) l 0) := fun f hf =>
    evP_build h3 hl hx hq l [] 0 h3 (fun b hb => hb) (fun p hp => .inr hp) hv (by omega) (by simp; omega) f (by omega)
  have e2 : ∀ f, 60 ≤ f → evW f (buildP (coreK ex l) l 0).1 [] = some (.num (coreN l)) := fun f hf =>
    evW_build h3 (fun p hp b hb e => by rw [hv.inj (by omega) p hp b hb e]) (fun p hp way k he hj hk => by
      obtain ⟨j, e, h⟩ := hj p hp
      rw [e]
      exact nmC_ne (by omega) h) l [] 0 (fun b hb => hb) (fun p hp => .inr hp) hv (fun b hb => .inl hb) (by omega) (by simp; omega) f (by omega)
  refine ⟨(buildP (coreK ex l) l 0).1, (buildP (coreK ex l) l 0).2, fun f hf => ?_, e2, fun f hf j => ?_⟩
  · obtain ⟨f, rfl⟩ : ∃ g, f = g + 1 := ⟨f - 1, by omega⟩
    rw [evV]
    (try simp only)
    rw [e1 f (by omega), bindR_some, chkR_some (by omega), if_neg (by omega)]
  · exact (flat_ev f _ [] _ (build_flat ex l l 0) (by rw [Vl.flats]; trivial) (e2 f hf)).2 j
end Qh

/- k09: the kept names, what is due, how deep. -/
namespace Qh
open PySem PySem.Spec PyProof.Rows L2 Dq
theorem build_depth (last : Str) (core : Tm) : ∀ bs : List Bd, (buildT last core bs).depth ≤ core.depth + 4 * bs.length
  | [] => by simp [buildT]
  | b :: r => by
    have h := build_depth last core r
    have p := core.depth_pos
    have := (round_size b.way b.x last b.n (.hole (.lett b.q (.quote (.name b.x)) (.quote (buildT last core r))))).2
    simp only [Tm.depth] at this
    simp only [buildT, stepK, List.length_cons]
    omega
theorem wrap_depth (ex : Option Int) (last : Str) (a : Tm) : (wrapT ex last a).depth ≤ max a.depth 2 + 1 := by
  cases ex with
  | none => simp [wrapT]; omega
  | some way => exact (round_size _ _ _ _ _).2
def qCand : List Str := [Str.ofString "qa", Str.ofString "qb", Str.ofString "qc", Str.ofString "qd", Str.ofString "qe", Str.ofString "qf", Str.ofString "qg"]
theorem qCand_nodup : qCand.Nodup := by decide +kernel
def keptN (ns : List Str) : List Str := qCand.filter fun x => decide (x ∉ ns)
theorem filter_one {a : Str} : ∀ {l : List Str}, l.Nodup → l.length ≤ (l.filter fun x => decide (x ≠ a)).length + 1
  | [], _ => by simp
  | b :: r, h => by
    have h2 := List.nodup_cons.mp h
    by_cases e : b = a
    · subst e
      have hf : r.filter (fun x => decide (x ≠ b)) = r := List.filter_eq_self.mpr fun x hx => by
        have : x ≠ b := fun z => h2.1 (z ▸ hx)
        simp [this]
      rw [List.filter_cons, if_neg (by simp), hf]
      simp
    · have := filter_one (a := a) h2.2
      simp [e] at this ⊢
      omega
theorem kept_len : ∀ ns : List Str, 7 ≤ (keptN ns).length + ns.length
  | [] => by decide +kernel
  | a :: r => by
    have h := kept_len r
    have n : (keptN r).Nodup := List.Nodup.sublist List.filter_sublist qCand_nodup
    have e : keptN (a :: r) = (keptN r).filter fun x => decide (x ≠ a) := by
      unfold keptN
      rw [List.filter_filter]
      congr 1
      funext x
      by_cases h1 : x = a <;> by_cases h2 : x ∈ r <;> simp [h1, h2]
    have := filter_one (a := a) n
    rw [e]
    simp only [List.length_cons]
    omega
theorem kept_three {ns : List Str} (h : ns.length ≤ 4) : ∃ q0 q1 q2 r, keptN ns = q0 :: q1 :: q2 :: r ∧ q0 ≠ q1 ∧ q0 ≠ q2 ∧ q1 ≠ q2 ∧ q0 ∉ ns ∧ q1 ∉ ns ∧ q2 ∉ ns := by
  have l := kept_len ns
  have n : (keptN ns).Nodup := List.Nodup.sublist List.filter_sublist qCand_nodup
  have m : ∀ x ∈ keptN ns, x ∉ ns := fun x hx => by simpa using (List.mem_filter.mp hx).2
  revert l n m
  generalize keptN ns = k
  intro l n m
  match k, l, n, m with
  | [], l, _, _ => simp at l; omega
  | [a], l, _, _ => simp at l; omega
  | [a, b], l, _, _ => simp at l; omega
  | a :: b :: c :: r, l, n, m =>
    have n1 := List.nodup_cons.mp n
    have n2 := List.nodup_cons.mp n1.2
    refine ⟨a, b, c, r, rfl, fun e => n1.1 (by simp [e]), fun e => n1.1 (by simp [e]), fun e => n2.1 (by simp [e]), m a (by simp), m b (by simp), m c (by simp)⟩
theorem due1 {b0 : Bd} {n0 t0 : Int} (h0 : b0.n = n0 % 1000003) (k0 : b0.t = t0 % 1000) : (0 + b0.n * b0.t) % 1000003 = coreN [b0] := by
  simp only [coreN, sumN]
  have a0 : b0.n % 1000003 = b0.n := by omega
  have c0 : b0.t % 1000003 = b0.t := by omega
  rw [a0, c0, Int.zero_add]
theorem due2 {b0 b1 : Bd} {n0 t0 n1 t1 : Int} (h0 : b0.n = n0 % 1000003) (k0 : b0.t = t0 % 1000) (h1 : b1.n = n1 % 1000003) (k1 : b1.t = t1 % 1000) : ((0 + b1.n * b1.t) % 1000003 + b0.n * b0.t) % 1000003 = coreN [b0, b1] := by
  simp only [coreN, sumN]
  have a0 : b0.n % 1000003 = b0.n := by omega
  have c0 : b0.t % 1000003 = b0.t := by omega
  have a1 : b1.n % 1000003 = b1.n := by omega
  have c1 : b1.t % 1000003 = b1.t := by omega
  rw [a0, c0, a1, c1]
  generalize b0.n * b0.t = p
  generalize b1.n * b1.t = q
  omega
theorem due3 {b0 b1 b2 : Bd} {n0 t0 n1 t1 n2 t2 : Int} (h0 : b0.n = n0 % 1000003) (k0 : b0.t = t0 % 1000) (h1 : b1.n = n1 % 1000003) (k1 : b1.t = t1 % 1000) (h2 : b2.n = n2 % 1000003) (k2 : b2.t = t2 % 1000) : (((0 + b2.n * b2.t) % 1000003 + b1.n * b1.t) % 1000003 + b0.n * b0.t) % 1000003 = coreN [b0, b1, b2] := by
  simp only [coreN, sumN]
  have a0 : b0.n % 1000003 = b0.n := by omega
  have c0 : b0.t % 1000003 = b0.t := by omega
  have a1 : b1.n % 1000003 = b1.n := by omega
  have c1 : b1.t % 1000003 = b1.t := by omega
  have a2 : b2.n % 1000003 = b2.n := by omega
  have c2 : b2.t % 1000003 = b2.t := by omega
  rw [a0, c0, a1, c1, a2, c2]
  generalize b0.n * b0.t = p
  generalize b1.n * b1.t = q
  generalize b2.n * b2.t = r
  omega
end Qh

/- k11: pieces that are deep, pieces that are great. -/
namespace Qh
open PySem PySem.Spec PyProof.Rows L2 Dq
abbrev hX (x : Str) : Tm := .hole (.name x)
def stepD (way : Int) (x y : Str) : Tm :=
  if way = 0 then .sum (.num 2) (hX x) else if way = 1 then .lett y (hX x) (.name y) else if way = 2 then .when (.num 0) (.num 7) (hX x)
  else if way = 3 then .product (.num 1) (hX x) else if way = 4 then .turns 1 y (.num 3) (hX x) else .defn y y (Str.ofString "number") (hX x) (.use y (.num 4))
def wrapD (way : Int) (s : Tm × Nat) : Tm × Nat :=
  if way = 0 then (.sum (.num 2) s.1, s.2) else if way = 1 then (.lett (vN (s.2 + 1)) s.1 (.name (vN (s.2 + 1))), s.2 + 1) else if way = 2 then (.when (.num 0) (.num 7) s.1, s.2)
  else if way = 3 then (.product (.num 1) s.1, s.2) else if way = 4 then (.turns 1 (vN (s.2 + 1)) (.num 3) s.1, s.2 + 1) else (.defn (vN (s.2 + 1)) (vN (s.2 + 2)) (Str.ofString "number") s.1 (.use (vN (s.2 + 1)) (.num 4)), s.2 + 2)
def itD (way : Int) : Nat → Tm × Nat
  | 0 => (.sum (.num 1) (.num 0), 0)
  | n + 1 => wrapD way (itD way n)
theorem evP_num (f k : Nat) (n : Int) (ρ : VE) : evP (f + 1) (.num n) ρ k = okP (.num n, k) := by rw [evP]
theorem evP_hX {f k : Nat} {x : Str} {p : Tm} {ρ : VE} (h : lkG ρ x = some (.pc p)) : evP (f + 2) (hX x) ρ k = okP (p, k) := by
  rw [evP]
  (try simp only)
  have : evV (f + 1) (.name x) ρ k = some (some (.pc p, k)) := by rw [evV]; simp only [onR, h]
  rw [this, bindR_some]; rfl
theorem evP_step {way : Int} {x y : Str} {p : Tm} {ρ : VE} {k : Nat} (hyx : y ≠ x) (h : lkG ρ x = some (.pc p)) (hk : k < 999990) (hl : ρ.length ≤ 990) : ∀ f, 5 ≤ f → evP f (stepD way x y) ρ k = okP (wrapD way (p, k)) := by
  intro f hf
  obtain ⟨f, rfl⟩ : ∃ g, f = g + 5 := ⟨f - 5, by omega⟩
  have hp : ∀ v, lkG (putG ρ y v) x = some (.pc p) := fun v => by rw [lkG_put, if_neg (Ne.symm hyx)]; exact h
  unfold stepD wrapD
  split
  · rw [evP]
    (try simp only)
    rw [evP_num, bindR_some, evP_hX (f := f + 2) h, bindR_some]
  · split
    · rw [evP]
      (try simp only)
      rw [chkR_some ⟨by omega, by omega⟩, evP_hX (f := f + 2) h, bindR_some]
      have : evP (f + 4) (.name y) (putG ρ y (.nm (vN (k + 1)))) (k + 1) = okP (.name (vN (k + 1)), k + 1) := by
        rw [evP]
        have : lkG (putG ρ y (.nm (vN (k + 1)))) y = some (.nm (vN (k + 1))) := by rw [lkG_put, if_pos rfl]
        simp only [this, onR]
      rw [this, bindR_some]
    · split
      · rw [evP]
        (try simp only)
        rw [evP_num, bindR_some, evP_num, bindR_some, evP_hX (f := f + 2) h, bindR_some]
      · split
        · rw [evP]
          (try simp only)
          rw [evP_num, bindR_some, evP_hX (f := f + 2) h, bindR_some]
        · split
          · rw [evP]
            (try simp only)
            rw [chkR_some ⟨by omega, by omega⟩, evP_num, bindR_some, evP_hX (f := f + 2) (hp _), bindR_some]
          · rw [evP]
            (try simp only)
            rw [chkR_some ⟨by omega, by omega⟩, evP_hX (f := f + 2) (hp _), bindR_some]
            have : evP (f + 4) (.use y (.num 4)) (putG ρ y (.nm (vN (k + 1)))) (k + 2) = okP (.use (vN (k + 1)) (.num 4), k + 2) := by
              rw [evP]
              have : lkG (putG ρ y (.nm (vN (k + 1)))) y = some (.nm (vN (k + 1))) := by rw [lkG_put, if_pos rfl]
              simp only [this, onR]
              rw [evP_num, bindR_some]
            rw [this, bindR_some]
theorem wrap_dep (way : Int) (s : Tm × Nat) (h : 2 ≤ s.1.depth) : (wrapD way s).1.depth = 1 + s.1.depth ∧ (wrapD way s).1.size ≤ s.1.size + 5 ∧ (wrapD way s).2 ≤ s.2 + 2 := by
  unfold wrapD
  split
  · simp only [Tm.depth, Tm.size]; omega
  · split
    · simp only [Tm.depth, Tm.size]; omega
    · split
      · simp only [Tm.depth, Tm.size]; omega
      · split
        · simp only [Tm.depth, Tm.size]; omega
        · split <;> simp only [Tm.depth, Tm.size] <;> omega
theorem it_dep (way : Int) : ∀ n, (itD way n).1.depth = 2 + n ∧ (itD way n).1.size ≤ 3 + 5 * n ∧ (itD way n).2 ≤ 2 * n
  | 0 => by simp [itD, Tm.depth, Tm.size]
  | n + 1 => by
    have h := it_dep way n
    have w := wrap_dep way (itD way n) (by omega)
    rw [itD]
    omega
theorem ev_quote {f k : Nat} {a : Tm} {ρ : VE} {r : Tm × Nat} (h : evP f a ρ k = okP r) (hd : r.1.depth ≤ 30) (hs : r.1.size ≤ 2000) : evV (f + 1) (.quote a) ρ k = some (some (.pc r.1, r.2)) := by
  rw [evV]
  (try simp only)
  rw [h, bindR_some, chkR_some (by omega), if_neg (by omega)]
theorem one_lk (x : Str) (v : Vl) : lkG (putG [] x v) x = some v := by rw [lkG_put, if_pos rfl]
theorem turn_ok {way : Int} {x y : Str} (hyx : y ≠ x) {i : Nat} (hi : i < 28) : ∀ f, 6 ≤ f → evV f (.quote (stepD way x y)) (putG [] x (.pc (itD way i).1)) (itD way i).2 = some (some (.pc (itD way (i + 1)).1, (itD way (i + 1)).2)) := by
  intro f hf
  obtain ⟨f, rfl⟩ : ∃ g, f = g + 1 := ⟨f - 1, by omega⟩
  have d := it_dep way i
  have d1 := it_dep way (i + 1)
  exact ev_quote (r := itD way (i + 1)) (evP_step hyx (one_lk x _) (by omega) (by have := putG_len [] x (Vl.pc (itD way i).1); simp at this ⊢; omega) f (by omega)) (by omega) (by omega)
theorem turn_gr {way : Int} {x y : Str} (hyx : y ≠ x) {i : Nat} (hi : i = 28) : ∀ f, 6 ≤ f → evG f (.quote (stepD way x y)) (putG [] x (.pc (itD way i).1)) (itD way i).2 := by
  intro f hf
  obtain ⟨f, rfl⟩ : ∃ g, f = g + 1 := ⟨f - 1, by omega⟩
  have d := it_dep way i
  have d1 := it_dep way (i + 1)
  rw [evG]
  exact ⟨itD way (i + 1), evP_step hyx (one_lk x _) (by omega) (by have := putG_len [] x (Vl.pc (itD way i).1); simp at this ⊢; omega) f (by omega), by omega, .inr (by omega)⟩
theorem loop_ok {way : Int} {x y : Str} (hyx : y ≠ x) {f : Nat} (hf : 6 ≤ f) : ∀ m i, i + m ≤ 28 → loopR (fun u j => evV f (.quote (stepD way x y)) (putG [] x u) j) m (.pc (itD way i).1) (itD way i).2 = some (some (.pc (itD way (i + m)).1, (itD way (i + m)).2))
  | 0, i, h => rfl
  | m + 1, i, h => by
    rw [loopR, turn_ok hyx (by omega) f hf, bindR_some]
    have := loop_ok (way := way) hyx hf m (i + 1) (by omega)
    rw [show i + (m + 1) = i + 1 + m by omega]
    exact this
theorem loop_gr {way : Int} {x y : Str} (hyx : y ≠ x) {f : Nat} (hf : 6 ≤ f) : ∀ m i, i ≤ 28 → 28 < i + m → loopG (fun u j => evV f (.quote (stepD way x y)) (putG [] x u) j) (fun u j => evG f (.quote (stepD way x y)) (putG [] x u) j) m (.pc (itD way i).1) (itD way i).2
  | 0, i, h, h2 => by omega
  | m + 1, i, h, h2 => by
    rw [loopG]
    by_cases e : i = 28
    · exact .inl (turn_gr hyx e f hf)
    · exact .inr ⟨_, turn_ok hyx (by omega) f hf, loop_gr hyx hf m (i + 1) (by omega) (by omega)⟩
/-- turns of quotes, the outermost first -/
def chainD (way : Int) (x y : Str) : List Nat → Tm
  | [] => .quote (.sum (.num 1) (.num 0))
  | m :: r => .turns m x (chainD way x y r) (.quote (stepD way x y))
theorem chain_ok {way : Int} {x y : Str} (hyx : y ≠ x) : ∀ ms : List Nat, (∀ m ∈ ms, m ≤ 9) → ms.sum ≤ 28 → ∀ f, 8 + ms.length ≤ f → evV f (chainD way x y ms) [] 0 = some (some (.pc (itD way ms.sum).1, (itD way ms.sum).2))
  | [], h9, h, f, hf => by
    obtain ⟨f, rfl⟩ : ∃ g, f = g + 4 := ⟨f - 4, by omega⟩
    refine ev_quote (r := (.sum (.num 1) (.num 0), 0)) ?_ (by simp [Tm.depth]) (by simp [Tm.size])
    rw [evP]
    (try simp only)
    rw [evP_num, bindR_some, evP_num, bindR_some]
  | m :: r, h9, h, f, hf => by
    obtain ⟨f, rfl⟩ : ∃ g, f = g + 1 := ⟨f - 1, by simp at hf; omega⟩
    have h9m := h9 m List.mem_cons_self
    simp only [List.sum_cons, List.length_cons] at h hf ⊢
    rw [chainD, evV]
    (try simp only)
    rw [chain_ok hyx r (fun m hm => h9 m (List.mem_cons_of_mem _ hm)) (by omega) f (by omega), bindR_some, chkR_some ⟨by omega, by omega, by simp⟩, show ((m : Int)).toNat = m by omega]
    rw [loop_ok hyx (by omega) m r.sum (by omega), Nat.add_comm m r.sum]
theorem chain_gr {way : Int} {x y : Str} (hyx : y ≠ x) : ∀ ms : List Nat, (∀ m ∈ ms, m ≤ 9) → 28 < ms.sum → ∀ f, 8 + ms.length ≤ f → evG f (chainD way x y ms) [] 0
  | [], h9, h, f, hf => by simp at h
  | m :: r, h9, h, f, hf => by
    obtain ⟨f, rfl⟩ : ∃ g, f = g + 1 := ⟨f - 1, by simp at hf; omega⟩
    have h9m := h9 m List.mem_cons_self
    have h9r := fun m hm => h9 m (List.mem_cons_of_mem _ hm)
    simp only [List.sum_cons, List.length_cons] at h hf
    rw [chainD, evG]
    by_cases c : 28 < r.sum
    · exact .inl (chain_gr hyx r h9r c f (by omega))
    · refine .inr ⟨_, chain_ok hyx r h9r (by omega) f (by omega), ⟨by omega, by omega, by simp⟩, ?_⟩
      rw [show ((m : Int)).toNat = m by omega]
      exact loop_gr hyx (by omega) m r.sum (by omega) (by omega)
theorem kind_step {way : Int} {x y : Str} (hyx : y ≠ x) {ρ : Rho} (h : ρ x = some (0, [sPiece])) : kindT (stepD way x y) 1 ρ false = some sNum := by
  have hx : kindT (hX x) 1 ρ false = some sNum := kT_hole (kT_name h)
  have hx2 : ∀ v, kindT (hX x) 1 (setR ρ y v) false = some sNum := fun v => kT_hole (kT_name (by unfold setR; rw [if_neg (Ne.symm hyx)]; exact h))
  unfold stepD
  split
  · exact kT_sum rfl hx
  · split
    · exact kT_let (k1 := sNum) hx (kT_name (by simp [setR]))
    · split
      · exact kT_when rfl rfl hx
      · split
        · exact kT_product rfl hx
        · split
          · exact kT_turns rfl (hx2 _)
          · change kindT (.defn y y sNum (hX x) (.use y (.num 4))) 1 ρ false = some sNum
            refine kT_def (k2 := sNum) (fun _ => rfl) (hx2 _) (kT_use (k1 := sNum) ?_ rfl)
            simp [setR]
theorem kind_chain {way : Int} {x y : Str} (hyx : y ≠ x) {fr : Bool} : ∀ (ms : List Nat) (ρ : Rho), kindT (chainD way x y ms) 0 ρ fr = some sPiece
  | [], ρ => kT_quote rfl
  | m :: r, ρ => kT_turns (kind_chain hyx r ρ) (kT_quote (kind_step hyx (by simp [setR])))
theorem step_dep (way : Int) (x y : Str) : (stepD way x y).depth ≤ 4 := by
  unfold stepD
  split
  · simp [Tm.depth]
  · split
    · simp [Tm.depth]
    · split
      · simp [Tm.depth]
      · split
        · simp [Tm.depth]
        · split <;> simp [Tm.depth]
theorem chain_dep (way : Int) (x y : Str) : ∀ ms : List Nat, (chainD way x y ms).depth ≤ 6 + ms.length
  | [] => by simp [chainD, Tm.depth]
  | m :: r => by
    have := chain_dep way x y r
    have := step_dep way x y
    simp only [chainD, Tm.depth, List.length_cons]
    omega
def valD (way : Int) (n : Nat) : Int := if way = 0 then 1 + 2 * n else 1
theorem evW_num (f : Nat) (n : Int) (ρ : VE) : evW (f + 1) (.num n) ρ = some (.num (n % 1000003)) := by rw [evW]
theorem it_val (way : Int) : ∀ (n : Nat), n ≤ 28 → ∀ (ρ : VE), ρ.length + 2 * n ≤ 900 → ∀ f, 4 + 3 * n ≤ f → evW f (itD way n).1 ρ = some (.num (valD way n))
  | 0, h, ρ, hl, f, hf => by
    obtain ⟨f, rfl⟩ : ∃ g, f = g + 2 := ⟨f - 2, by omega⟩
    show evW (f + 2) (.sum (.num 1) (.num 0)) ρ = _
    rw [evW]
    simp only [evW_num, onO]
    have : valD way 0 = 1 := by unfold valD; split <;> rfl
    rw [numO_ok (by decide) (by decide), numO_ok (by decide) (by decide), this]
    rfl
  | n + 1, h, ρ, hl, f, hf => by
    obtain ⟨f, rfl⟩ : ∃ g, f = g + 3 := ⟨f - 3, by omega⟩
    have ih := fun ρ hl f hf => it_val way n (by omega) ρ hl f hf
    have vb : 0 ≤ valD way n ∧ valD way n < 1000003 := by unfold valD; split <;> omega
    have sm : way ≠ 0 → valD way (n + 1) = valD way n := fun c => by unfold valD; rw [if_neg c, if_neg c]
    rw [itD]
    unfold wrapD
    split
    · rename_i c
      have e : valD way (n + 1) = 2 + valD way n := by unfold valD; rw [if_pos c, if_pos c]; omega
      rw [evW]
      simp only [evW_num, ih ρ (by omega) (f + 2) (by omega), onO]
      rw [numO_ok (by decide) (by decide), numO_ok vb.1 vb.2, e]
      have : (2 % 1000003 + valD way n) % 1000003 = 2 + valD way n := by
        have : valD way n ≤ 100 := by unfold valD; split <;> omega
        omega
      rw [this]
    · rename_i c
      rw [sm c]
      split
      · rw [evW]
        simp only [ih ρ (by omega) (f + 2) (by omega), onO]
        rw [chkO_ok (by omega), evW, lkG_put, if_pos rfl]
      · split
        · rw [evW]
          simp only [evW_num, onO]
          rw [numO_ok (by decide) (by decide), if_neg (by decide)]
          exact ih ρ (by omega) (f + 2) (by omega)
        · split
          · rw [evW]
            simp only [evW_num, ih ρ (by omega) (f + 2) (by omega), onO]
            rw [numO_ok (by decide) (by decide), numO_ok vb.1 vb.2]
            have : 1 % 1000003 * valD way n % 1000003 = valD way n := by
              have : (1 : Int) % 1000003 = 1 := by decide
              rw [this]; omega
            rw [this]
          · have pl := fun x v => putG_len ρ x v
            split
            · rw [evW]
              simp only [evW_num, onO]
              rw [chkO_ok ⟨by decide, by decide, by omega⟩, show Int.toNat 1 = 1 from rfl, loopO, ih _ (by have := pl (vN ((itD way n).2 + 1)) (.num (3 % 1000003)); omega) (f + 2) (by omega)]
              rfl
            · rw [evW]
              (try simp only)
              rw [chkO_ok (by omega), evW]
              have : lkG (putG ρ (vN ((itD way n).2 + 1)) (.fn (vN ((itD way n).2 + 2)) (itD way n).1 ρ)) (vN ((itD way n).2 + 1)) = some (.fn (vN ((itD way n).2 + 2)) (itD way n).1 ρ) := by rw [lkG_put, if_pos rfl]
              simp only [evW_num, onO, this]
              rw [chkO_ok (by omega)]
              exact ih _ (by have := pl (vN ((itD way n).2 + 2)) (.num (4 % 1000003)); omega) (f + 1) (by omega)
theorem it_flat (way : Int) : ∀ n, (itD way n).1.flat = true
  | 0 => rfl
  | n + 1 => by
    have h := it_flat way n
    rw [itD]
    unfold wrapD
    split
    · simp [Tm.flat, h]
    · split
      · simp [Tm.flat, h]
      · split
        · simp [Tm.flat, h]
        · split
          · simp [Tm.flat, h]
          · split <;> simp [Tm.flat, h]
/-! ### great -/
def Tm.isS : Tm → Bool
  | .num _ => true
  | .sum a b => a.isS && b.isS
  | _ => false
def Tm.sv : Tm → Int
  | .num n => n
  | .sum a b => a.sv + b.sv
  | _ => 0
theorem evP_isS : ∀ (t : Tm) (ρ : VE) (k f : Nat), t.isS = true → t.depth ≤ f → evP f t ρ k = okP (t, k) := by
  intro t
  induction t with
  | num n => intro ρ k f h hf; obtain ⟨f, rfl⟩ : ∃ g, f = g + 1 := ⟨f - 1, by simp only [Tm.depth] at hf; omega⟩; exact evP_num f k n ρ
  | sum a b iha ihb =>
    intro ρ k f h hf
    simp only [Tm.depth] at hf
    simp only [Tm.isS, Bool.and_eq_true] at h
    obtain ⟨f, rfl⟩ : ∃ g, f = g + 1 := ⟨f - 1, by omega⟩
    rw [evP]
    (try simp only)
    rw [iha ρ k f h.1 (by omega), bindR_some, ihb ρ k f h.2 (by omega), bindR_some]
  | _ => intro ρ k f h; cases h
theorem evW_isS : ∀ (t : Tm) (ρ : VE) (f : Nat), t.isS = true → t.depth ≤ f → evW f t ρ = some (.num (t.sv % 1000003)) := by
  intro t
  induction t with
  | num n => intro ρ f h hf; obtain ⟨f, rfl⟩ : ∃ g, f = g + 1 := ⟨f - 1, by simp only [Tm.depth] at hf; omega⟩; exact evW_num f n ρ
  | sum a b iha ihb =>
    intro ρ f h hf
    simp only [Tm.depth] at hf
    simp only [Tm.isS, Bool.and_eq_true] at h
    obtain ⟨f, rfl⟩ : ∃ g, f = g + 1 := ⟨f - 1, by omega⟩
    rw [evW]
    simp only [iha ρ f h.1 (by omega), ihb ρ f h.2 (by omega), onO, numO_ok (mN _).1 (mN _).2, Tm.sv]
    rw [← Int.add_emod]
  | _ => intro ρ f h; cases h
theorem flat_isS (t : Tm) (h : t.isS = true) : t.flat = true := by
  induction t <;> simp_all [Tm.isS, Tm.flat]
def dbl : Nat → Tm
  | 0 => .num 1
  | n + 1 => .sum (dbl n) (dbl n)
theorem dbl_is : ∀ n, (dbl n).isS = true ∧ (dbl n).size + 1 = 2 * 2 ^ n ∧ (dbl n).depth = n + 1 ∧ (dbl n).sv = 2 ^ n
  | 0 => by simp [dbl, Tm.isS, Tm.size, Tm.depth, Tm.sv]
  | n + 1 => by
    obtain ⟨h1, h2, h3, h4⟩ := dbl_is n
    refine ⟨by simp [dbl, Tm.isS, h1], ?_, ?_, ?_⟩
    · simp only [dbl, Tm.size]; rw [Nat.pow_succ]; omega
    · simp only [dbl, Tm.depth]; omega
    · simp only [dbl, Tm.sv, h4]; rw [Int.pow_succ]; omega
def wideT : Nat → Nat → Tm
  | 0, _ => .num 1
  | f + 1, m => if m = 1 then .num 1 else .sum (wideT f (m / 2)) (wideT f (m - m / 2))
theorem wide_is : ∀ (f m : Nat), 1 ≤ m → m ≤ 2 ^ f → (wideT f m).isS = true ∧ (wideT f m).size + 1 = 2 * m ∧ (wideT f m).depth ≤ f + 1 ∧ (wideT f m).sv = m
  | 0, m, h, h2 => by
    obtain rfl : m = 1 := by simp at h2; omega
    simp [wideT, Tm.isS, Tm.size, Tm.depth, Tm.sv]
  | f + 1, m, h, h2 => by
    rw [wideT]
    split
    · rename_i e; subst e; simp [Tm.isS, Tm.size, Tm.depth, Tm.sv]
    · rename_i e
      rw [Nat.pow_succ] at h2
      obtain ⟨a1, a2, a3, a4⟩ := wide_is f (m / 2) (by omega) (by omega)
      obtain ⟨b1, b2, b3, b4⟩ := wide_is f (m - m / 2) (by omega) (by omega)
      refine ⟨by simp [Tm.isS, a1, b1], ?_, ?_, ?_⟩
      · simp only [Tm.size]; omega
      · simp only [Tm.depth]; omega
      · simp only [Tm.sv]; omega
abbrev twT (x : Str) : Tm := .quote (.sum (hX x) (hX x))
def startT (x : Str) (even : Bool) : Tm :=
  if even then .lett x (.turns 9 x (.lift (.num 1)) (twT x)) (.quote (.when (.num 1) (hX x) (.num 2))) else .turns 9 x (.lift (.num 1)) (twT x)
def heldP (even : Bool) : Tm := if even then .when (.num 1) (dbl 9) (.num 2) else dbl 9
def greatT (x : Str) (even : Bool) (w : Tm) : Tm := .lett x (startT x even) (.quote (.sum (hX x) w))
theorem tw_turn {x : Str} {i : Nat} (hi : i < 9) : ∀ f, 5 ≤ f → evV f (twT x) (putG [] x (.pc (dbl i))) 0 = some (some (.pc (dbl (i + 1)), 0)) := by
  intro f hf
  obtain ⟨f, rfl⟩ : ∃ g, f = g + 4 := ⟨f - 4, by omega⟩
  have d := dbl_is (i + 1)
  have p : 2 ^ (i + 1) ≤ 2 ^ 9 := pow_mono (by omega)
  refine ev_quote (r := (dbl (i + 1), 0)) ?_ (by show (dbl (i + 1)).depth ≤ 30; omega) (by show (dbl (i + 1)).size ≤ 2000; omega)
  rw [evP]
  (try simp only)
  rw [evP_hX (f := f) (one_lk x _), bindR_some, evP_hX (f := f) (one_lk x _), bindR_some]
  rfl
theorem tw_loop {x : Str} {f : Nat} (hf : 5 ≤ f) : ∀ m i, i + m ≤ 9 → loopR (fun u j => evV f (twT x) (putG [] x u) j) m (.pc (dbl i)) 0 = some (some (.pc (dbl (i + m)), 0))
  | 0, i, h => rfl
  | m + 1, i, h => by
    rw [loopR, tw_turn (by omega) f hf, bindR_some, show i + (m + 1) = i + 1 + m by omega]
    exact tw_loop hf m (i + 1) (by omega)
theorem tw_all {x : Str} : ∀ f, 8 ≤ f → evV f (.turns 9 x (.lift (.num 1)) (twT x)) [] 0 = some (some (.pc (dbl 9), 0)) := by
  intro f hf
  obtain ⟨f, rfl⟩ : ∃ g, f = g + 3 := ⟨f - 3, by omega⟩
  rw [evV]
  (try simp only)
  have : evV (f + 2) (.lift (.num 1)) [] 0 = some (some (.pc (.num 1), 0)) := by
    rw [evV]
    (try simp only)
    have : evV (f + 1) (.num 1) [] 0 = some (some (.num 1, 0)) := by rw [evV]; rfl
    rw [this, bindR_some]; rfl
  rw [this, bindR_some, chkR_some ⟨by decide, by decide, by simp⟩]
  exact tw_loop (by omega) 9 0 (by decide)
theorem start_ok {x : Str} (even : Bool) : ∀ f, 10 ≤ f → evV f (startT x even) [] 0 = some (some (.pc (heldP even), 0)) := by
  intro f hf
  cases even with
  | false => exact tw_all f (by omega)
  | true =>
    obtain ⟨f, rfl⟩ : ∃ g, f = g + 5 := ⟨f - 5, by omega⟩
    show evV (f + 5) (.lett x (.turns 9 x (.lift (.num 1)) (twT x)) (.quote (.when (.num 1) (hX x) (.num 2)))) [] 0 = _
    rw [evV]
    (try simp only)
    have d := dbl_is 9
    rw [tw_all (f + 4) (by omega), bindR_some, chkR_some (by simp)]
    refine ev_quote (f := f + 3) (r := (heldP true, 0)) ?_ (by show Tm.depth (.when (.num 1) (dbl 9) (.num 2)) ≤ 30; simp only [Tm.depth]; omega) (by show Tm.size (.when (.num 1) (dbl 9) (.num 2)) ≤ 2000; simp only [Tm.size]; omega)
    rw [evP]
    (try simp only)
    rw [evP_num, bindR_some, evP_hX (f := f) (one_lk x _), bindR_some, evP_num, bindR_some]
    rfl
theorem held_is (even : Bool) : (heldP even).size = (if even then 1026 else 1023) ∧ (heldP even).depth ≤ 11 ∧ (heldP even).flat = true ∧ ∀ ρ f, 11 ≤ f → evW f (heldP even) ρ = some (.num 512) := by
  obtain ⟨h1, h2, h3, h4⟩ := dbl_is 9
  have e9 : ∀ ρ f, 10 ≤ f → evW f (dbl 9) ρ = some (.num 512) := fun ρ f hf => by rw [evW_isS _ ρ f h1 (by omega), h4]; rfl
  cases even with
  | false => exact ⟨by show (dbl 9).size = 1023; omega, by show (dbl 9).depth ≤ 11; omega, flat_isS _ h1, fun ρ f hf => e9 ρ f (by omega)⟩
  | true =>
    refine ⟨by show Tm.size (.when (.num 1) (dbl 9) (.num 2)) = 1026; simp only [Tm.size]; omega, by show Tm.depth (.when (.num 1) (dbl 9) (.num 2)) ≤ 11; simp only [Tm.depth]; omega, by show Tm.flat (.when (.num 1) (dbl 9) (.num 2)) = true; simp [Tm.flat, flat_isS _ h1], fun ρ f hf => ?_⟩
    obtain ⟨f, rfl⟩ : ∃ g, f = g + 2 := ⟨f - 2, by omega⟩
    show evW (f + 2) (.when (.num 1) (dbl 9) (.num 2)) ρ = _
    rw [evW]
    simp only [evW_num, onO]
    rw [numO_ok (by decide) (by decide), if_pos (by decide)]
    exact e9 ρ (f + 1) (by omega)
section
variable {x : Str} {even : Bool} {m : Nat} (h1 : 1 ≤ m) (h2 : m ≤ 512)
include h1 h2
theorem great_piece : (Tm.sum (heldP even) (wideT 9 m)).size = (if even then 1026 else 1023) + 2 * m ∧ (Tm.sum (heldP even) (wideT 9 m)).depth ≤ 12 ∧ (Tm.sum (heldP even) (wideT 9 m)).flat = true ∧
    ∀ ρ f, 12 ≤ f → evW f (.sum (heldP even) (wideT 9 m)) ρ = some (.num (512 + m)) := by
  obtain ⟨w1, w2, w3, w4⟩ := wide_is 9 m h1 h2
  obtain ⟨a1, a2, a3, a4⟩ := held_is even
  refine ⟨by simp only [Tm.size]; rw [a1]; omega, by simp only [Tm.depth]; omega, by simp [Tm.flat, a3, flat_isS _ w1], fun ρ f hf => ?_⟩
  obtain ⟨f, rfl⟩ : ∃ g, f = g + 1 := ⟨f - 1, by omega⟩
  rw [evW]
  simp only [a4 ρ f (by omega), evW_isS _ ρ f w1 (by omega), w4, onO]
  rw [numO_ok (by decide) (by decide), numO_ok (mN _).1 (mN _).2, show (512 + (m : Int) % 1000003) % 1000003 = 512 + m by omega]
theorem great_ev : ∀ f, 14 ≤ f → evP f (.sum (hX x) (wideT 9 m)) (putG [] x (.pc (heldP even))) 0 = okP (.sum (heldP even) (wideT 9 m), 0) := by
  intro f hf
  obtain ⟨w1, w2, w3, w4⟩ := wide_is 9 m h1 h2
  obtain ⟨f, rfl⟩ : ∃ g, f = g + 3 := ⟨f - 3, by omega⟩
  rw [evP]
  (try simp only)
  rw [evP_hX (f := f) (one_lk x _), bindR_some, evP_isS _ _ _ _ w1 (by omega), bindR_some]
theorem great_ok (hs : (if even then 1026 else 1023) + 2 * m ≤ 2000) : ∀ f, 18 ≤ f → evV f (greatT x even (wideT 9 m)) [] 0 = some (some (.pc (.sum (heldP even) (wideT 9 m)), 0)) := by
  intro f hf
  obtain ⟨f, rfl⟩ : ∃ g, f = g + 2 := ⟨f - 2, by omega⟩
  have p := great_piece (even := even) h1 h2
  rw [greatT, evV]
  (try simp only)
  rw [start_ok even (f + 1) (by omega), bindR_some, chkR_some (by simp)]
  exact ev_quote (r := (.sum (heldP even) (wideT 9 m), 0)) (great_ev h1 h2 f (by omega)) (by simp only; omega) (by simp only; omega)
theorem great_gr (hs : 2000 < (if even then 1026 else 1023) + 2 * m) : ∀ f, 18 ≤ f → evG f (greatT x even (wideT 9 m)) [] 0 := by
  intro f hf
  obtain ⟨f, rfl⟩ : ∃ g, f = g + 2 := ⟨f - 2, by omega⟩
  have p := great_piece (even := even) h1 h2
  rw [greatT, evG]
  refine .inr ⟨_, start_ok even (f + 1) (by omega), by simp, ?_⟩
  rw [evG]
  exact ⟨_, great_ev h1 h2 f (by omega), by simp only; omega, .inl (by simp only; omega)⟩
end
theorem kind_isS {t : Tm} (h : t.isS = true) (ρ : Rho) : kindT t 1 ρ false = some sNum := by
  induction t with
  | num n => rfl
  | sum a b iha ihb =>
    simp only [Tm.isS, Bool.and_eq_true] at h
    exact kT_sum (iha h.1) (ihb h.2)
  | _ => cases h
theorem kind_great {x : Str} {even : Bool} {w : Tm} (hw : w.isS = true) {fr : Bool} : kindT (greatT x even w) 0 (fun _ => none) fr = some sPiece := by
  have hx : ∀ ρ : Rho, kindT (hX x) 1 (setR ρ x (0, [sPiece])) false = some sNum := fun ρ => kT_hole (kT_name (by simp [setR]))
  have st : kindT (.turns 9 x (.lift (.num 1)) (twT x)) 0 (fun _ => none) fr = some sPiece := kT_turns (kT_lift rfl) (kT_quote (kT_sum (hx _) (hx _)))
  refine kT_let (k1 := sPiece) ?_ (kT_quote (kT_sum (hx _) (kind_isS hw _)))
  unfold startT
  cases even with
  | true => exact kT_let (k1 := sPiece) st (kT_quote (kT_when rfl (hx _) rfl))
  | false => exact st
theorem great_dep (x : Str) (even : Bool) (w : Tm) (h : w.depth ≤ 20) : (greatT x even w).depth ≤ 30 := by
  unfold greatT startT
  cases even <;> simp [Tm.depth] <;> omega
end Qh

/- The drawn names are apart. -/
namespace Qh
open PySem PySem.Spec PyProof.Rows L2 Dq TL
theorem joinL_one : ∀ l : List Nat, joinL [] (l.map fun c => [c]) = l
  | [] => rfl
  | [a] => rfl
  | a :: b :: r => by
    have h := joinL_one (b :: r)
    simp only [List.map_cons] at h ⊢
    rw [joinL, h]
    rfl
theorem words_apart : ∀ z : Fin 8, wordsL.getD z.val (Str.ofString "") ≠ wordsL.getD ((z.val + 1) % 8) (Str.ofString "") := by decide +kernel
def codes (s : List Int) (w : Int) : List Nat := ((List.range (nameLen s)).map fun k : Nat => 97 + ((mixed s 0 / 64 + 5 * (k : Int)) % 26).toNat).set (mixed s 0 / 8 % (nameLen s : Int)).toNat (97 + ((mixed s 0 / 64 + 5 * (mixed s 0 / 8 % (nameLen s : Int)) + w) % 26).toNat)
theorem tl_empty : tl (Str.ofString "") = [] := by decide +kernel
theorem tl_name (s : List Int) (w : Int) : tl (Txt.join (Str.ofString "") (nameSigns s w)) = codes s w := by
  rw [join_eq, tl_join, tl_empty]
  have : (nameSigns s w).map tl = (codes s w).map fun c => [c] := by
    unfold nameSigns codes
    rw [List.map_set, List.map_map, List.map_set, List.map_map]
    rfl
  rw [this, joinL_one]
theorem name_apart (s : List Int) : nameOf s 1 ≠ nameOf s 0 := by
  unfold nameOf
  have m0 := mixed_lo s 0
  split
  · intro e
    have h := words_apart ⟨(mixed s 0 / 16 % 8).toNat, by omega⟩
    simp only at h
    rw [show (mixed s 0 / 16 + 0) % 8 = mixed s 0 / 16 % 8 by omega, show ((mixed s 0 / 16 + 1) % 8).toNat = ((mixed s 0 / 16 % 8).toNat + 1) % 8 by omega] at e
    exact h e.symm
  · intro e
    have h := congrArg tl e
    rw [tl_name, tl_name] at h
    have nl := nameLen_int s
    have np : 0 < nameLen s := by unfold nameLen; omega
    have a0 : 0 ≤ mixed s 0 / 8 % (nameLen s : Int) := Int.emod_nonneg _ (by omega)
    have a1 : mixed s 0 / 8 % (nameLen s : Int) < (nameLen s : Int) := Int.emod_lt_of_pos _ (by omega)
    have g := congrArg (fun l : List Nat => l[(mixed s 0 / 8 % (nameLen s : Int)).toNat]?) h
    unfold codes at g
    (try simp only at g)
    rw [List.getElem?_set_self (by rw [List.length_map, List.length_range]; omega), List.getElem?_set_self (by rw [List.length_map, List.length_range]; omega)] at g
    injection g with g
    omega
end Qh

namespace Qh
open PySem PySem.Spec PyProof.Rows L2 Dq
def top (i : Nat) : Stmt := PySem.Challenge.pw_quotehall_k11_too_great.main.body.getD i (.Pass ⟨0, 0, 0, 0⟩)
abbrev s_meaning : Stmt := top 7
abbrev N_meaning : List Str := ["names", "name", "level", "found"]
theorem sc_meaning : FnScope N_meaning ["names", "name", "level"] (defScope s_meaning) := ⟨rfl, rfl, rfl, by decide +kernel, rfl, by decide +kernel, by decide +kernel⟩
abbrev s_bound : Stmt := top 8
abbrev N_bound : List Str := ["names", "name", "level", "kinds", "more"]
theorem sc_bound : FnScope N_bound ["names", "name", "level", "kinds"] (defScope s_bound) := ⟨rfl, rfl, rfl, by decide +kernel, rfl, by decide +kernel, by decide +kernel⟩
abbrev s_wanted : Stmt := top 9
abbrev N_wanted : List Str := ["kind", "due"]
theorem sc_wanted : FnScope N_wanted ["kind", "due"] (defScope s_wanted) := ⟨rfl, rfl, rfl, by decide +kernel, rfl, by decide +kernel, by decide +kernel⟩
abbrev s_kind_at : Stmt := top 10
abbrev N_kind_at : List Str := ["term", "level", "names", "free", "word", "kinds", "kind"]
theorem sc_kind_at : FnScope N_kind_at ["term", "level", "names", "free"] (defScope s_kind_at) := ⟨rfl, rfl, rfl, by decide +kernel, rfl, by decide +kernel, by decide +kernel⟩
abbrev s_kind_of_binder : Stmt := top 11
abbrev N_kind_of_binder : List Str := ["term", "level", "names", "free", "word", "kind", "kinds"]
theorem sc_kind_of_binder : FnScope N_kind_of_binder ["term", "level", "names", "free"] (defScope s_kind_of_binder) := ⟨rfl, rfl, rfl, by decide +kernel, rfl, by decide +kernel, by decide +kernel⟩
abbrev s_kind_of_staged : Stmt := top 12
abbrev N_kind_of_staged : List Str := ["term", "level", "names", "free", "word"]
theorem sc_kind_of_staged : FnScope N_kind_of_staged ["term", "level", "names", "free"] (defScope s_kind_of_staged) := ⟨rfl, rfl, rfl, by decide +kernel, rfl, by decide +kernel, by decide +kernel⟩
abbrev s_kind_of : Stmt := top 13
abbrev N_kind_of : List Str := ["term"]
theorem sc_kind_of : FnScope N_kind_of ["term"] (defScope s_kind_of) := ⟨rfl, rfl, rfl, by decide +kernel, rfl, by decide +kernel, by decide +kernel⟩
abbrev s_parts_of : Stmt := top 15
abbrev N_parts_of : List Str := ["term", "word"]
theorem sc_parts_of : FnScope N_parts_of ["term"] (defScope s_parts_of) := ⟨rfl, rfl, rfl, by decide +kernel, rfl, by decide +kernel, by decide +kernel⟩
abbrev s_size_of : Stmt := top 16
abbrev N_size_of : List Str := ["term", "part"]
theorem sc_size_of : FnScope N_size_of ["term"] (defScope s_size_of) := ⟨rfl, rfl, rfl, by decide +kernel, rfl, by decide +kernel, by decide +kernel⟩
abbrev s_depth_of : Stmt := top 17
abbrev N_depth_of : List Str := ["term", "part"]
theorem sc_depth_of : FnScope N_depth_of ["term"] (defScope s_depth_of) := ⟨rfl, rfl, rfl, by decide +kernel, rfl, by decide +kernel, by decide +kernel⟩
abbrev s_Maker___init__ : Stmt := inClass (top 22) 0
abbrev N_Maker___init__ : List Str := ["self"]
theorem sc_Maker___init__ : FnScope N_Maker___init__ ["self"] (defScope s_Maker___init__) := ⟨rfl, rfl, rfl, by decide +kernel, rfl, by decide +kernel, by decide +kernel⟩
abbrev s_Maker_fresh : Stmt := inClass (top 22) 1
abbrev N_Maker_fresh : List Str := ["self"]
theorem sc_Maker_fresh : FnScope N_Maker_fresh ["self"] (defScope s_Maker_fresh) := ⟨rfl, rfl, rfl, by decide +kernel, rfl, by decide +kernel, by decide +kernel⟩
abbrev s_Maker_with_name : Stmt := inClass (top 22) 2
abbrev N_Maker_with_name : List Str := ["self", "names", "name", "value", "more"]
theorem sc_Maker_with_name : FnScope N_Maker_with_name ["self", "names", "name", "value"] (defScope s_Maker_with_name) := ⟨rfl, rfl, rfl, by decide +kernel, rfl, by decide +kernel, by decide +kernel⟩
abbrev s_Maker_value : Stmt := inClass (top 22) 3
abbrev N_Maker_value : List Str := ["self", "term", "names", "word", "chosen", "found", "turn", "given", "x", "body", "there"]
theorem sc_Maker_value : FnScope N_Maker_value ["self", "term", "names"] (defScope s_Maker_value) := ⟨rfl, rfl, rfl, by decide +kernel, rfl, by decide +kernel, by decide +kernel⟩
abbrev s_Maker_staged : Stmt := inClass (top 22) 4
abbrev N_Maker_staged : List Str := ["self", "term", "names", "piece"]
theorem sc_Maker_staged : FnScope N_Maker_staged ["self", "term", "names"] (defScope s_Maker_staged) := ⟨rfl, rfl, rfl, by decide +kernel, rfl, by decide +kernel, by decide +kernel⟩
abbrev s_Maker_piece : Stmt := inClass (top 22) 5
abbrev N_Maker_piece : List Str := ["self", "term", "names", "word", "x", "start", "f", "body", "part"]
theorem sc_Maker_piece : FnScope N_Maker_piece ["self", "term", "names"] (defScope s_Maker_piece) := ⟨rfl, rfl, rfl, by decide +kernel, rfl, by decide +kernel, by decide +kernel⟩
abbrev s_joined : Stmt := top 23
abbrev N_joined : List Str := ["word", "left", "right"]
theorem sc_joined : FnScope N_joined ["word", "left", "right"] (defScope s_joined) := ⟨rfl, rfl, rfl, by decide +kernel, rfl, by decide +kernel, by decide +kernel⟩
abbrev s_told : Stmt := top 24
abbrev N_told : List Str := ["term"]
theorem sc_told : FnScope N_told ["term"] (defScope s_told) := ⟨rfl, rfl, rfl, by decide +kernel, rfl, by decide +kernel, by decide +kernel⟩
abbrev s_made : Stmt := top 25
abbrev N_made : List Str := ["term"]
theorem sc_made : FnScope N_made ["term"] (defScope s_made) := ⟨rfl, rfl, rfl, by decide +kernel, rfl, by decide +kernel, by decide +kernel⟩
abbrev s__law_cell_at : Stmt := top 27
abbrev N__law_cell_at : List Str := ["_law_script", "_law_k"]
theorem sc__law_cell_at : FnScope N__law_cell_at ["_law_script", "_law_k"] (defScope s__law_cell_at) := ⟨rfl, rfl, rfl, by decide +kernel, rfl, by decide +kernel, by decide +kernel⟩
abbrev s__law_mixed : Stmt := top 28
abbrev N__law_mixed : List Str := ["_law_script", "_law_k", "_law_number_here"]
theorem sc__law_mixed : FnScope N__law_mixed ["_law_script", "_law_k"] (defScope s__law_mixed) := ⟨rfl, rfl, rfl, by decide +kernel, rfl, by decide +kernel, by decide +kernel⟩
abbrev s__law_drawn : Stmt := top 29
abbrev N__law_drawn : List Str := ["_law_number_here", "_law_sizes", "_law_some", "_law_size"]
theorem sc__law_drawn : FnScope N__law_drawn ["_law_number_here", "_law_sizes"] (defScope s__law_drawn) := ⟨rfl, rfl, rfl, by decide +kernel, rfl, by decide +kernel, by decide +kernel⟩
abbrev s__law_name : Stmt := top 30
abbrev N__law_name : List Str := ["_law_script", "_law_which", "_law_letters", "_law_number_here", "_law_size", "_law_some", "_law_at", "_law_k"]
theorem sc__law_name : FnScope N__law_name ["_law_script", "_law_which"] (defScope s__law_name) := ⟨rfl, rfl, rfl, by decide +kernel, rfl, by decide +kernel, by decide +kernel⟩
abbrev s__law_wide : Stmt := top 33
abbrev N__law_wide : List Str := ["_law_many", "_law_half"]
theorem sc__law_wide : FnScope N__law_wide ["_law_many"] (defScope s__law_wide) := ⟨rfl, rfl, rfl, by decide +kernel, rfl, by decide +kernel, by decide +kernel⟩
abbrev s__law_great : Stmt := top 34
abbrev N__law_great : List Str := ["_law_x", "_law_size", "_law_twice", "_law_start", "_law_due", "_law_held", "_law_more"]
theorem sc__law_great : FnScope N__law_great ["_law_x", "_law_size"] (defScope s__law_great) := ⟨rfl, rfl, rfl, by decide +kernel, rfl, by decide +kernel, by decide +kernel⟩
abbrev s__law_step : Stmt := top 35
abbrev N__law_step : List Str := ["_law_way", "_law_x", "_law_y", "_law_hole"]
theorem sc__law_step : FnScope N__law_step ["_law_way", "_law_x", "_law_y"] (defScope s__law_step) := ⟨rfl, rfl, rfl, by decide +kernel, rfl, by decide +kernel, by decide +kernel⟩
abbrev s__law_deep : Stmt := top 36
abbrev N__law_deep : List Str := ["_law_x", "_law_y", "_law_deep_here", "_law_way", "_law_found", "_law_left"]
theorem sc__law_deep : FnScope N__law_deep ["_law_x", "_law_y", "_law_deep_here", "_law_way"] (defScope s__law_deep) := ⟨rfl, rfl, rfl, by decide +kernel, rfl, by decide +kernel, by decide +kernel⟩
abbrev s__law_refused : Stmt := top 37
abbrev N__law_refused : List Str := ["_law_program", "_law_way", "e", "_law_other"]
theorem sc__law_refused : FnScope N__law_refused ["_law_program", "_law_way"] (defScope s__law_refused) := ⟨rfl, rfl, rfl, by decide +kernel, rfl, by decide +kernel, by decide +kernel⟩
abbrev s__law_wrong_kind : Stmt := top 38
abbrev N__law_wrong_kind : List Str := ["_law_program", "_law_way", "e"]
theorem sc__law_wrong_kind : FnScope N__law_wrong_kind ["_law_program", "_law_way"] (defScope s__law_wrong_kind) := ⟨rfl, rfl, rfl, by decide +kernel, rfl, by decide +kernel, by decide +kernel⟩
abbrev s__law_done : Stmt := top 39
abbrev N__law_done : List Str := ["_law_program", "_law_way"]
theorem sc__law_done : FnScope N__law_done ["_law_program", "_law_way"] (defScope s__law_done) := ⟨rfl, rfl, rfl, by decide +kernel, rfl, by decide +kernel, by decide +kernel⟩
abbrev s_law : Stmt := top 40
abbrev N_law : List Str := ["_law_script", "_law_some", "_law_x", "_law_size", "_law_deep_here", "_law_piece", "_law_alone", "_law_found"]
theorem sc_law : FnScope N_law ["_law_script"] (defScope s_law) := ⟨rfl, rfl, rfl, by decide +kernel, rfl, by decide +kernel, by decide +kernel⟩
/-- what stands behind the top -/
structure G (K : PySem.W.Frag) (mg : Str → Option Value) where
  C_Maker : Addr
  a_meaning : Addr
  d_meaning : FuncData
  a_bound : Addr
  d_bound : FuncData
  a_wanted : Addr
  d_wanted : FuncData
  a_kind_at : Addr
  d_kind_at : FuncData
  a_kind_of_binder : Addr
  d_kind_of_binder : FuncData
  a_kind_of_staged : Addr
  d_kind_of_staged : FuncData
  a_kind_of : Addr
  d_kind_of : FuncData
  a_parts_of : Addr
  d_parts_of : FuncData
  a_size_of : Addr
  d_size_of : FuncData
  a_depth_of : Addr
  d_depth_of : FuncData
  a_Maker___init__ : Addr
  d_Maker___init__ : FuncData
  a_Maker_fresh : Addr
  d_Maker_fresh : FuncData
  a_Maker_with_name : Addr
  d_Maker_with_name : FuncData
  a_Maker_value : Addr
  d_Maker_value : FuncData
  a_Maker_staged : Addr
  d_Maker_staged : FuncData
  a_Maker_piece : Addr
  d_Maker_piece : FuncData
  a_joined : Addr
  d_joined : FuncData
  a_told : Addr
  d_told : FuncData
  a_made : Addr
  d_made : FuncData
  a__law_cell_at : Addr
  d__law_cell_at : FuncData
  a__law_mixed : Addr
  d__law_mixed : FuncData
  a__law_drawn : Addr
  d__law_drawn : FuncData
  a__law_name : Addr
  d__law_name : FuncData
  a__law_wide : Addr
  d__law_wide : FuncData
  a__law_great : Addr
  d__law_great : FuncData
  a__law_step : Addr
  d__law_step : FuncData
  a__law_deep : Addr
  d__law_deep : FuncData
  a__law_refused : Addr
  d__law_refused : FuncData
  a__law_wrong_kind : Addr
  d__law_wrong_kind : FuncData
  a__law_done : Addr
  d__law_done : FuncData
  a_law : Addr
  d_law : FuncData
  p_meaning : Df K mg "meaning" s_meaning ["names", "name", "level"] a_meaning d_meaning
  p_bound : Df K mg "bound" s_bound ["names", "name", "level", "kinds"] a_bound d_bound
  p_wanted : Df K mg "wanted" s_wanted ["kind", "due"] a_wanted d_wanted
  p_kind_at : Df K mg "kind_at" s_kind_at ["term", "level", "names", "free"] a_kind_at d_kind_at
  p_kind_of_binder : Df K mg "kind_of_binder" s_kind_of_binder ["term", "level", "names", "free"] a_kind_of_binder d_kind_of_binder
  p_kind_of_staged : Df K mg "kind_of_staged" s_kind_of_staged ["term", "level", "names", "free"] a_kind_of_staged d_kind_of_staged
  p_kind_of : Df K mg "kind_of" s_kind_of ["term"] a_kind_of d_kind_of
  p_parts_of : Df K mg "parts_of" s_parts_of ["term"] a_parts_of d_parts_of
  p_size_of : Df K mg "size_of" s_size_of ["term"] a_size_of d_size_of
  p_depth_of : Df K mg "depth_of" s_depth_of ["term"] a_depth_of d_depth_of
  p_Maker___init__ : Dm K "__init__" "Maker.__init__" s_Maker___init__ ["self"] a_Maker___init__ d_Maker___init__
  p_Maker_fresh : Dm K "fresh" "Maker.fresh" s_Maker_fresh ["self"] a_Maker_fresh d_Maker_fresh
  p_Maker_with_name : Dm K "with_name" "Maker.with_name" s_Maker_with_name ["self", "names", "name", "value"] a_Maker_with_name d_Maker_with_name
  p_Maker_value : Dm K "value" "Maker.value" s_Maker_value ["self", "term", "names"] a_Maker_value d_Maker_value
  p_Maker_staged : Dm K "staged" "Maker.staged" s_Maker_staged ["self", "term", "names"] a_Maker_staged d_Maker_staged
  p_Maker_piece : Dm K "piece" "Maker.piece" s_Maker_piece ["self", "term", "names"] a_Maker_piece d_Maker_piece
  p_joined : Df K mg "joined" s_joined ["word", "left", "right"] a_joined d_joined
  p_told : Df K mg "told" s_told ["term"] a_told d_told
  p_made : Df K mg "made" s_made ["term"] a_made d_made
  p__law_cell_at : Df K mg "_law_cell_at" s__law_cell_at ["_law_script", "_law_k"] a__law_cell_at d__law_cell_at
  p__law_mixed : Df K mg "_law_mixed" s__law_mixed ["_law_script", "_law_k"] a__law_mixed d__law_mixed
  p__law_drawn : Df K mg "_law_drawn" s__law_drawn ["_law_number_here", "_law_sizes"] a__law_drawn d__law_drawn
  p__law_name : Df K mg "_law_name" s__law_name ["_law_script", "_law_which"] a__law_name d__law_name
  p__law_wide : Df K mg "_law_wide" s__law_wide ["_law_many"] a__law_wide d__law_wide
  p__law_great : Df K mg "_law_great" s__law_great ["_law_x", "_law_size"] a__law_great d__law_great
  p__law_step : Df K mg "_law_step" s__law_step ["_law_way", "_law_x", "_law_y"] a__law_step d__law_step
  p__law_deep : Df K mg "_law_deep" s__law_deep ["_law_x", "_law_y", "_law_deep_here", "_law_way"] a__law_deep d__law_deep
  p__law_refused : Df K mg "_law_refused" s__law_refused ["_law_program", "_law_way"] a__law_refused d__law_refused
  p__law_wrong_kind : Df K mg "_law_wrong_kind" s__law_wrong_kind ["_law_program", "_law_way"] a__law_wrong_kind d__law_wrong_kind
  p__law_done : Df K mg "_law_done" s__law_done ["_law_program", "_law_way"] a__law_done d__law_done
  p_law : Df K mg "law" s_law ["_law_script"] a_law d_law
  cl_Maker : Cls K C_Maker
  g_Maker : mg "Maker" = some (.ref C_Maker)
  mk_Maker : Mk K C_Maker a_Maker___init__
  na_Maker_given : NoAttr K C_Maker "given"
  m_Maker_fresh : Meth K C_Maker "fresh" a_Maker_fresh
  m_Maker_with_name : Meth K C_Maker "with_name" a_Maker_with_name
  m_Maker_value : Meth K C_Maker "value" a_Maker_value
  m_Maker_staged : Meth K C_Maker "staged" a_Maker_staged
  m_Maker_piece : Meth K C_Maker "piece" a_Maker_piece
  C_HallError : Addr
  g_HallError : mg "HallError" = some (.ref C_HallError)
  C_NoName : Addr
  g_NoName : mg "NoName" = some (.ref C_NoName)
  C_WrongLevel : Addr
  g_WrongLevel : mg "WrongLevel" = some (.ref C_WrongLevel)
  C_WrongKind : Addr
  g_WrongKind : mg "WrongKind" = some (.ref C_WrongKind)
  C_TooGreat : Addr
  g_TooGreat : mg "TooGreat" = some (.ref C_TooGreat)
  x_TooGreat : PySem.W.excIn K C_TooGreat [.type "ValueError", .type "Exception", .type "BaseException", .type "object"] "ValueError.__new__" = true
  k_TooGreat : PySem.W.keepIn K (.ref C_TooGreat) = true
  y_TooGreat : PySem.W.subIn K (.ref C_TooGreat) (.type "BaseException") = some true
  z_TooGreat : PySem.W.typeIn K (.ref C_TooGreat) = some (.type "type")
  e_TooGreat : ExcC K C_TooGreat
  x_WrongKind : PySem.W.excIn K C_WrongKind [.type "ValueError", .type "Exception", .type "BaseException", .type "object"] "ValueError.__new__" = true
  k_WrongKind : PySem.W.keepIn K (.ref C_WrongKind) = true
  y_WrongKind : PySem.W.subIn K (.ref C_WrongKind) (.type "BaseException") = some true
  z_WrongKind : PySem.W.typeIn K (.ref C_WrongKind) = some (.type "type")
  e_WrongKind : ExcC K C_WrongKind
  m_TooGreat_HallError : PySem.W.exmOne K (.ref C_TooGreat) (.ref C_HallError) = some true
  m_TooGreat_TooGreat : PySem.W.exmOne K (.ref C_TooGreat) (.ref C_TooGreat) = some true
  m_WrongKind_HallError : PySem.W.exmOne K (.ref C_WrongKind) (.ref C_HallError) = some true
  m_WrongKind_TooGreat : PySem.W.exmOne K (.ref C_WrongKind) (.ref C_TooGreat) = some false
  i_TooGreat_NoName : PySem.W.kitOne K (.ref C_TooGreat) (.ref C_NoName) = some false
  i_TooGreat_TooGreat : PySem.W.kitOne K (.ref C_TooGreat) (.ref C_TooGreat) = some true
  i_TooGreat_ValueError : PySem.W.kitOne K (.ref C_TooGreat) (.type "ValueError") = some true
  i_TooGreat_WrongKind : PySem.W.kitOne K (.ref C_TooGreat) (.ref C_WrongKind) = some false
  i_TooGreat_WrongLevel : PySem.W.kitOne K (.ref C_TooGreat) (.ref C_WrongLevel) = some false
  i_WrongKind_NoName : PySem.W.kitOne K (.ref C_WrongKind) (.ref C_NoName) = some false
  i_WrongKind_TooGreat : PySem.W.kitOne K (.ref C_WrongKind) (.ref C_TooGreat) = some false
  i_WrongKind_ValueError : PySem.W.kitOne K (.ref C_WrongKind) (.type "ValueError") = some true
  i_WrongKind_WrongKind : PySem.W.kitOne K (.ref C_WrongKind) (.ref C_WrongKind) = some true
  i_WrongKind_WrongLevel : PySem.W.kitOne K (.ref C_WrongKind) (.ref C_WrongLevel) = some false
  t_MODULUS : Tok
  c_MODULUS : mg "MODULUS" = some (.int 1000003 t_MODULUS)
  t_MOST_DEEP : Tok
  c_MOST_DEEP : mg "MOST_DEEP" = some (.int 30 t_MOST_DEEP)
  t_MOST_PARTS : Tok
  c_MOST_PARTS : mg "MOST_PARTS" = some (.int 2000 t_MOST_PARTS)
  b_ValueError : mg "ValueError" = none
  b_dict : mg "dict" = none
  b_int : mg "int" = none
  b_isinstance : mg "isinstance" = none
  b_len : mg "len" = none
  b_list : mg "list" = none
  b_max : mg "max" = none
  b_min : mg "min" = none
  b_range : mg "range" = none
  b_str : mg "str" = none
  b_sum : mg "sum" = none
  b_tuple : mg "tuple" = none
end Qh

namespace Qh
open PySem PySem.Spec PyProof.Rows L2 Dq
local macro_rules | `(tactic| walk_at "dq") => `(tactic| (simp only [dSeq, dNext, dSet, dRet, dDrop, dIfS, dTest, dOp, dVar, dC, dNil, dCons, dConsS, dTup, dLst, dF, dCB, dAnd, dOr, dNot, dAndV, dOrV, dNotV, dIf, dUn, dSl, dNo, dPart, dCall, dSetF, fLst, fLc, dSrc, dForR, dRetOwn, dPutIx, dIxOwn, dApp, dLenOwn, dInOwn, dJoinOwn, dJoin, dIsi, dRng1,
  onVal, onVals, onBl, onInt, onMut, onOwn, onSome_s, onArgs, refs, putS, outs, dst0, okSet, Sl.mut, Sl.toD, Sl.isObj, D.items, fIx, fEq, fNe, fNeg, okEq_str, okEq_int, deq_refl, deq_int, atI0, atI1, atI2, atI3, atI4, atI5, atI_q, fSl1, gList, gTpl, gLen, gInt, gSum, dMaxD, fI, fI0, fAdd, gN, gMax2, gMin2, gStr, D.is_int, D.is_bool, D.is_str, D.is_tuple, D.is_list,
  List.map_cons, List.map_nil, List.length_cons, List.length_nil, List.cons_append, List.nil_append, List.getElem?_cons_zero, List.getElem?_cons_succ, List.set_cons_zero, List.set_cons_succ, List.replicate, Nat.reduceAdd, Nat.reduceSub, Nat.zero_add, Nat.sub_zero, ite_dec,
  if_true, if_false, Bool.false_eq_true, true_and, and_true, decide_true, List.nodup_nil, List.getElem?_nil, Nat.reduceLeDiff, Nat.add_eq, Nat.add_zero, reduceIte, List.Nodup, List.pairwise_cons, List.not_mem_nil, false_implies, implies_true, List.Pairwise.nil, w_num_name, w_num_sum, w_num_product, w_num_less, w_num_when, w_num_let, w_num_turns, w_num_def, w_num_use, w_num_quote, w_num_hole, w_num_lift, w_num_run, w_num_number, w_num_piece, w_num_kept, w_name_num, w_name_sum, w_name_product, w_name_less, w_name_when, w_name_let, w_name_turns, w_name_def, w_name_use, w_name_quote, w_name_hole, w_name_lift, w_name_run, w_name_number, w_name_piece, w_name_kept, w_sum_num, w_sum_name, w_sum_product, w_sum_less, w_sum_when, w_sum_let, w_sum_turns, w_sum_def, w_sum_use, w_sum_quote, w_sum_hole, w_sum_lift, w_sum_run, w_sum_number, w_sum_piece, w_sum_kept, w_product_num, w_product_name, w_product_sum, w_product_less, w_product_when, w_product_let, w_product_turns, w_product_def, w_product_use, w_product_quote, w_product_hole, w_product_lift, w_product_run, w_product_number, w_product_piece, w_product_kept, w_less_num, w_less_name, w_less_sum, w_less_product, w_less_when, w_less_let, w_less_turns, w_less_def, w_less_use, w_less_quote, w_less_hole, w_less_lift, w_less_run, w_less_number, w_less_piece, w_less_kept, w_when_num, w_when_name, w_when_sum, w_when_product, w_when_less, w_when_let, w_when_turns, w_when_def, w_when_use, w_when_quote, w_when_hole, w_when_lift, w_when_run, w_when_number, w_when_piece, w_when_kept, w_let_num, w_let_name, w_let_sum, w_let_product, w_let_less, w_let_when, w_let_turns, w_let_def, w_let_use, w_let_quote, w_let_hole, w_let_lift, w_let_run, w_let_number, w_let_piece, w_let_kept, w_turns_num, w_turns_name, w_turns_sum, w_turns_product, w_turns_less, w_turns_when, w_turns_let, w_turns_def, w_turns_use, w_turns_quote, w_turns_hole, w_turns_lift, w_turns_run, w_turns_number, w_turns_piece, w_turns_kept, w_def_num, w_def_name, w_def_sum, w_def_product, w_def_less, w_def_when, w_def_let, w_def_turns, w_def_use, w_def_quote, w_def_hole, w_def_lift, w_def_run, w_def_number, w_def_piece, w_def_kept, w_use_num, w_use_name, w_use_sum, w_use_product, w_use_less, w_use_when, w_use_let, w_use_turns, w_use_def, w_use_quote, w_use_hole, w_use_lift, w_use_run, w_use_number, w_use_piece, w_use_kept, w_quote_num, w_quote_name, w_quote_sum, w_quote_product, w_quote_less, w_quote_when, w_quote_let, w_quote_turns, w_quote_def, w_quote_use, w_quote_hole, w_quote_lift, w_quote_run, w_quote_number, w_quote_piece, w_quote_kept, w_hole_num, w_hole_name, w_hole_sum, w_hole_product, w_hole_less, w_hole_when, w_hole_let, w_hole_turns, w_hole_def, w_hole_use, w_hole_quote, w_hole_lift, w_hole_run, w_hole_number, w_hole_piece, w_hole_kept, w_lift_num, w_lift_name, w_lift_sum, w_lift_product, w_lift_less, w_lift_when, w_lift_let, w_lift_turns, w_lift_def, w_lift_use, w_lift_quote, w_lift_hole, w_lift_run, w_lift_number, w_lift_piece, w_lift_kept, w_run_num, w_run_name, w_run_sum, w_run_product, w_run_less, w_run_when, w_run_let, w_run_turns, w_run_def, w_run_use, w_run_quote, w_run_hole, w_run_lift, w_run_number, w_run_piece, w_run_kept, w_number_num, w_number_name, w_number_sum, w_number_product, w_number_less, w_number_when, w_number_let, w_number_turns, w_number_def, w_number_use, w_number_quote, w_number_hole, w_number_lift, w_number_run, w_number_piece, w_number_kept, w_piece_num, w_piece_name, w_piece_sum, w_piece_product, w_piece_less, w_piece_when, w_piece_let, w_piece_turns, w_piece_def, w_piece_use, w_piece_quote, w_piece_hole, w_piece_lift, w_piece_run, w_piece_number, w_piece_kept, w_kept_num, w_kept_name, w_kept_sum, w_kept_product, w_kept_less, w_kept_when, w_kept_let, w_kept_turns, w_kept_def, w_kept_use, w_kept_quote, w_kept_hole, w_kept_lift, w_kept_run, w_kept_number, w_kept_piece, fl_num, fl_name, fl_sum, fl_product, fl_less, fl_when, fl_let, fl_turns, fl_def, fl_use, fl_quote, fl_hole, fl_lift, fl_run, fl_number, fl_piece, fl_kept, fIn_T, fIn_Tn, inD_cons, inD_nil, ixN0, fl_i, List.all_cons, List.all_nil, Bool.and_true, Bool.and_self, Bool.or_false, Bool.false_or, Bool.true_or, Bool.or_true, Bool.not_true, Bool.not_false, dForZ, oVal, oNew, oNil, gLs, fDNew, fDCopy, dDGet, dDIn, onDic, dRetDic, dDPut, dNoX, dBad, dReSet, fAddOwn, fCall, D.noL, D.noLs, dOpOO, dOpEO, dOpOE, dIsiOwn, D.isSc, onStrs, dGet2, dctC, keyOf, gTs, gNs, dAsg, cut11, cut12, cut13, fSlC, dSelf, okM, dMethO, dChk, dMake, onObj, dFld, onFld, dPutFld, onObjS, lk_given, lk_value, lk_piece, lk_staged, lk_fresh, lk_with, putI_nil, putI_given, gStr, dRaise, dTryAs, dTryO, fSl_lo2, fSl_lo3, fSl_lo4, fSl_hi1, fSl_hi2, fSl_hi3]))
local macro_rules | `(tactic| walk_at "cm") => `(tactic| first | (unfold CMul; omega) | (unfold CDiv; omega) | (unfold CPow; omega) | decide | omega)
local macro_rules | `(tactic| walk_at "dr") => `(tactic| (simp only [dNext, dSet, dRet, dDrop, dIfS, dTest, dOp, dVar, dC, dNil, dCons, dConsS, dTup, dLst, dF, dCB, dAnd, dOr, dNot, dAndV, dOrV, dNotV, dIf, dUn, dSl, dNo, dPart, dCall, dSetF, fLst, fLc, dSrc, dForR, dRetOwn, dPutIx, dIxOwn, dApp, dLenOwn, dInOwn, dJoinOwn, dJoin, dIsi, dRng1,
  onVal, onVals, onBl, onInt, onMut, onOwn, onSome_s, onArgs, refs, putS, outs, dst0, okSet, Sl.mut, Sl.toD, Sl.isObj, D.items, fIx, fEq, fNe, fNeg, okEq_str, okEq_int, deq_refl, deq_int, atI0, atI1, atI2, atI3, atI4, atI5, atI_q, fSl1, gList, gTpl, gLen, gInt, gSum, dMaxD, fI, fI0, fAdd, gN, gMax2, gMin2, gStr, D.is_int, D.is_bool, D.is_str, D.is_tuple, D.is_list,
  List.map_cons, List.map_nil, List.length_cons, List.length_nil, List.cons_append, List.nil_append, List.getElem?_cons_zero, List.getElem?_cons_succ, List.set_cons_zero, List.set_cons_succ, List.replicate, Nat.reduceAdd, Nat.reduceSub, Nat.zero_add, Nat.sub_zero, ite_dec,
  if_true, if_false, Bool.false_eq_true, true_and, and_true, decide_true, List.nodup_nil, List.getElem?_nil, Nat.reduceLeDiff, Nat.add_eq, Nat.add_zero, reduceIte, List.Nodup, List.pairwise_cons, List.not_mem_nil, false_implies, implies_true, List.Pairwise.nil, w_num_name, w_num_sum, w_num_product, w_num_less, w_num_when, w_num_let, w_num_turns, w_num_def, w_num_use, w_num_quote, w_num_hole, w_num_lift, w_num_run, w_num_number, w_num_piece, w_num_kept, w_name_num, w_name_sum, w_name_product, w_name_less, w_name_when, w_name_let, w_name_turns, w_name_def, w_name_use, w_name_quote, w_name_hole, w_name_lift, w_name_run, w_name_number, w_name_piece, w_name_kept, w_sum_num, w_sum_name, w_sum_product, w_sum_less, w_sum_when, w_sum_let, w_sum_turns, w_sum_def, w_sum_use, w_sum_quote, w_sum_hole, w_sum_lift, w_sum_run, w_sum_number, w_sum_piece, w_sum_kept, w_product_num, w_product_name, w_product_sum, w_product_less, w_product_when, w_product_let, w_product_turns, w_product_def, w_product_use, w_product_quote, w_product_hole, w_product_lift, w_product_run, w_product_number, w_product_piece, w_product_kept, w_less_num, w_less_name, w_less_sum, w_less_product, w_less_when, w_less_let, w_less_turns, w_less_def, w_less_use, w_less_quote, w_less_hole, w_less_lift, w_less_run, w_less_number, w_less_piece, w_less_kept, w_when_num, w_when_name, w_when_sum, w_when_product, w_when_less, w_when_let, w_when_turns, w_when_def, w_when_use, w_when_quote, w_when_hole, w_when_lift, w_when_run, w_when_number, w_when_piece, w_when_kept, w_let_num, w_let_name, w_let_sum, w_let_product, w_let_less, w_let_when, w_let_turns, w_let_def, w_let_use, w_let_quote, w_let_hole, w_let_lift, w_let_run, w_let_number, w_let_piece, w_let_kept, w_turns_num, w_turns_name, w_turns_sum, w_turns_product, w_turns_less, w_turns_when, w_turns_let, w_turns_def, w_turns_use, w_turns_quote, w_turns_hole, w_turns_lift, w_turns_run, w_turns_number, w_turns_piece, w_turns_kept, w_def_num, w_def_name, w_def_sum, w_def_product, w_def_less, w_def_when, w_def_let, w_def_turns, w_def_use, w_def_quote, w_def_hole, w_def_lift, w_def_run, w_def_number, w_def_piece, w_def_kept, w_use_num, w_use_name, w_use_sum, w_use_product, w_use_less, w_use_when, w_use_let, w_use_turns, w_use_def, w_use_quote, w_use_hole, w_use_lift, w_use_run, w_use_number, w_use_piece, w_use_kept, w_quote_num, w_quote_name, w_quote_sum, w_quote_product, w_quote_less, w_quote_when, w_quote_let, w_quote_turns, w_quote_def, w_quote_use, w_quote_hole, w_quote_lift, w_quote_run, w_quote_number, w_quote_piece, w_quote_kept, w_hole_num, w_hole_name, w_hole_sum, w_hole_product, w_hole_less, w_hole_when, w_hole_let, w_hole_turns, w_hole_def, w_hole_use, w_hole_quote, w_hole_lift, w_hole_run, w_hole_number, w_hole_piece, w_hole_kept, w_lift_num, w_lift_name, w_lift_sum, w_lift_product, w_lift_less, w_lift_when, w_lift_let, w_lift_turns, w_lift_def, w_lift_use, w_lift_quote, w_lift_hole, w_lift_run, w_lift_number, w_lift_piece, w_lift_kept, w_run_num, w_run_name, w_run_sum, w_run_product, w_run_less, w_run_when, w_run_let, w_run_turns, w_run_def, w_run_use, w_run_quote, w_run_hole, w_run_lift, w_run_number, w_run_piece, w_run_kept, w_number_num, w_number_name, w_number_sum, w_number_product, w_number_less, w_number_when, w_number_let, w_number_turns, w_number_def, w_number_use, w_number_quote, w_number_hole, w_number_lift, w_number_run, w_number_piece, w_number_kept, w_piece_num, w_piece_name, w_piece_sum, w_piece_product, w_piece_less, w_piece_when, w_piece_let, w_piece_turns, w_piece_def, w_piece_use, w_piece_quote, w_piece_hole, w_piece_lift, w_piece_run, w_piece_number, w_piece_kept, w_kept_num, w_kept_name, w_kept_sum, w_kept_product, w_kept_less, w_kept_when, w_kept_let, w_kept_turns, w_kept_def, w_kept_use, w_kept_quote, w_kept_hole, w_kept_lift, w_kept_run, w_kept_number, w_kept_piece, fl_num, fl_name, fl_sum, fl_product, fl_less, fl_when, fl_let, fl_turns, fl_def, fl_use, fl_quote, fl_hole, fl_lift, fl_run, fl_number, fl_piece, fl_kept, fIn_T, fIn_Tn, inD_cons, inD_nil, ixN0, fl_i, List.all_cons, List.all_nil, Bool.and_true, Bool.and_self, Bool.or_false, Bool.false_or, Bool.true_or, Bool.or_true, Bool.not_true, Bool.not_false, dForZ, oVal, oNew, oNil, gLs, fDNew, fDCopy, dDGet, dDIn, onDic, dRetDic, dDPut, dNoX, dBad, dReSet, fAddOwn, fCall, D.noL, D.noLs, dOpOO, dOpEO, dOpOE, dIsiOwn, D.isSc, onStrs, dGet2, dctC, keyOf, gTs, gNs, dAsg, cut11, cut12, cut13, fSlC, dSelf, okM, dMethO, dChk, dMake, onObj, dFld, onFld, dPutFld, onObjS, lk_given, lk_value, lk_piece, lk_staged, lk_fresh, lk_with, putI_nil, putI_given, gStr, dRaise, dTryAs, dTryO, fSl_lo2, fSl_lo3, fSl_lo4, fSl_hi1, fSl_hi2, fSl_hi3]))
section
variable {P : Program} {w : World} {K : PySem.W.Frag} {mg : Str → Option Value} {base : Heap}
def spParts : DSp := fun ss E Q => ∃ t : Tm, ss = [.val t.toD] ∧ Q (.lst (t.parts.map Tm.toD)) ss
theorem ok_parts_of (g : G K mg)
    : FnR P w K mg base (0 + 1) g.a_parts_of g.d_parts_of ["term"] (liftSp K (spParts)) := by
  refine okD g.p_parts_of.F sc_parts_of (by rintro ss E Q ⟨t, rfl, _⟩; rfl) fun cdv A outer s H E hr => ⟨_, _, (pss_cons (ps_set (i := 1) sc_parts_of.nd rfl (by first | exact Or.inl rfl | exact Or.inr rfl) (pe_ix ix_seq (pv 0) pe_int (fun _ _ => rfl))) (pss_cons (ps_if (PW.pt (pw_or (pt_cmpR (opEq hr.un64) (pv 1) pe_str (nomark _)) (pw_or1 (pt_cmpR (opEq hr.un64) (pv 1) pe_str (nomark _))))) (pss_one (ps_ret (pe_lst pa_nil))) pss_nil) (pss_cons (ps_if (pt_cmpR (opEq hr.un64) (pv 1) pe_str (nomark _)) (pss_one (ps_ret (pe_lst (pa_cons (pe_ix ix_seq (pv 0) pe_int (fun _ _ => rfl)) (pa_cons (pe_ix ix_seq (pv 0) pe_int (fun _ _ => rfl)) pa_nil))))) pss_nil) (pss_cons (ps_if (pt_cmpR (opEq hr.un64) (pv 1) pe_str (nomark _)) (pss_one (ps_ret (pe_lst (pa_cons (pe_ix ix_seq (pv 0) pe_int (fun _ _ => rfl)) (pa_cons (pe_ix ix_seq (pv 0) pe_int (fun _ _ => rfl)) pa_nil))))) pss_nil) (pss_cons (ps_if (pt_cmpR (opEq hr.un64) (pv 1) pe_str (nomark _)) (pss_one (ps_ret (pe_lst (pa_cons (pe_ix ix_seq (pv 0) pe_int (fun _ _ => rfl)) (pa_cons (pe_ix ix_seq (pv 0) pe_int (fun _ _ => rfl)) pa_nil))))) pss_nil) (pss_cons (ps_if (pt_cmpR (opEq hr.un64) (pv 1) pe_str (nomark _)) (pss_one (ps_ret (pe_lst (pa_cons (pe_ix ix_seq (pv 0) pe_int (fun _ _ => rfl)) pa_nil)))) pss_nil) (pss_one (ps_ret (pe_callTy crList rfl g.b_list (by decide +kernel) (pa_cons (pe_slice slA (pv 0) (po_some pe_int) po_none) pa_nil)))))))))), (ss_seq (ss_set (se_op sIx se_var se_int)) (ss_seq (ss_if (st_or (st_test (se_op sEq se_var se_str)) (st_test (se_op sEq se_var se_str))) (ss_ret (se_lst sa_nil)) ss_next) (ss_seq (ss_if (st_test (se_op sEq se_var se_str)) (ss_ret (se_lst (sa_cons (se_op sIx se_var se_int) (sa_cons (se_op sIx se_var se_int) sa_nil)))) ss_next) (ss_seq (ss_if (st_test (se_op sEq se_var se_str)) (ss_ret (se_lst (sa_cons (se_op sIx se_var se_int) (sa_cons (se_op sIx se_var se_int) sa_nil)))) ss_next) (ss_seq (ss_if (st_test (se_op sEq se_var se_str)) (ss_ret (se_lst (sa_cons (se_op sIx se_var se_int) (sa_cons (se_op sIx se_var se_int) sa_nil)))) ss_next) (ss_seq (ss_if (st_test (se_op sEq se_var se_str)) (ss_ret (se_lst (sa_cons (se_op sIx se_var se_int) sa_nil))) ss_next) (ss_ret (se_cb cList (sa_cons (se_sl sSl se_var (so_part se_int) so_no) sa_nil))))))))), ?_⟩
  rintro ss Ed Q ⟨t, rfl, hq⟩
  cases t <;> simp only [Tm.toD, Tm.parts, List.map_cons, List.map_nil] at hq <;> simp only [Tm.toD, S] at hq ⊢ <;> walk_at "dq" <;> exact hq
def spCell : DSp := fun ss E Q => ∃ (s : List Int) (k : Nat), ss = [.val (.scr s), .val (.int k)] ∧ Q (.int (cellAt s k)) ss
def spMixed : DSp := fun ss E Q => ∃ (s : List Int) (k : Nat), ss = [.val (.scr s), .val (.int k)] ∧ Q (.int (mixed s k)) ss
def spDrawn : DSp := fun ss E Q => ∃ (n : Int) (l : List Int), ss = [.val (.int n), .val (.lst (l.map D.int))] ∧ (∀ z ∈ l, 0 < z ∧ z < 1073741824) ∧ l.length ≤ 1000 ∧ Q (.lst ((drawn n l).map D.int)) ss
def spWhole : DSp := fun ss E Q => ∃ d : D, ss = [.val d] ∧ Q (.bl (d.is_int && !d.is_bool)) ss
theorem ok__law_cell_at (g : G K mg)
    : FnR P w K mg base (0 + 1) g.a__law_cell_at g.d__law_cell_at ["_law_script", "_law_k"] (liftSp K (spCell)) := by
  refine okD g.p__law_cell_at.F sc__law_cell_at (by rintro ss E Q ⟨s, k, rfl, _⟩; rfl) fun cdv A outer s H E hr => ⟨_, _, (pss_cons (ps_if (pt_cmpR op_lt (pv 1) (pe_callB crLen rfl g.b_len boot_len (pa_cons (pv 0) pa_nil)) (nomark _)) (pss_one (ps_ret (pe_ix ix_seq (pv 0) (pv 1) (fun _ _ => rfl)))) pss_nil) (pss_one (ps_ret pe_int))), (ss_seq (ss_if (st_test (se_op sLt se_var (se_cb cLen (sa_cons se_var sa_nil)))) (ss_ret (se_op sIx se_var se_var)) ss_next) (ss_ret se_int)), ?_⟩
  rintro ss Ed Q ⟨s, k, rfl, hq⟩
  walk_at "dq"
  by_cases h : (k : Int) < (s.length : Int)
  · rw [if_pos h, List.getElem?_eq_getElem (by omega)]
    unfold cellAt at hq
    rw [List.getElem?_eq_getElem (by omega)] at hq
    exact hq
  · rw [if_neg h]
    unfold cellAt at hq
    rw [List.getElem?_eq_none (by omega)] at hq
    exact hq
theorem ok__law_mixed (g : G K mg)
    (h__law_cell_at : FnR P w K mg base (1) g.a__law_cell_at g.d__law_cell_at ["_law_script", "_law_k"] (liftSp K (spCell)))
    : FnR P w K mg base (1 + 1) g.a__law_mixed g.d__law_mixed ["_law_script", "_law_k"] (liftSp K (spMixed)) := by
  refine okD g.p__law_mixed.F sc__law_mixed (by rintro ss E Q ⟨s, k, rfl, _⟩; rfl) fun cdv A outer s H E hr => ⟨_, _, (pss_cons (ps_set (i := 2) sc__law_mixed.nd rfl (by first | exact Or.inl rfl | exact Or.inr rfl) (pe_op op_mod (pe_op op_mul (pe_op opAdd (pe_callR h__law_cell_at (hr.mono (by omega)) rfl g.p__law_cell_at.g g.p__law_cell_at.F.kp g.p__law_cell_at.b passE (pa_cons (pv 0) (pa_cons (pv 1) pa_nil))) (pe_op op_mul pe_int (pv 1))) pe_int) pe_int)) (pss_one (ps_ret (pe_op op_mod (pe_op opAdd (pe_op opAdd (pe_op op_mul (pv 2) (pv 2)) (pe_op op_mul pe_int (pv 2))) (pv 1)) pe_int)))), (ss_seq (ss_set (se_op sMod (se_op sMul (se_op sAdd (se_call (sa_cons se_var (sa_cons se_var sa_nil))) (se_op sMul se_int se_var)) se_int) se_int)) (ss_ret (se_op sMod (se_op sAdd (se_op sAdd (se_op sMul se_var se_var) (se_op sMul se_int se_var)) se_var) se_int))), ?_⟩
  rintro ss Ed Q ⟨s, k, rfl, hq⟩
  walk_at "dq"
  refine ⟨s, k, rfl, ?_⟩
  walk_at "dq"
  have a := mix0_lo s k
  have b := mix0_hi s k
  exact ⟨by walk_at "cm", by walk_at "cm", by walk_at "cm", by walk_at "cm", by walk_at "cm", by walk_at "cm", hq⟩

def spNum : DSp := fun ss E Q => ∃ n : Int, ss = [.val (.int n)] ∧ (0 ≤ n ∧ n < 2147483648) ∧ Q (.int (numberOf n)) ss
def spNext : DSp := fun ss E Q => ∃ (s : List Int) (k : Nat) (r : List D), ss = [.val (.scr s), .own (.int k :: r)] ∧ Q (.int (mixed s (k + 1))) [.val (.scr s), .own (.int (k + 1 : Nat) :: r)]
def spName : DSp := fun ss E Q => ∃ (s : List Int) (w : Int), ss = [.val (.scr s), .val (.int w)] ∧ (0 ≤ w ∧ w < 100) ∧ Q (.str (nameOf s w)) ss
theorem ok__law_drawn (g : G K mg)
    : FnR P w K mg base (0 + 1) g.a__law_drawn g.d__law_drawn ["_law_number_here", "_law_sizes"] (liftSp K (spDrawn)) := by
  refine okD g.p__law_drawn.F sc__law_drawn (by rintro ss E Q ⟨n, l, rfl, _⟩; rfl) fun cdv A outer s H E hr => ⟨_, _, (pss_cons (ps_set (i := 2) sc__law_drawn.nd rfl (by first | exact Or.inl rfl | exact Or.inr rfl) (pe_lst pa_nil)) (pss_cons (ps_for passOwn rfl (pi_any (pv 1)) (pg_name (i := 3) sc__law_drawn.nd rfl (by first | exact Or.inl rfl | exact Or.inr rfl)) (pss_cons (ps_expr (pe_bm PySem.F.plainAttrs_list PySem.F.slot_list_append PySem.F.type_list_append mt_append (pv 2) (pa_cons (pe_op op_mod (pv 0) (pv 3)) pa_nil))) (pss_one (ps_set (i := 0) sc__law_drawn.nd rfl (by first | exact Or.inl rfl | exact Or.inr rfl) (pe_op op_fdiv (pv 0) (pv 3)))))) (pss_one (ps_ret (pv 2))))), (ss_seq (ss_setF (sf_lst sa_nil)) (ss_seq (ss_forI (si_any se_var) sg_name (ss_seq (ss_app (se_op sMod se_var se_var)) (ss_set (se_op sDiv se_var se_var)))) ss_retOwn)), ?_⟩
  rintro ss Ed Q ⟨n, l, rfl, hl, hn, hq⟩
  walk_at "dq"
  refine dLoop_inv (I := fun xs δ => ∃ (l2 : List Int) (m : Int) (acc : List Int) (x : Option Sl), xs = l2.map D.int ∧ (∀ z ∈ l2, 0 < z ∧ z < 1073741824) ∧ acc.length + l2.length = l.length ∧ acc ++ drawn m l2 = drawn n l ∧ (x = none ∨ ∃ d, x = some (.val d)) ∧ δ = [some (.val (.int m)), some (.val (.lst (l.map D.int))), some (.own (acc.map D.int)), x]) ?_ ?_ ⟨l, n, [], none, rfl, hl, by simp, rfl, .inl rfl, rfl⟩
  · rintro x r δ N ⟨l2, m, acc, y, e, hz, hc, hd, hy, rfl⟩ hN
    cases l2 with
    | nil => cases e
    | cons z l3 =>
      injection e with e1 e2
      subst e1 e2
      have hz0 := hz z List.mem_cons_self
      simp only [List.length_cons] at hc
      have fin : N [some (.val (.int (m / z))), some (.val (.lst (l.map D.int))), some (.own (acc.map D.int ++ [.int (m % z)])), some (.val (.int z))] :=
        hN _ ⟨l3, m / z, acc ++ [m % z], some (.val (.int z)), rfl, fun q hq => hz q (List.mem_cons_of_mem _ hq), by simp; omega, by rw [← hd, drawn]; simp, .inr ⟨_, rfl⟩, by simp⟩
      rcases hy with rfl | ⟨d, rfl⟩ <;> walk_at "dq" <;> exact ⟨hz0.1, decide_eq_true (by rw [List.length_map]; omega), hz0, fin⟩
  · rintro δ ⟨l2, m, acc, y, e, hz, hc, hd, hy, rfl⟩
    cases l2 with
    | cons z l3 => cases e
    | nil =>
      rw [drawn, List.append_nil] at hd
      walk_at "dq"
      rw [hd]
      exact hq



theorem ok__law_name (g : G K mg)
    (h__law_mixed : FnR P w K mg base (2) g.a__law_mixed g.d__law_mixed ["_law_script", "_law_k"] (liftSp K (spMixed)))
    : FnR P w K mg base (2 + 1) g.a__law_name g.d__law_name ["_law_script", "_law_which"] (liftSp K (spName)) := by
  refine okD g.p__law_name.F sc__law_name (by rintro ss E Q ⟨s, w, rfl, _⟩; rfl) fun cdv A outer s H E hr => ⟨_, _, (pss_cons (ps_set (i := 2) sc__law_name.nd rfl (by first | exact Or.inl rfl | exact Or.inr rfl) pe_str) (pss_cons (ps_set (i := 3) sc__law_name.nd rfl (by first | exact Or.inl rfl | exact Or.inr rfl) (pe_callR h__law_mixed (hr.mono (by omega)) rfl g.p__law_mixed.g g.p__law_mixed.F.kp g.p__law_mixed.b passE (pa_cons (pv 0) (pa_cons pe_int pa_nil)))) (pss_cons (ps_if (PW.pt (pw_and (pt_cmpR (opEq hr.un64) (pe_op op_mod (pv 3) pe_int) pe_int (nomark _)) (pw_and1 (pt_cmpR (opEq hr.un64) (pe_op op_mod (pe_op op_fdiv (pv 3) pe_int) pe_int) pe_int (nomark _))))) (pss_cons (ps_set (i := 5) sc__law_name.nd rfl (by first | exact Or.inl rfl | exact Or.inr rfl) (pe_lst (pa_cons pe_str (pa_cons pe_str (pa_cons pe_str (pa_cons pe_str (pa_cons pe_str (pa_cons pe_str (pa_cons pe_str (pa_cons pe_str pa_nil)))))))))) (pss_one (ps_ret (pe_ix ix_seq (pv 5) (pe_op op_mod (pe_op opAdd (pe_op op_fdiv (pv 3) pe_int) (pv 1)) pe_int) (fun _ _ => rfl))))) pss_nil) (pss_cons (ps_set (i := 4) sc__law_name.nd rfl (by first | exact Or.inl rfl | exact Or.inr rfl) (pe_op opAdd pe_int (pe_op op_mod (pv 3) pe_int))) (pss_cons (ps_setLc (i := 5) (own := [("_law_k", 7)]) (g := gName 7) (tt := _) rfl sc__law_name.nd rfl rfl (sw_true rfl rfl rfl (by decide +kernel)) (pi_range1 rfl g.b_range (pa_cons (pv 4) pa_nil)) (blkOk_by (own := [("_law_k", 7)]) (N := N__law_name) (sc := defScope s__law_name) (by decide +kernel)) (fun _ _ _ _ _ => pg_name (i := 7) sc__law_name.nd rfl (Or.inl rfl)) (fun _ _ _ _ _ => pts_nil) (fun _ _ _ _ _ => (pe_ix ix_seq (pv 2) (pe_op op_mod (pe_op opAdd (pe_op op_fdiv (pv 3) pe_int) (pe_op op_mul pe_int (pv 7))) pe_int) (fun _ _ => rfl)))) (pss_cons (ps_set (i := 6) sc__law_name.nd rfl (by first | exact Or.inl rfl | exact Or.inr rfl) (pe_op op_mod (pe_op op_fdiv (pv 3) pe_int) (pv 4))) (pss_cons (ps_asg (pe_ix ix_seq (pv 2) (pe_op op_mod (pe_op opAdd (pe_op opAdd (pe_op op_fdiv (pv 3) pe_int) (pe_op op_mul pe_int (pv 6))) (pv 1)) pe_int) (fun _ _ => rfl)) (pg_sub (pv 5) (pv 6) set_list)) (pss_one (ps_ret (pe_join pe_str (pv 5))))))))))), (ss_seq (ss_set se_str) (ss_seq (ss_set (se_call (sa_cons se_var (sa_cons se_int sa_nil)))) (ss_seq (ss_if (st_and (st_test (se_op sEq (se_op sMod se_var se_int) se_int)) (st_test (se_op sEq (se_op sMod (se_op sDiv se_var se_int) se_int) se_int))) (ss_seq (ss_setF (sf_lst (sa_cons se_str (sa_cons se_str (sa_cons se_str (sa_cons se_str (sa_cons se_str (sa_cons se_str (sa_cons se_str (sa_cons se_str sa_nil)))))))))) (ss_ret (se_ixOwn (se_op sMod (se_op sAdd (se_op sDiv se_var se_int) se_var) se_int)))) ss_next) (ss_seq (ss_set (se_op sAdd se_int (se_op sMod se_var se_int))) (ss_seq (ss_setF (sf_lc (si_rng1 (sa_cons se_var sa_nil)) st_yes (se_op sIx se_var (se_op sMod (se_op sAdd (se_op sDiv se_var se_int) (se_op sMul se_int se_var)) se_int)))) (ss_seq (ss_set (se_op sMod (se_op sDiv se_var se_int) se_var)) (ss_seq (ss_putIx se_var (se_op sIx se_var (se_op sMod (se_op sAdd (se_op sAdd (se_op sDiv se_var se_int) (se_op sMul se_int se_var)) se_var) se_int))) (ss_ret se_joinOwn)))))))), ?_⟩
  rintro ss Ed Q ⟨s, w, rfl, hw, hq⟩
  walk_at "dq"
  refine ⟨s, 0, rfl, ?_⟩
  walk_at "dq"
  have m0 := mixed_lo s 0
  have m1 := mixed_hi s 0
  have nl := nameLen_int s
  have nb := nameLen_le s
  refine ⟨by decide, ?_⟩
  have long : ¬ (mixed s 0 % 8 = 7 ∧ mixed s 0 / 8 % 2 = 0) → Q (.str (Txt.join (Str.ofString "") (nameSigns s w))) [Sl.val (D.scr s), Sl.val (D.int w)] := by
    intro hx
    unfold nameOf at hq
    rw [if_neg hx] at hq
    exact hq
  have short : (mixed s 0 % 8 = 7 ∧ mixed s 0 / 8 % 2 = 0) → Q (.str (wordsL.getD ((mixed s 0 / 16 + w) % 8).toNat (Str.ofString ""))) [Sl.val (D.scr s), Sl.val (D.int w)] := by
    intro hx
    unfold nameOf at hq
    rw [if_pos hx] at hq
    exact hq
  clear hq
  split
  · rename_i h7
    refine ⟨by walk_at "cm", by decide, ?_⟩
    split
    · rename_i h2
      refine ⟨by walk_at "cm", by decide, ?_⟩
      have hm : 0 ≤ (mixed s 0 / 16 + w) % 8 := Int.emod_nonneg _ (by decide)
      have hm2 : (mixed s 0 / 16 + w) % 8 < 8 := Int.emod_lt_of_pos _ (by decide)
      rw [atI_i hm]
      have q := short ⟨h7, h2⟩
      revert q
      generalize hz : ((mixed s 0 / 16 + w) % 8).toNat = z
      intro q
      have hz8 : z < 8 := by omega
      change onSome (wordsL.map D.str)[z]? _
      rw [List.getElem?_map, List.getElem?_eq_getElem (by show z < 8; omega)]
      rw [List.getD_eq_getElem?_getD, List.getElem?_eq_getElem (by show z < 8; omega)] at q
      exact q
    · rename_i h2
      replace long := long (fun h => h2 h.2)
      refine ⟨by decide, by omega, by omega, ?_⟩
      rw [show rngD 0 (1 + mixed s 0 % 8).toNat = (List.range (nameLen s)).map (fun k : Nat => D.int (0 + (k : Int))) from by unfold rngD; rw [← nl]; rfl]
      refine lcGo_map (fun k : Nat => D.int (0 + (k : Int))) (fun k : Nat => D.str (letterAt ((mixed s 0 / 64 + 5 * (k : Int)) % 26))) rfl (fun k hk Q q => ?_) (by simp; omega) ?_
      · walk_at "dq"
        simp only [Int.zero_add] at q ⊢
        rw [show (Str.ofString "abcdefghijklmnopqrstuvwxyz") = abc from rfl] at q ⊢
        refine ⟨by walk_at "cm", by walk_at "cm", by decide, abc_len, ?_⟩
        rw [abc_at (Int.emod_nonneg _ (by decide)) (Int.emod_lt_of_pos _ (by decide))]
        exact q
      · walk_at "dq"
        rw [show (Str.ofString "abcdefghijklmnopqrstuvwxyz") = abc from rfl, ← nl]
        have at0 : 0 ≤ mixed s 0 / 8 % (nameLen s : Int) := Int.emod_nonneg _ (by omega)
        have at1 : mixed s 0 / 8 % (nameLen s : Int) < (nameLen s : Int) := Int.emod_lt_of_pos _ (by omega)
        refine ⟨by walk_at "cm", by omega, by walk_at "cm", by walk_at "cm", by decide, abc_len, ?_⟩
        rw [abc_at (Int.emod_nonneg _ (by decide)) (Int.emod_lt_of_pos _ (by decide))]
        rw [List.length_map, List.length_range]
        unfold ixN
        rw [if_pos at0, if_pos at1, onSome_s, onSome_s]
        rw [show ((List.range (nameLen s)).map fun k : Nat => D.str (letterAt ((mixed s 0 / 64 + 5 * (k : Int)) % 26))) = ((List.range (nameLen s)).map fun k : Nat => letterAt ((mixed s 0 / 64 + 5 * (k : Int)) % 26)).map D.str from by rw [List.map_map]; rfl, ← List.map_set]
        rw [onStrs_map (fun x => x), List.map_id']
        change decide (((nameSigns s w).map (fun x => x.length)).sum + (nameSigns s w).length * (Str.ofString "").length ≤ 16777216) = true ∧ Q (D.str (Txt.join (Str.ofString "") (nameSigns s w))) _
        refine ⟨decide_eq_true ?_, long⟩
        rw [sum_ones (nameSigns_one s w), nameSigns_len, show (Str.ofString "").length = 0 from rfl]
        omega
  · rename_i h7
    replace long := long (fun h => h7 h.1)
    refine ⟨by decide, by omega, by omega, ?_⟩
    rw [show rngD 0 (1 + mixed s 0 % 8).toNat = (List.range (nameLen s)).map (fun k : Nat => D.int (0 + (k : Int))) from by unfold rngD; rw [← nl]; rfl]
    refine lcGo_map (fun k : Nat => D.int (0 + (k : Int))) (fun k : Nat => D.str (letterAt ((mixed s 0 / 64 + 5 * (k : Int)) % 26))) rfl (fun k hk Q q => ?_) (by simp; omega) ?_
    · walk_at "dq"
      simp only [Int.zero_add] at q ⊢
      rw [show (Str.ofString "abcdefghijklmnopqrstuvwxyz") = abc from rfl] at q ⊢
      refine ⟨by walk_at "cm", by walk_at "cm", by decide, abc_len, ?_⟩
      rw [abc_at (Int.emod_nonneg _ (by decide)) (Int.emod_lt_of_pos _ (by decide))]
      exact q
    · walk_at "dq"
      rw [show (Str.ofString "abcdefghijklmnopqrstuvwxyz") = abc from rfl, ← nl]
      have at0 : 0 ≤ mixed s 0 / 8 % (nameLen s : Int) := Int.emod_nonneg _ (by omega)
      have at1 : mixed s 0 / 8 % (nameLen s : Int) < (nameLen s : Int) := Int.emod_lt_of_pos _ (by omega)
      refine ⟨by walk_at "cm", by omega, by walk_at "cm", by walk_at "cm", by decide, abc_len, ?_⟩
      rw [abc_at (Int.emod_nonneg _ (by decide)) (Int.emod_lt_of_pos _ (by decide))]
      rw [List.length_map, List.length_range]
      unfold ixN
      rw [if_pos at0, if_pos at1, onSome_s, onSome_s]
      rw [show ((List.range (nameLen s)).map fun k : Nat => D.str (letterAt ((mixed s 0 / 64 + 5 * (k : Int)) % 26))) = ((List.range (nameLen s)).map fun k : Nat => letterAt ((mixed s 0 / 64 + 5 * (k : Int)) % 26)).map D.str from by rw [List.map_map]; rfl, ← List.map_set]
      rw [onStrs_map (fun x => x), List.map_id']
      change decide (((nameSigns s w).map (fun x => x.length)).sum + (nameSigns s w).length * (Str.ofString "").length ≤ 16777216) = true ∧ Q (D.str (Txt.join (Str.ofString "") (nameSigns s w))) _
      refine ⟨decide_eq_true ?_, long⟩
      rw [sum_ones (nameSigns_one s w), nameSigns_len, show (Str.ofString "").length = 0 from rfl]
      omega
def spNo : DSp := fun _ _ _ => False
def spAny (d : Nat) : DSp := fun ss E Q => ∃ (s : List Int) (k : Nat), ss = [.val (.scr s), .own [.int k], .val (.int d)] ∧ Q (anyT s d k).1.toD [.val (.scr s), .own [.int ((anyT s d k).2 : Nat)], .val (.int d)]


end
end Qh

namespace Qh
open PySem PySem.Spec PyProof.Rows L2 Dq
local macro_rules | `(tactic| walk_at "dq") => `(tactic| (simp only [dSeq, dNext, dSet, dRet, dDrop, dIfS, dTest, dOp, dVar, dC, dNil, dCons, dConsS, dTup, dLst, dF, dCB, dAnd, dOr, dNot, dAndV, dOrV, dNotV, dIf, dUn, dSl, dNo, dPart, dCall, dSetF, fLst, fLc, dSrc, dForR, dRetOwn, dPutIx, dIxOwn, dApp, dLenOwn, dInOwn, dJoinOwn, dJoin, dIsi, dRng1,
  onVal, onVals, onBl, onInt, onMut, onOwn, onSome_s, onArgs, refs, putS, outs, dst0, okSet, Sl.mut, Sl.toD, Sl.isObj, D.items, fIx, fEq, fNe, fNeg, okEq_str, okEq_int, deq_refl, deq_int, atI0, atI1, atI2, atI3, atI4, atI5, atI_q, fSl1, gList, gTpl, gLen, gInt, gSum, dMaxD, fI, fI0, fAdd, gN, gMax2, gMin2, gStr, D.is_int, D.is_bool, D.is_str, D.is_tuple, D.is_list,
  List.map_cons, List.map_nil, List.length_cons, List.length_nil, List.cons_append, List.nil_append, List.getElem?_cons_zero, List.getElem?_cons_succ, List.set_cons_zero, List.set_cons_succ, List.replicate, Nat.reduceAdd, Nat.reduceSub, Nat.zero_add, Nat.sub_zero, ite_dec,
  if_true, if_false, Bool.false_eq_true, true_and, and_true, decide_true, List.nodup_nil, List.getElem?_nil, Nat.reduceLeDiff, Nat.add_eq, Nat.add_zero, reduceIte, List.Nodup, List.pairwise_cons, List.not_mem_nil, false_implies, implies_true, List.Pairwise.nil, w_num_name, w_num_sum, w_num_product, w_num_less, w_num_when, w_num_let, w_num_turns, w_num_def, w_num_use, w_num_quote, w_num_hole, w_num_lift, w_num_run, w_num_number, w_num_piece, w_num_kept, w_name_num, w_name_sum, w_name_product, w_name_less, w_name_when, w_name_let, w_name_turns, w_name_def, w_name_use, w_name_quote, w_name_hole, w_name_lift, w_name_run, w_name_number, w_name_piece, w_name_kept, w_sum_num, w_sum_name, w_sum_product, w_sum_less, w_sum_when, w_sum_let, w_sum_turns, w_sum_def, w_sum_use, w_sum_quote, w_sum_hole, w_sum_lift, w_sum_run, w_sum_number, w_sum_piece, w_sum_kept, w_product_num, w_product_name, w_product_sum, w_product_less, w_product_when, w_product_let, w_product_turns, w_product_def, w_product_use, w_product_quote, w_product_hole, w_product_lift, w_product_run, w_product_number, w_product_piece, w_product_kept, w_less_num, w_less_name, w_less_sum, w_less_product, w_less_when, w_less_let, w_less_turns, w_less_def, w_less_use, w_less_quote, w_less_hole, w_less_lift, w_less_run, w_less_number, w_less_piece, w_less_kept, w_when_num, w_when_name, w_when_sum, w_when_product, w_when_less, w_when_let, w_when_turns, w_when_def, w_when_use, w_when_quote, w_when_hole, w_when_lift, w_when_run, w_when_number, w_when_piece, w_when_kept, w_let_num, w_let_name, w_let_sum, w_let_product, w_let_less, w_let_when, w_let_turns, w_let_def, w_let_use, w_let_quote, w_let_hole, w_let_lift, w_let_run, w_let_number, w_let_piece, w_let_kept, w_turns_num, w_turns_name, w_turns_sum, w_turns_product, w_turns_less, w_turns_when, w_turns_let, w_turns_def, w_turns_use, w_turns_quote, w_turns_hole, w_turns_lift, w_turns_run, w_turns_number, w_turns_piece, w_turns_kept, w_def_num, w_def_name, w_def_sum, w_def_product, w_def_less, w_def_when, w_def_let, w_def_turns, w_def_use, w_def_quote, w_def_hole, w_def_lift, w_def_run, w_def_number, w_def_piece, w_def_kept, w_use_num, w_use_name, w_use_sum, w_use_product, w_use_less, w_use_when, w_use_let, w_use_turns, w_use_def, w_use_quote, w_use_hole, w_use_lift, w_use_run, w_use_number, w_use_piece, w_use_kept, w_quote_num, w_quote_name, w_quote_sum, w_quote_product, w_quote_less, w_quote_when, w_quote_let, w_quote_turns, w_quote_def, w_quote_use, w_quote_hole, w_quote_lift, w_quote_run, w_quote_number, w_quote_piece, w_quote_kept, w_hole_num, w_hole_name, w_hole_sum, w_hole_product, w_hole_less, w_hole_when, w_hole_let, w_hole_turns, w_hole_def, w_hole_use, w_hole_quote, w_hole_lift, w_hole_run, w_hole_number, w_hole_piece, w_hole_kept, w_lift_num, w_lift_name, w_lift_sum, w_lift_product, w_lift_less, w_lift_when, w_lift_let, w_lift_turns, w_lift_def, w_lift_use, w_lift_quote, w_lift_hole, w_lift_run, w_lift_number, w_lift_piece, w_lift_kept, w_run_num, w_run_name, w_run_sum, w_run_product, w_run_less, w_run_when, w_run_let, w_run_turns, w_run_def, w_run_use, w_run_quote, w_run_hole, w_run_lift, w_run_number, w_run_piece, w_run_kept, w_number_num, w_number_name, w_number_sum, w_number_product, w_number_less, w_number_when, w_number_let, w_number_turns, w_number_def, w_number_use, w_number_quote, w_number_hole, w_number_lift, w_number_run, w_number_piece, w_number_kept, w_piece_num, w_piece_name, w_piece_sum, w_piece_product, w_piece_less, w_piece_when, w_piece_let, w_piece_turns, w_piece_def, w_piece_use, w_piece_quote, w_piece_hole, w_piece_lift, w_piece_run, w_piece_number, w_piece_kept, w_kept_num, w_kept_name, w_kept_sum, w_kept_product, w_kept_less, w_kept_when, w_kept_let, w_kept_turns, w_kept_def, w_kept_use, w_kept_quote, w_kept_hole, w_kept_lift, w_kept_run, w_kept_number, w_kept_piece, fl_num, fl_name, fl_sum, fl_product, fl_less, fl_when, fl_let, fl_turns, fl_def, fl_use, fl_quote, fl_hole, fl_lift, fl_run, fl_number, fl_piece, fl_kept, fIn_T, fIn_Tn, inD_cons, inD_nil, ixN0, fl_i, List.all_cons, List.all_nil, Bool.and_true, Bool.and_self, Bool.or_false, Bool.false_or, Bool.true_or, Bool.or_true, Bool.not_true, Bool.not_false, dForZ, oVal, oNew, oNil, gLs, fDNew, fDCopy, dDGet, dDIn, onDic, dRetDic, dDPut, dNoX, dBad, dReSet, fAddOwn, fCall, D.noL, D.noLs, dOpOO, dOpEO, dOpOE, dIsiOwn, D.isSc, onStrs, dGet2, dctC, keyOf, gTs, gNs, dAsg, cut11, cut12, cut13, fSlC, dSelf, okM, dMethO, dChk, dMake, onObj, dFld, onFld, dPutFld, onObjS, lk_given, lk_value, lk_piece, lk_staged, lk_fresh, lk_with, putI_nil, putI_given, gStr, dRaise, dTryAs, dTryO, fSl_lo2, fSl_lo3, fSl_lo4, fSl_hi1, fSl_hi2, fSl_hi3]))
local macro_rules | `(tactic| walk_at "cm") => `(tactic| first | (unfold CMul; omega) | (unfold CDiv; omega) | (unfold CPow; omega) | decide | omega)
local macro_rules | `(tactic| walk_at "dr") => `(tactic| (simp only [dNext, dSet, dRet, dDrop, dIfS, dTest, dOp, dVar, dC, dNil, dCons, dConsS, dTup, dLst, dF, dCB, dAnd, dOr, dNot, dAndV, dOrV, dNotV, dIf, dUn, dSl, dNo, dPart, dCall, dSetF, fLst, fLc, dSrc, dForR, dRetOwn, dPutIx, dIxOwn, dApp, dLenOwn, dInOwn, dJoinOwn, dJoin, dIsi, dRng1,
  onVal, onVals, onBl, onInt, onMut, onOwn, onSome_s, onArgs, refs, putS, outs, dst0, okSet, Sl.mut, Sl.toD, Sl.isObj, D.items, fIx, fEq, fNe, fNeg, okEq_str, okEq_int, deq_refl, deq_int, atI0, atI1, atI2, atI3, atI4, atI5, atI_q, fSl1, gList, gTpl, gLen, gInt, gSum, dMaxD, fI, fI0, fAdd, gN, gMax2, gMin2, gStr, D.is_int, D.is_bool, D.is_str, D.is_tuple, D.is_list,
  List.map_cons, List.map_nil, List.length_cons, List.length_nil, List.cons_append, List.nil_append, List.getElem?_cons_zero, List.getElem?_cons_succ, List.set_cons_zero, List.set_cons_succ, List.replicate, Nat.reduceAdd, Nat.reduceSub, Nat.zero_add, Nat.sub_zero, ite_dec,
  if_true, if_false, Bool.false_eq_true, true_and, and_true, decide_true, List.nodup_nil, List.getElem?_nil, Nat.reduceLeDiff, Nat.add_eq, Nat.add_zero, reduceIte, List.Nodup, List.pairwise_cons, List.not_mem_nil, false_implies, implies_true, List.Pairwise.nil, w_num_name, w_num_sum, w_num_product, w_num_less, w_num_when, w_num_let, w_num_turns, w_num_def, w_num_use, w_num_quote, w_num_hole, w_num_lift, w_num_run, w_num_number, w_num_piece, w_num_kept, w_name_num, w_name_sum, w_name_product, w_name_less, w_name_when, w_name_let, w_name_turns, w_name_def, w_name_use, w_name_quote, w_name_hole, w_name_lift, w_name_run, w_name_number, w_name_piece, w_name_kept, w_sum_num, w_sum_name, w_sum_product, w_sum_less, w_sum_when, w_sum_let, w_sum_turns, w_sum_def, w_sum_use, w_sum_quote, w_sum_hole, w_sum_lift, w_sum_run, w_sum_number, w_sum_piece, w_sum_kept, w_product_num, w_product_name, w_product_sum, w_product_less, w_product_when, w_product_let, w_product_turns, w_product_def, w_product_use, w_product_quote, w_product_hole, w_product_lift, w_product_run, w_product_number, w_product_piece, w_product_kept, w_less_num, w_less_name, w_less_sum, w_less_product, w_less_when, w_less_let, w_less_turns, w_less_def, w_less_use, w_less_quote, w_less_hole, w_less_lift, w_less_run, w_less_number, w_less_piece, w_less_kept, w_when_num, w_when_name, w_when_sum, w_when_product, w_when_less, w_when_let, w_when_turns, w_when_def, w_when_use, w_when_quote, w_when_hole, w_when_lift, w_when_run, w_when_number, w_when_piece, w_when_kept, w_let_num, w_let_name, w_let_sum, w_let_product, w_let_less, w_let_when, w_let_turns, w_let_def, w_let_use, w_let_quote, w_let_hole, w_let_lift, w_let_run, w_let_number, w_let_piece, w_let_kept, w_turns_num, w_turns_name, w_turns_sum, w_turns_product, w_turns_less, w_turns_when, w_turns_let, w_turns_def, w_turns_use, w_turns_quote, w_turns_hole, w_turns_lift, w_turns_run, w_turns_number, w_turns_piece, w_turns_kept, w_def_num, w_def_name, w_def_sum, w_def_product, w_def_less, w_def_when, w_def_let, w_def_turns, w_def_use, w_def_quote, w_def_hole, w_def_lift, w_def_run, w_def_number, w_def_piece, w_def_kept, w_use_num, w_use_name, w_use_sum, w_use_product, w_use_less, w_use_when, w_use_let, w_use_turns, w_use_def, w_use_quote, w_use_hole, w_use_lift, w_use_run, w_use_number, w_use_piece, w_use_kept, w_quote_num, w_quote_name, w_quote_sum, w_quote_product, w_quote_less, w_quote_when, w_quote_let, w_quote_turns, w_quote_def, w_quote_use, w_quote_hole, w_quote_lift, w_quote_run, w_quote_number, w_quote_piece, w_quote_kept, w_hole_num, w_hole_name, w_hole_sum, w_hole_product, w_hole_less, w_hole_when, w_hole_let, w_hole_turns, w_hole_def, w_hole_use, w_hole_quote, w_hole_lift, w_hole_run, w_hole_number, w_hole_piece, w_hole_kept, w_lift_num, w_lift_name, w_lift_sum, w_lift_product, w_lift_less, w_lift_when, w_lift_let, w_lift_turns, w_lift_def, w_lift_use, w_lift_quote, w_lift_hole, w_lift_run, w_lift_number, w_lift_piece, w_lift_kept, w_run_num, w_run_name, w_run_sum, w_run_product, w_run_less, w_run_when, w_run_let, w_run_turns, w_run_def, w_run_use, w_run_quote, w_run_hole, w_run_lift, w_run_number, w_run_piece, w_run_kept, w_number_num, w_number_name, w_number_sum, w_number_product, w_number_less, w_number_when, w_number_let, w_number_turns, w_number_def, w_number_use, w_number_quote, w_number_hole, w_number_lift, w_number_run, w_number_piece, w_number_kept, w_piece_num, w_piece_name, w_piece_sum, w_piece_product, w_piece_less, w_piece_when, w_piece_let, w_piece_turns, w_piece_def, w_piece_use, w_piece_quote, w_piece_hole, w_piece_lift, w_piece_run, w_piece_number, w_piece_kept, w_kept_num, w_kept_name, w_kept_sum, w_kept_product, w_kept_less, w_kept_when, w_kept_let, w_kept_turns, w_kept_def, w_kept_use, w_kept_quote, w_kept_hole, w_kept_lift, w_kept_run, w_kept_number, w_kept_piece, fl_num, fl_name, fl_sum, fl_product, fl_less, fl_when, fl_let, fl_turns, fl_def, fl_use, fl_quote, fl_hole, fl_lift, fl_run, fl_number, fl_piece, fl_kept, fIn_T, fIn_Tn, inD_cons, inD_nil, ixN0, fl_i, List.all_cons, List.all_nil, Bool.and_true, Bool.and_self, Bool.or_false, Bool.false_or, Bool.true_or, Bool.or_true, Bool.not_true, Bool.not_false, dForZ, oVal, oNew, oNil, gLs, fDNew, fDCopy, dDGet, dDIn, onDic, dRetDic, dDPut, dNoX, dBad, dReSet, fAddOwn, fCall, D.noL, D.noLs, dOpOO, dOpEO, dOpOE, dIsiOwn, D.isSc, onStrs, dGet2, dctC, keyOf, gTs, gNs, dAsg, cut11, cut12, cut13, fSlC, dSelf, okM, dMethO, dChk, dMake, onObj, dFld, onFld, dPutFld, onObjS, lk_given, lk_value, lk_piece, lk_staged, lk_fresh, lk_with, putI_nil, putI_given, gStr, dRaise, dTryAs, dTryO, fSl_lo2, fSl_lo3, fSl_lo4, fSl_hi1, fSl_hi2, fSl_hi3]))
theorem deq_i' (n : Int) : D.eq (.int n) (.int n) = true := by rw [deq_int]; simp
section
variable {P : Program} {w : World} {K : PySem.W.Frag} {mg : Str → Option Value} {base : Heap}
def spMean : DSp := fun ss E Q => ∃ (e : KE) (x : Str) (l : Int) (ks : List Str), ss = [.val (envD e), .val (.str x), .val (.int l)] ∧ lk e x = some (l, ks) ∧ Q (kvD (l, ks)) ss
def spPut : DSp := fun ss E Q => ∃ (e : KE) (x : Str) (l : Int) (ks : List Str), ss = [.val (envD e), .val (.str x), .val (.int l), .val (.tup (ks.map D.str))] ∧ e.length ≤ 90000 ∧ Q (envD (putE e x (l, ks))) ss
def spWant : DSp := fun ss E Q => ∃ k : Str, ss = [.val (.str k), .val (.str k)] ∧ Q .non ss
theorem ok_meaning (g : G K mg)
    : FnR P w K mg base (0 + 1) g.a_meaning g.d_meaning ["names", "name", "level"] (liftSp K (spMean)) := by
  refine okD g.p_meaning.F sc_meaning (by rintro ss E Q ⟨e, x, l, ks, rfl, _⟩; rfl) fun cdv A outer s H E hr => ⟨_, _, (pss_cons (ps_if (pt_cmp (pc_dnotin hr.un1 (pv 1) (pv 0))) (pss_one ps_bad) pss_nil) (pss_cons (ps_set (i := 3) sc_meaning.nd rfl (by first | exact Or.inl rfl | exact Or.inr rfl) (pe_dget hr.un1 (pv 0) (pv 1) (fun _ _ => rfl))) (pss_cons (ps_if (pt_cmpR (opNe hr.un64) (pe_ix ix_seq (pv 3) pe_int (fun _ _ => rfl)) (pv 2) (nomark _)) (pss_one ps_bad) pss_nil) (pss_one (ps_ret (pv 3)))))), (ss_seq (ss_if (st_B (se_dnotin se_var se_var)) ss_bad ss_next) (ss_seq (ss_set (se_dget se_var se_var)) (ss_seq (ss_if (st_test (se_op sNe (se_op sIx se_var se_int) se_var)) ss_bad ss_next) (ss_ret se_var)))), ?_⟩
  rintro ss Ed Q ⟨e, x, l, ks, rfl, he, hq⟩
  refine x_seq fun R hR => ?_
  simp only [envD] at hq ⊢
  walk_at "dr"
  rw [valD_E, he]
  simp only [Option.map_some, Option.isSome_some, Bool.not_true, Bool.false_eq_true, if_false]
  refine hR _ ?_
  refine x_seq fun R hR => ?_
  walk_at "dr"
  rw [valD_E, he]
  simp only [Option.map_some, onSome_s, kvD]
  refine hR _ ?_
  refine x_seq fun R hR => ?_
  walk_at "dr"
  refine hR _ ?_
  walk_at "dr"
  exact hq
theorem ok_bound (g : G K mg)
    : FnR P w K mg base (0 + 1) g.a_bound g.d_bound ["names", "name", "level", "kinds"] (liftSp K (spPut)) := by
  refine okD g.p_bound.F sc_bound (by rintro ss E Q ⟨e, x, l, ks, rfl, _⟩; rfl) fun cdv A outer s H E hr => ⟨_, _, (pss_cons (ps_set (i := 4) sc_bound.nd rfl (by first | exact Or.inl rfl | exact Or.inr rfl) (pe_callTy crDCopy rfl g.b_dict (by decide +kernel) (pa_cons (pv 0) pa_nil))) (pss_cons (ps_dput hr.un1 (pv 4) (pv 1) (pe_tup (pa_cons (pv 2) (pa_cons (pv 3) pa_nil))) rfl) (pss_one (ps_ret (pv 4))))), (ss_seq (ss_setF (sf_dcopy se_var)) (ss_seq (ss_dput se_var (se_tup (sa_cons se_var (sa_cons se_var sa_nil)))) ss_retDic)), ?_⟩
  rintro ss Ed Q ⟨e, x, l, ks, rfl, he, hq⟩
  rw [← put_E] at hq
  refine x_seq fun R hR => ?_
  simp only [envD] at hq ⊢
  walk_at "dr"
  refine hR _ ?_
  refine x_seq fun R hR => ?_
  walk_at "dr"
  refine ⟨by rw [List.length_map]; omega, hR _ ?_⟩
  walk_at "dr"
  exact hq
theorem ok_wanted (g : G K mg)
    : FnR P w K mg base (0 + 1) g.a_wanted g.d_wanted ["kind", "due"] (liftSp K (spWant)) := by
  refine okD g.p_wanted.F sc_wanted (by rintro ss E Q ⟨k, rfl, _⟩; rfl) fun cdv A outer s H E hr => ⟨_, _, (pss_one (ps_if (pt_cmpR (opNe hr.un64) (pv 0) (pv 1) (nomark _)) (pss_one ps_bad) pss_nil)), (ss_if (st_test (se_op sNe se_var se_var)) ss_bad ss_next), ?_⟩
  rintro ss Ed Q ⟨k, rfl, hq⟩
  walk_at "dr"
  exact hq
end
end Qh

namespace Qh
open PySem PySem.Spec PyProof.Rows L2 Dq
local macro_rules | `(tactic| walk_at "dq") => `(tactic| (simp only [dSeq, dNext, dSet, dRet, dDrop, dIfS, dTest, dOp, dVar, dC, dNil, dCons, dConsS, dTup, dLst, dF, dCB, dAnd, dOr, dNot, dAndV, dOrV, dNotV, dIf, dUn, dSl, dNo, dPart, dCall, dSetF, fLst, fLc, dSrc, dForR, dRetOwn, dPutIx, dIxOwn, dApp, dLenOwn, dInOwn, dJoinOwn, dJoin, dIsi, dRng1,
  onVal, onVals, onBl, onInt, onMut, onOwn, onSome_s, onArgs, refs, putS, outs, dst0, okSet, Sl.mut, Sl.toD, Sl.isObj, D.items, fIx, fEq, fNe, fNeg, okEq_str, okEq_int, deq_refl, deq_int, atI0, atI1, atI2, atI3, atI4, atI5, atI_q, fSl1, gList, gTpl, gLen, gInt, gSum, dMaxD, fI, fI0, fAdd, gN, gMax2, gMin2, gStr, D.is_int, D.is_bool, D.is_str, D.is_tuple, D.is_list,
  List.map_cons, List.map_nil, List.length_cons, List.length_nil, List.cons_append, List.nil_append, List.getElem?_cons_zero, List.getElem?_cons_succ, List.set_cons_zero, List.set_cons_succ, List.replicate, Nat.reduceAdd, Nat.reduceSub, Nat.zero_add, Nat.sub_zero, ite_dec,
  if_true, if_false, Bool.false_eq_true, true_and, and_true, decide_true, List.nodup_nil, List.getElem?_nil, Nat.reduceLeDiff, Nat.add_eq, Nat.add_zero, reduceIte, List.Nodup, List.pairwise_cons, List.not_mem_nil, false_implies, implies_true, List.Pairwise.nil, w_num_name, w_num_sum, w_num_product, w_num_less, w_num_when, w_num_let, w_num_turns, w_num_def, w_num_use, w_num_quote, w_num_hole, w_num_lift, w_num_run, w_num_number, w_num_piece, w_num_kept, w_name_num, w_name_sum, w_name_product, w_name_less, w_name_when, w_name_let, w_name_turns, w_name_def, w_name_use, w_name_quote, w_name_hole, w_name_lift, w_name_run, w_name_number, w_name_piece, w_name_kept, w_sum_num, w_sum_name, w_sum_product, w_sum_less, w_sum_when, w_sum_let, w_sum_turns, w_sum_def, w_sum_use, w_sum_quote, w_sum_hole, w_sum_lift, w_sum_run, w_sum_number, w_sum_piece, w_sum_kept, w_product_num, w_product_name, w_product_sum, w_product_less, w_product_when, w_product_let, w_product_turns, w_product_def, w_product_use, w_product_quote, w_product_hole, w_product_lift, w_product_run, w_product_number, w_product_piece, w_product_kept, w_less_num, w_less_name, w_less_sum, w_less_product, w_less_when, w_less_let, w_less_turns, w_less_def, w_less_use, w_less_quote, w_less_hole, w_less_lift, w_less_run, w_less_number, w_less_piece, w_less_kept, w_when_num, w_when_name, w_when_sum, w_when_product, w_when_less, w_when_let, w_when_turns, w_when_def, w_when_use, w_when_quote, w_when_hole, w_when_lift, w_when_run, w_when_number, w_when_piece, w_when_kept, w_let_num, w_let_name, w_let_sum, w_let_product, w_let_less, w_let_when, w_let_turns, w_let_def, w_let_use, w_let_quote, w_let_hole, w_let_lift, w_let_run, w_let_number, w_let_piece, w_let_kept, w_turns_num, w_turns_name, w_turns_sum, w_turns_product, w_turns_less, w_turns_when, w_turns_let, w_turns_def, w_turns_use, w_turns_quote, w_turns_hole, w_turns_lift, w_turns_run, w_turns_number, w_turns_piece, w_turns_kept, w_def_num, w_def_name, w_def_sum, w_def_product, w_def_less, w_def_when, w_def_let, w_def_turns, w_def_use, w_def_quote, w_def_hole, w_def_lift, w_def_run, w_def_number, w_def_piece, w_def_kept, w_use_num, w_use_name, w_use_sum, w_use_product, w_use_less, w_use_when, w_use_let, w_use_turns, w_use_def, w_use_quote, w_use_hole, w_use_lift, w_use_run, w_use_number, w_use_piece, w_use_kept, w_quote_num, w_quote_name, w_quote_sum, w_quote_product, w_quote_less, w_quote_when, w_quote_let, w_quote_turns, w_quote_def, w_quote_use, w_quote_hole, w_quote_lift, w_quote_run, w_quote_number, w_quote_piece, w_quote_kept, w_hole_num, w_hole_name, w_hole_sum, w_hole_product, w_hole_less, w_hole_when, w_hole_let, w_hole_turns, w_hole_def, w_hole_use, w_hole_quote, w_hole_lift, w_hole_run, w_hole_number, w_hole_piece, w_hole_kept, w_lift_num, w_lift_name, w_lift_sum, w_lift_product, w_lift_less, w_lift_when, w_lift_let, w_lift_turns, w_lift_def, w_lift_use, w_lift_quote, w_lift_hole, w_lift_run, w_lift_number, w_lift_piece, w_lift_kept, w_run_num, w_run_name, w_run_sum, w_run_product, w_run_less, w_run_when, w_run_let, w_run_turns, w_run_def, w_run_use, w_run_quote, w_run_hole, w_run_lift, w_run_number, w_run_piece, w_run_kept, w_number_num, w_number_name, w_number_sum, w_number_product, w_number_less, w_number_when, w_number_let, w_number_turns, w_number_def, w_number_use, w_number_quote, w_number_hole, w_number_lift, w_number_run, w_number_piece, w_number_kept, w_piece_num, w_piece_name, w_piece_sum, w_piece_product, w_piece_less, w_piece_when, w_piece_let, w_piece_turns, w_piece_def, w_piece_use, w_piece_quote, w_piece_hole, w_piece_lift, w_piece_run, w_piece_number, w_piece_kept, w_kept_num, w_kept_name, w_kept_sum, w_kept_product, w_kept_less, w_kept_when, w_kept_let, w_kept_turns, w_kept_def, w_kept_use, w_kept_quote, w_kept_hole, w_kept_lift, w_kept_run, w_kept_number, w_kept_piece, fl_num, fl_name, fl_sum, fl_product, fl_less, fl_when, fl_let, fl_turns, fl_def, fl_use, fl_quote, fl_hole, fl_lift, fl_run, fl_number, fl_piece, fl_kept, fIn_T, fIn_Tn, inD_cons, inD_nil, ixN0, fl_i, List.all_cons, List.all_nil, Bool.and_true, Bool.and_self, Bool.or_false, Bool.false_or, Bool.true_or, Bool.or_true, Bool.not_true, Bool.not_false, dForZ, oVal, oNew, oNil, gLs, fDNew, fDCopy, dDGet, dDIn, onDic, dRetDic, dDPut, dNoX, dBad, dReSet, fAddOwn, fCall, D.noL, D.noLs, dOpOO, dOpEO, dOpOE, dIsiOwn, D.isSc, onStrs, dGet2, dctC, keyOf, gTs, gNs, dAsg, cut11, cut12, cut13, fSlC, dSelf, okM, dMethO, dChk, dMake, onObj, dFld, onFld, dPutFld, onObjS, lk_given, lk_value, lk_piece, lk_staged, lk_fresh, lk_with, putI_nil, putI_given, gStr, dRaise, dTryAs, dTryO, fSl_lo2, fSl_lo3, fSl_lo4, fSl_hi1, fSl_hi2, fSl_hi3]))
local macro_rules | `(tactic| walk_at "cm") => `(tactic| first | (unfold CMul; omega) | (unfold CDiv; omega) | (unfold CPow; omega) | decide | omega)
local macro_rules | `(tactic| walk_at "dr") => `(tactic| (simp only [dNext, dSet, dRet, dDrop, dIfS, dTest, dOp, dVar, dC, dNil, dCons, dConsS, dTup, dLst, dF, dCB, dAnd, dOr, dNot, dAndV, dOrV, dNotV, dIf, dUn, dSl, dNo, dPart, dCall, dSetF, fLst, fLc, dSrc, dForR, dRetOwn, dPutIx, dIxOwn, dApp, dLenOwn, dInOwn, dJoinOwn, dJoin, dIsi, dRng1,
  onVal, onVals, onBl, onInt, onMut, onOwn, onSome_s, onArgs, refs, putS, outs, dst0, okSet, Sl.mut, Sl.toD, Sl.isObj, D.items, fIx, fEq, fNe, fNeg, okEq_str, okEq_int, deq_refl, deq_int, atI0, atI1, atI2, atI3, atI4, atI5, atI_q, fSl1, gList, gTpl, gLen, gInt, gSum, dMaxD, fI, fI0, fAdd, gN, gMax2, gMin2, gStr, D.is_int, D.is_bool, D.is_str, D.is_tuple, D.is_list,
  List.map_cons, List.map_nil, List.length_cons, List.length_nil, List.cons_append, List.nil_append, List.getElem?_cons_zero, List.getElem?_cons_succ, List.set_cons_zero, List.set_cons_succ, List.replicate, Nat.reduceAdd, Nat.reduceSub, Nat.zero_add, Nat.sub_zero, ite_dec,
  if_true, if_false, Bool.false_eq_true, true_and, and_true, decide_true, List.nodup_nil, List.getElem?_nil, Nat.reduceLeDiff, Nat.add_eq, Nat.add_zero, reduceIte, List.Nodup, List.pairwise_cons, List.not_mem_nil, false_implies, implies_true, List.Pairwise.nil, w_num_name, w_num_sum, w_num_product, w_num_less, w_num_when, w_num_let, w_num_turns, w_num_def, w_num_use, w_num_quote, w_num_hole, w_num_lift, w_num_run, w_num_number, w_num_piece, w_num_kept, w_name_num, w_name_sum, w_name_product, w_name_less, w_name_when, w_name_let, w_name_turns, w_name_def, w_name_use, w_name_quote, w_name_hole, w_name_lift, w_name_run, w_name_number, w_name_piece, w_name_kept, w_sum_num, w_sum_name, w_sum_product, w_sum_less, w_sum_when, w_sum_let, w_sum_turns, w_sum_def, w_sum_use, w_sum_quote, w_sum_hole, w_sum_lift, w_sum_run, w_sum_number, w_sum_piece, w_sum_kept, w_product_num, w_product_name, w_product_sum, w_product_less, w_product_when, w_product_let, w_product_turns, w_product_def, w_product_use, w_product_quote, w_product_hole, w_product_lift, w_product_run, w_product_number, w_product_piece, w_product_kept, w_less_num, w_less_name, w_less_sum, w_less_product, w_less_when, w_less_let, w_less_turns, w_less_def, w_less_use, w_less_quote, w_less_hole, w_less_lift, w_less_run, w_less_number, w_less_piece, w_less_kept, w_when_num, w_when_name, w_when_sum, w_when_product, w_when_less, w_when_let, w_when_turns, w_when_def, w_when_use, w_when_quote, w_when_hole, w_when_lift, w_when_run, w_when_number, w_when_piece, w_when_kept, w_let_num, w_let_name, w_let_sum, w_let_product, w_let_less, w_let_when, w_let_turns, w_let_def, w_let_use, w_let_quote, w_let_hole, w_let_lift, w_let_run, w_let_number, w_let_piece, w_let_kept, w_turns_num, w_turns_name, w_turns_sum, w_turns_product, w_turns_less, w_turns_when, w_turns_let, w_turns_def, w_turns_use, w_turns_quote, w_turns_hole, w_turns_lift, w_turns_run, w_turns_number, w_turns_piece, w_turns_kept, w_def_num, w_def_name, w_def_sum, w_def_product, w_def_less, w_def_when, w_def_let, w_def_turns, w_def_use, w_def_quote, w_def_hole, w_def_lift, w_def_run, w_def_number, w_def_piece, w_def_kept, w_use_num, w_use_name, w_use_sum, w_use_product, w_use_less, w_use_when, w_use_let, w_use_turns, w_use_def, w_use_quote, w_use_hole, w_use_lift, w_use_run, w_use_number, w_use_piece, w_use_kept, w_quote_num, w_quote_name, w_quote_sum, w_quote_product, w_quote_less, w_quote_when, w_quote_let, w_quote_turns, w_quote_def, w_quote_use, w_quote_hole, w_quote_lift, w_quote_run, w_quote_number, w_quote_piece, w_quote_kept, w_hole_num, w_hole_name, w_hole_sum, w_hole_product, w_hole_less, w_hole_when, w_hole_let, w_hole_turns, w_hole_def, w_hole_use, w_hole_quote, w_hole_lift, w_hole_run, w_hole_number, w_hole_piece, w_hole_kept, w_lift_num, w_lift_name, w_lift_sum, w_lift_product, w_lift_less, w_lift_when, w_lift_let, w_lift_turns, w_lift_def, w_lift_use, w_lift_quote, w_lift_hole, w_lift_run, w_lift_number, w_lift_piece, w_lift_kept, w_run_num, w_run_name, w_run_sum, w_run_product, w_run_less, w_run_when, w_run_let, w_run_turns, w_run_def, w_run_use, w_run_quote, w_run_hole, w_run_lift, w_run_number, w_run_piece, w_run_kept, w_number_num, w_number_name, w_number_sum, w_number_product, w_number_less, w_number_when, w_number_let, w_number_turns, w_number_def, w_number_use, w_number_quote, w_number_hole, w_number_lift, w_number_run, w_number_piece, w_number_kept, w_piece_num, w_piece_name, w_piece_sum, w_piece_product, w_piece_less, w_piece_when, w_piece_let, w_piece_turns, w_piece_def, w_piece_use, w_piece_quote, w_piece_hole, w_piece_lift, w_piece_run, w_piece_number, w_piece_kept, w_kept_num, w_kept_name, w_kept_sum, w_kept_product, w_kept_less, w_kept_when, w_kept_let, w_kept_turns, w_kept_def, w_kept_use, w_kept_quote, w_kept_hole, w_kept_lift, w_kept_run, w_kept_number, w_kept_piece, fl_num, fl_name, fl_sum, fl_product, fl_less, fl_when, fl_let, fl_turns, fl_def, fl_use, fl_quote, fl_hole, fl_lift, fl_run, fl_number, fl_piece, fl_kept, fIn_T, fIn_Tn, inD_cons, inD_nil, ixN0, fl_i, List.all_cons, List.all_nil, Bool.and_true, Bool.and_self, Bool.or_false, Bool.false_or, Bool.true_or, Bool.or_true, Bool.not_true, Bool.not_false, dForZ, oVal, oNew, oNil, gLs, fDNew, fDCopy, dDGet, dDIn, onDic, dRetDic, dDPut, dNoX, dBad, dReSet, fAddOwn, fCall, D.noL, D.noLs, dOpOO, dOpEO, dOpOE, dIsiOwn, D.isSc, onStrs, dGet2, dctC, keyOf, gTs, gNs, dAsg, cut11, cut12, cut13, fSlC, dSelf, okM, dMethO, dChk, dMake, onObj, dFld, onFld, dPutFld, onObjS, lk_given, lk_value, lk_piece, lk_staged, lk_fresh, lk_with, putI_nil, putI_given, gStr, dRaise, dTryAs, dTryO, fSl_lo2, fSl_lo3, fSl_lo4, fSl_hi1, fSl_hi2, fSl_hi3]))
def SpK (P : Tm → Prop) (n : Nat) : DSp := fun ss E Q => ∃ (t : Tm) (l : Int) (e : KE) (fr : Bool) (k : Str), ss = [.val t.toD, .val (.int l), .val (envD e), .val (.bl fr)] ∧ P t ∧ t.depth ≤ n ∧ (l = 0 ∨ l = 1) ∧ e.length + t.depth ≤ 1000 ∧ kindT t l (lk e) fr = some k ∧ Q (.str k) ss
def isBind : Tm → Prop
  | .lett _ _ _ => True | .turns _ _ _ _ => True | .defn _ _ _ _ _ => True | .use _ _ => True
  | _ => False
def isStag : Tm → Prop
  | .quote _ => True | .hole _ => True | .lift _ => True | .run _ => True
  | _ => False
def spKindAt : Nat → DSp := SpK fun _ => True
def spKindB : Nat → DSp := SpK isBind
def spKindS : Nat → DSp := SpK isStag
theorem kindAt_i {n : Nat} {t : Tm} {l : Int} {e : KE} {fr : Bool} {k : Str} {E : Addr → Prop} {Q : D → List Sl → Prop} (hd : t.depth ≤ n) (hl : l = 0 ∨ l = 1) (he : e.length + t.depth ≤ 1000) (hk : kindT t l (lk e) fr = some k)
    (hq : Q (.str k) [.val t.toD, .val (.int l), .val (envD e), .val (.bl fr)]) : spKindAt n [.val t.toD, .val (.int l), .val (envD e), .val (.bl fr)] E Q := ⟨t, l, e, fr, k, rfl, trivial, hd, hl, he, hk, hq⟩
section
variable {P : Program} {w : World} {K : PySem.W.Frag} {mg : Str → Option Value} {base : Heap}
theorem ok_kind_at {n : Nat} (g : G K mg)
    (h_kind_at : FnR P w K mg base (2 * n + 2) g.a_kind_at g.d_kind_at ["term", "level", "names", "free"] (liftSp K (spKindAt n)))
    (h_kind_of_binder : FnR P w K mg base (2 * n + 3) g.a_kind_of_binder g.d_kind_of_binder ["term", "level", "names", "free"] (liftSp K (spKindB (n + 1))))
    (h_kind_of_staged : FnR P w K mg base (2 * n + 3) g.a_kind_of_staged g.d_kind_of_staged ["term", "level", "names", "free"] (liftSp K (spKindS (n + 1))))
    (h_meaning : FnR P w K mg base (1) g.a_meaning g.d_meaning ["names", "name", "level"] (liftSp K (spMean)))
    (h_wanted : FnR P w K mg base (1) g.a_wanted g.d_wanted ["kind", "due"] (liftSp K (spWant)))
    : FnR P w K mg base (2 * n + 3 + 1) g.a_kind_at g.d_kind_at ["term", "level", "names", "free"] (liftSp K (spKindAt (n + 1))) := by
  refine okD g.p_kind_at.F sc_kind_at (by rintro ss E Q ⟨t, l, e, fr, k, rfl, _⟩; rfl) fun cdv A outer s H E hr => ⟨_, _, (pss_cons (ps_set (i := 4) sc_kind_at.nd rfl (by first | exact Or.inl rfl | exact Or.inr rfl) (pe_ix ix_seq (pv 0) pe_int (fun _ _ => rfl))) (pss_cons (ps_if (pt_cmpR (opEq hr.un64) (pv 4) pe_str (nomark _)) (pss_one (ps_ret pe_str)) pss_nil) (pss_cons (ps_if (pt_cmpR (opEq hr.un64) (pv 4) pe_str (nomark _)) (pss_cons (ps_set (i := 5) sc_kind_at.nd rfl (by first | exact Or.inl rfl | exact Or.inr rfl) (pe_ix ix_seq (pe_callR h_meaning (hr.mono (by omega)) rfl g.p_meaning.g g.p_meaning.F.kp g.p_meaning.b passE (pa_cons (pv 2) (pa_cons (pe_ix ix_seq (pv 0) pe_int (fun _ _ => rfl)) (pa_cons (pv 1) pa_nil)))) pe_int (fun _ _ => rfl))) (pss_cons (ps_if (pt_cmpR (opEq hr.un64) (pe_callB crLen rfl g.b_len boot_len (pa_cons (pv 5) pa_nil)) pe_int (nomark _)) (pss_one ps_bad) pss_nil) (pss_one (ps_ret (pe_ix ix_seq (pv 5) pe_int (fun _ _ => rfl)))))) pss_nil) (pss_cons (ps_if (pt_cmpR (opIn hr.un65) (pv 4) (pe_tup (pa_cons pe_str (pa_cons pe_str (pa_cons pe_str pa_nil)))) rfl) (pss_cons (ps_expr (pe_callR h_wanted (hr.mono (by omega)) rfl g.p_wanted.g g.p_wanted.F.kp g.p_wanted.b passE (pa_cons (pe_callR h_kind_at (hr.mono (by omega)) rfl g.p_kind_at.g g.p_kind_at.F.kp g.p_kind_at.b passE (pa_cons (pe_ix ix_seq (pv 0) pe_int (fun _ _ => rfl)) (pa_cons (pv 1) (pa_cons (pv 2) (pa_cons (pv 3) pa_nil))))) (pa_cons pe_str pa_nil)))) (pss_cons (ps_expr (pe_callR h_wanted (hr.mono (by omega)) rfl g.p_wanted.g g.p_wanted.F.kp g.p_wanted.b passE (pa_cons (pe_callR h_kind_at (hr.mono (by omega)) rfl g.p_kind_at.g g.p_kind_at.F.kp g.p_kind_at.b passE (pa_cons (pe_ix ix_seq (pv 0) pe_int (fun _ _ => rfl)) (pa_cons (pv 1) (pa_cons (pv 2) (pa_cons (pv 3) pa_nil))))) (pa_cons pe_str pa_nil)))) (pss_one (ps_ret pe_str)))) pss_nil) (pss_cons (ps_if (pt_cmpR (opEq hr.un64) (pv 4) pe_str (nomark _)) (pss_cons (ps_expr (pe_callR h_wanted (hr.mono (by omega)) rfl g.p_wanted.g g.p_wanted.F.kp g.p_wanted.b passE (pa_cons (pe_callR h_kind_at (hr.mono (by omega)) rfl g.p_kind_at.g g.p_kind_at.F.kp g.p_kind_at.b passE (pa_cons (pe_ix ix_seq (pv 0) pe_int (fun _ _ => rfl)) (pa_cons (pv 1) (pa_cons (pv 2) (pa_cons (pv 3) pa_nil))))) (pa_cons pe_str pa_nil)))) (pss_cons (ps_set (i := 6) sc_kind_at.nd rfl (by first | exact Or.inl rfl | exact Or.inr rfl) (pe_callR h_kind_at (hr.mono (by omega)) rfl g.p_kind_at.g g.p_kind_at.F.kp g.p_kind_at.b passE (pa_cons (pe_ix ix_seq (pv 0) pe_int (fun _ _ => rfl)) (pa_cons (pv 1) (pa_cons (pv 2) (pa_cons (pv 3) pa_nil)))))) (pss_cons (ps_expr (pe_callR h_wanted (hr.mono (by omega)) rfl g.p_wanted.g g.p_wanted.F.kp g.p_wanted.b passE (pa_cons (pe_callR h_kind_at (hr.mono (by omega)) rfl g.p_kind_at.g g.p_kind_at.F.kp g.p_kind_at.b passE (pa_cons (pe_ix ix_seq (pv 0) pe_int (fun _ _ => rfl)) (pa_cons (pv 1) (pa_cons (pv 2) (pa_cons (pv 3) pa_nil))))) (pa_cons (pv 6) pa_nil)))) (pss_one (ps_ret (pv 6)))))) pss_nil) (pss_cons (ps_if (pt_cmpR (opIn hr.un65) (pv 4) (pe_tup (pa_cons pe_str (pa_cons pe_str (pa_cons pe_str (pa_cons pe_str pa_nil))))) rfl) (pss_one (ps_ret (pe_callR h_kind_of_binder (hr.mono (by omega)) rfl g.p_kind_of_binder.g g.p_kind_of_binder.F.kp g.p_kind_of_binder.b passE (pa_cons (pv 0) (pa_cons (pv 1) (pa_cons (pv 2) (pa_cons (pv 3) pa_nil))))))) pss_nil) (pss_one (ps_ret (pe_callR h_kind_of_staged (hr.mono (by omega)) rfl g.p_kind_of_staged.g g.p_kind_of_staged.F.kp g.p_kind_of_staged.b passE (pa_cons (pv 0) (pa_cons (pv 1) (pa_cons (pv 2) (pa_cons (pv 3) pa_nil))))))))))))), (ss_seq (ss_set (se_op sIx se_var se_int)) (ss_seq (ss_if (st_test (se_op sEq se_var se_str)) (ss_ret se_str) ss_next) (ss_seq (ss_if (st_test (se_op sEq se_var se_str)) (ss_seq (ss_set (se_op sIx (se_call (sa_cons se_var (sa_cons (se_op sIx se_var se_int) (sa_cons se_var sa_nil)))) se_int)) (ss_seq (ss_if (st_test (se_op sEq (se_cb cLen (sa_cons se_var sa_nil)) se_int)) ss_bad ss_next) (ss_ret (se_op sIx se_var se_int)))) ss_next) (ss_seq (ss_if (st_test (se_op sIn se_var (se_tup (sa_cons se_str (sa_cons se_str (sa_cons se_str sa_nil)))))) (ss_seq (ss_drop (se_call (sa_cons (se_call (sa_cons (se_op sIx se_var se_int) (sa_cons se_var (sa_cons se_var (sa_cons se_var sa_nil))))) (sa_cons se_str sa_nil)))) (ss_seq (ss_drop (se_call (sa_cons (se_call (sa_cons (se_op sIx se_var se_int) (sa_cons se_var (sa_cons se_var (sa_cons se_var sa_nil))))) (sa_cons se_str sa_nil)))) (ss_ret se_str))) ss_next) (ss_seq (ss_if (st_test (se_op sEq se_var se_str)) (ss_seq (ss_drop (se_call (sa_cons (se_call (sa_cons (se_op sIx se_var se_int) (sa_cons se_var (sa_cons se_var (sa_cons se_var sa_nil))))) (sa_cons se_str sa_nil)))) (ss_seq (ss_set (se_call (sa_cons (se_op sIx se_var se_int) (sa_cons se_var (sa_cons se_var (sa_cons se_var sa_nil)))))) (ss_seq (ss_drop (se_call (sa_cons (se_call (sa_cons (se_op sIx se_var se_int) (sa_cons se_var (sa_cons se_var (sa_cons se_var sa_nil))))) (sa_cons se_var sa_nil)))) (ss_ret se_var)))) ss_next) (ss_seq (ss_if (st_test (se_op sIn se_var (se_tup (sa_cons se_str (sa_cons se_str (sa_cons se_str (sa_cons se_str sa_nil))))))) (ss_ret (se_call (sa_cons se_var (sa_cons se_var (sa_cons se_var (sa_cons se_var sa_nil)))))) ss_next) (ss_ret (se_call (sa_cons se_var (sa_cons se_var (sa_cons se_var (sa_cons se_var sa_nil)))))))))))), ?_⟩
  rintro ss Ed Q ⟨t, l, e, fr, k, rfl, hp, hd, hl, he, hk, hq⟩
  refine x_seq fun R hR => ?_
  cases t with
  | num m =>
    simp only [kindT, Option.some.injEq] at hk
    subst hk
    simp only [Tm.toD, S] at hq ⊢
    walk_at "dr"
    refine hR _ ?_
    refine x_seq fun R hR => ?_
    walk_at "dr"
    exact hq
  | name x =>
    simp only [kindT] at hk
    split at hk
    · rename_i l' k' hx
      split at hk
      · rename_i hl2
        subst hl2
        injection hk with hk
        subst hk
        simp only [Tm.toD, S] at hq ⊢
        walk_at "dr"
        refine hR _ ?_
        refine x_seq fun R hR => ?_
        walk_at "dr"
        refine hR _ ?_
        refine x_seq fun R hR => ?_
        walk_at "dr"
        refine x_seq fun R hR => ?_
        walk_at "dr"
        refine ⟨e, x, l', [k'], rfl, hx, ?_⟩
        simp only [kvD]
        walk_at "dr"
        refine hR _ ?_
        refine x_seq fun R hR => ?_
        walk_at "dr"
        rw [if_neg (by decide)]
        refine hR _ ?_
        walk_at "dr"
        exact hq
      · cases hk
    · cases hk
  | sum a b =>
    simp only [kindT] at hk
    split at hk
    case isFalse => cases hk
    rename_i h
    injection hk with hk
    subst hk
    simp only [Tm.depth] at hd he
    simp only [Tm.toD, S] at hq ⊢
    walk_at "dr"
    refine hR _ ?_
    refine x_seq fun R hR => ?_
    walk_at "dr"
    refine hR _ ?_
    refine x_seq fun R hR => ?_
    walk_at "dr"
    refine hR _ ?_
    refine x_seq fun R hR => ?_
    walk_at "dr"
    refine x_seq fun R hR => ?_
    walk_at "dr"
    refine kindAt_i (by omega) (by omega) (by omega) h.1 ?_
    walk_at "dr"
    refine ⟨sNum, rfl, ?_⟩
    walk_at "dr"
    refine hR _ ?_
    refine x_seq fun R hR => ?_
    walk_at "dr"
    refine kindAt_i (by omega) (by omega) (by omega) h.2 ?_
    walk_at "dr"
    refine ⟨sNum, rfl, ?_⟩
    walk_at "dr"
    refine hR _ ?_
    walk_at "dr"
    exact hq
  | product a b =>
    simp only [kindT] at hk
    split at hk
    case isFalse => cases hk
    rename_i h
    injection hk with hk
    subst hk
    simp only [Tm.depth] at hd he
    simp only [Tm.toD, S] at hq ⊢
    walk_at "dr"
    refine hR _ ?_
    refine x_seq fun R hR => ?_
    walk_at "dr"
    refine hR _ ?_
    refine x_seq fun R hR => ?_
    walk_at "dr"
    refine hR _ ?_
    refine x_seq fun R hR => ?_
    walk_at "dr"
    refine x_seq fun R hR => ?_
    walk_at "dr"
    refine kindAt_i (by omega) (by omega) (by omega) h.1 ?_
    walk_at "dr"
    refine ⟨sNum, rfl, ?_⟩
    walk_at "dr"
    refine hR _ ?_
    refine x_seq fun R hR => ?_
    walk_at "dr"
    refine kindAt_i (by omega) (by omega) (by omega) h.2 ?_
    walk_at "dr"
    refine ⟨sNum, rfl, ?_⟩
    walk_at "dr"
    refine hR _ ?_
    walk_at "dr"
    exact hq
  | less a b =>
    simp only [kindT] at hk
    split at hk
    case isFalse => cases hk
    rename_i h
    injection hk with hk
    subst hk
    simp only [Tm.depth] at hd he
    simp only [Tm.toD, S] at hq ⊢
    walk_at "dr"
    refine hR _ ?_
    refine x_seq fun R hR => ?_
    walk_at "dr"
    refine hR _ ?_
    refine x_seq fun R hR => ?_
    walk_at "dr"
    refine hR _ ?_
    refine x_seq fun R hR => ?_
    walk_at "dr"
    refine x_seq fun R hR => ?_
    walk_at "dr"
    refine kindAt_i (by omega) (by omega) (by omega) h.1 ?_
    walk_at "dr"
    refine ⟨sNum, rfl, ?_⟩
    walk_at "dr"
    refine hR _ ?_
    refine x_seq fun R hR => ?_
    walk_at "dr"
    refine kindAt_i (by omega) (by omega) (by omega) h.2 ?_
    walk_at "dr"
    refine ⟨sNum, rfl, ?_⟩
    walk_at "dr"
    refine hR _ ?_
    walk_at "dr"
    exact hq
  | when c a b =>
    simp only [kindT] at hk
    split at hk
    case isFalse => cases hk
    rename_i h
    simp only [Tm.depth] at hd he
    simp only [Tm.toD, S] at hq ⊢
    walk_at "dr"
    refine hR _ ?_
    refine x_seq fun R hR => ?_
    walk_at "dr"
    refine hR _ ?_
    refine x_seq fun R hR => ?_
    walk_at "dr"
    refine hR _ ?_
    refine x_seq fun R hR => ?_
    walk_at "dr"
    refine hR _ ?_
    refine x_seq fun R hR => ?_
    walk_at "dr"
    refine x_seq fun R hR => ?_
    walk_at "dr"
    refine kindAt_i (by omega) (by omega) (by omega) h.1 ?_
    walk_at "dr"
    refine ⟨sNum, rfl, ?_⟩
    walk_at "dr"
    refine hR _ ?_
    refine x_seq fun R hR => ?_
    walk_at "dr"
    refine kindAt_i (by omega) (by omega) (by omega) hk ?_
    walk_at "dr"
    refine hR _ ?_
    refine x_seq fun R hR => ?_
    walk_at "dr"
    refine kindAt_i (by omega) (by omega) (by omega) (h.2.trans hk) ?_
    walk_at "dr"
    refine ⟨k, rfl, ?_⟩
    walk_at "dr"
    refine hR _ ?_
    walk_at "dr"
    exact hq
  | lett x a b =>
    have go : ∀ Q : D → List Sl → Prop, Q (.str k) [.val (Tm.lett x a b).toD, .val (.int l), .val (envD e), .val (.bl fr)] → spKindB (n + 1) [.val (Tm.lett x a b).toD, .val (.int l), .val (envD e), .val (.bl fr)] Ed Q := fun Q q => ⟨_, l, e, fr, k, rfl, trivial, hd, hl, he, hk, q⟩
    simp only [Tm.toD, S] at hq go ⊢
    walk_at "dr"
    refine hR _ ?_
    refine x_seq fun R hR => ?_
    walk_at "dr"
    refine hR _ ?_
    refine x_seq fun R hR => ?_
    walk_at "dr"
    refine hR _ ?_
    refine x_seq fun R hR => ?_
    walk_at "dr"
    refine hR _ ?_
    refine x_seq fun R hR => ?_
    walk_at "dr"
    refine hR _ ?_
    refine x_seq fun R hR => ?_
    walk_at "dr"
    refine go _ ?_
    walk_at "dr"
    exact hq
  | turns m x a b =>
    have go : ∀ Q : D → List Sl → Prop, Q (.str k) [.val (Tm.turns m x a b).toD, .val (.int l), .val (envD e), .val (.bl fr)] → spKindB (n + 1) [.val (Tm.turns m x a b).toD, .val (.int l), .val (envD e), .val (.bl fr)] Ed Q := fun Q q => ⟨_, l, e, fr, k, rfl, trivial, hd, hl, he, hk, q⟩
    simp only [Tm.toD, S] at hq go ⊢
    walk_at "dr"
    refine hR _ ?_
    refine x_seq fun R hR => ?_
    walk_at "dr"
    refine hR _ ?_
    refine x_seq fun R hR => ?_
    walk_at "dr"
    refine hR _ ?_
    refine x_seq fun R hR => ?_
    walk_at "dr"
    refine hR _ ?_
    refine x_seq fun R hR => ?_
    walk_at "dr"
    refine hR _ ?_
    refine x_seq fun R hR => ?_
    walk_at "dr"
    refine go _ ?_
    walk_at "dr"
    exact hq
  | defn f x m a b =>
    have go : ∀ Q : D → List Sl → Prop, Q (.str k) [.val (Tm.defn f x m a b).toD, .val (.int l), .val (envD e), .val (.bl fr)] → spKindB (n + 1) [.val (Tm.defn f x m a b).toD, .val (.int l), .val (envD e), .val (.bl fr)] Ed Q := fun Q q => ⟨_, l, e, fr, k, rfl, trivial, hd, hl, he, hk, q⟩
    simp only [Tm.toD, S] at hq go ⊢
    walk_at "dr"
    refine hR _ ?_
    refine x_seq fun R hR => ?_
    walk_at "dr"
    refine hR _ ?_
    refine x_seq fun R hR => ?_
    walk_at "dr"
    refine hR _ ?_
    refine x_seq fun R hR => ?_
    walk_at "dr"
    refine hR _ ?_
    refine x_seq fun R hR => ?_
    walk_at "dr"
    refine hR _ ?_
    refine x_seq fun R hR => ?_
    walk_at "dr"
    refine go _ ?_
    walk_at "dr"
    exact hq
  | use f a =>
    have go : ∀ Q : D → List Sl → Prop, Q (.str k) [.val (Tm.use f a).toD, .val (.int l), .val (envD e), .val (.bl fr)] → spKindB (n + 1) [.val (Tm.use f a).toD, .val (.int l), .val (envD e), .val (.bl fr)] Ed Q := fun Q q => ⟨_, l, e, fr, k, rfl, trivial, hd, hl, he, hk, q⟩
    simp only [Tm.toD, S] at hq go ⊢
    walk_at "dr"
    refine hR _ ?_
    refine x_seq fun R hR => ?_
    walk_at "dr"
    refine hR _ ?_
    refine x_seq fun R hR => ?_
    walk_at "dr"
    refine hR _ ?_
    refine x_seq fun R hR => ?_
    walk_at "dr"
    refine hR _ ?_
    refine x_seq fun R hR => ?_
    walk_at "dr"
    refine hR _ ?_
    refine x_seq fun R hR => ?_
    walk_at "dr"
    refine go _ ?_
    walk_at "dr"
    exact hq
  | quote a =>
    have go : ∀ Q : D → List Sl → Prop, Q (.str k) [.val (Tm.quote a).toD, .val (.int l), .val (envD e), .val (.bl fr)] → spKindS (n + 1) [.val (Tm.quote a).toD, .val (.int l), .val (envD e), .val (.bl fr)] Ed Q := fun Q q => ⟨_, l, e, fr, k, rfl, trivial, hd, hl, he, hk, q⟩
    simp only [Tm.toD, S] at hq go ⊢
    walk_at "dr"
    refine hR _ ?_
    refine x_seq fun R hR => ?_
    walk_at "dr"
    refine hR _ ?_
    refine x_seq fun R hR => ?_
    walk_at "dr"
    refine hR _ ?_
    refine x_seq fun R hR => ?_
    walk_at "dr"
    refine hR _ ?_
    refine x_seq fun R hR => ?_
    walk_at "dr"
    refine hR _ ?_
    refine x_seq fun R hR => ?_
    walk_at "dr"
    refine hR _ ?_
    walk_at "dr"
    refine go _ ?_
    walk_at "dr"
    exact hq
  | hole a =>
    have go : ∀ Q : D → List Sl → Prop, Q (.str k) [.val (Tm.hole a).toD, .val (.int l), .val (envD e), .val (.bl fr)] → spKindS (n + 1) [.val (Tm.hole a).toD, .val (.int l), .val (envD e), .val (.bl fr)] Ed Q := fun Q q => ⟨_, l, e, fr, k, rfl, trivial, hd, hl, he, hk, q⟩
    simp only [Tm.toD, S] at hq go ⊢
    walk_at "dr"
    refine hR _ ?_
    refine x_seq fun R hR => ?_
    walk_at "dr"
    refine hR _ ?_
    refine x_seq fun R hR => ?_
    walk_at "dr"
    refine hR _ ?_
    refine x_seq fun R hR => ?_
    walk_at "dr"
    refine hR _ ?_
    refine x_seq fun R hR => ?_
    walk_at "dr"
    refine hR _ ?_
    refine x_seq fun R hR => ?_
    walk_at "dr"
    refine hR _ ?_
    walk_at "dr"
    refine go _ ?_
    walk_at "dr"
    exact hq
  | lift a =>
    have go : ∀ Q : D → List Sl → Prop, Q (.str k) [.val (Tm.lift a).toD, .val (.int l), .val (envD e), .val (.bl fr)] → spKindS (n + 1) [.val (Tm.lift a).toD, .val (.int l), .val (envD e), .val (.bl fr)] Ed Q := fun Q q => ⟨_, l, e, fr, k, rfl, trivial, hd, hl, he, hk, q⟩
    simp only [Tm.toD, S] at hq go ⊢
    walk_at "dr"
    refine hR _ ?_
    refine x_seq fun R hR => ?_
    walk_at "dr"
    refine hR _ ?_
    refine x_seq fun R hR => ?_
    walk_at "dr"
    refine hR _ ?_
    refine x_seq fun R hR => ?_
    walk_at "dr"
    refine hR _ ?_
    refine x_seq fun R hR => ?_
    walk_at "dr"
    refine hR _ ?_
    refine x_seq fun R hR => ?_
    walk_at "dr"
    refine hR _ ?_
    walk_at "dr"
    refine go _ ?_
    walk_at "dr"
    exact hq
  | run a =>
    have go : ∀ Q : D → List Sl → Prop, Q (.str k) [.val (Tm.run a).toD, .val (.int l), .val (envD e), .val (.bl fr)] → spKindS (n + 1) [.val (Tm.run a).toD, .val (.int l), .val (envD e), .val (.bl fr)] Ed Q := fun Q q => ⟨_, l, e, fr, k, rfl, trivial, hd, hl, he, hk, q⟩
    simp only [Tm.toD, S] at hq go ⊢
    walk_at "dr"
    refine hR _ ?_
    refine x_seq fun R hR => ?_
    walk_at "dr"
    refine hR _ ?_
    refine x_seq fun R hR => ?_
    walk_at "dr"
    refine hR _ ?_
    refine x_seq fun R hR => ?_
    walk_at "dr"
    refine hR _ ?_
    refine x_seq fun R hR => ?_
    walk_at "dr"
    refine hR _ ?_
    refine x_seq fun R hR => ?_
    walk_at "dr"
    refine hR _ ?_
    walk_at "dr"
    refine go _ ?_
    walk_at "dr"
    exact hq

end
end Qh

namespace Qh
open PySem PySem.Spec PyProof.Rows L2 Dq
local macro_rules | `(tactic| walk_at "dq") => `(tactic| (simp only [dSeq, dNext, dSet, dRet, dDrop, dIfS, dTest, dOp, dVar, dC, dNil, dCons, dConsS, dTup, dLst, dF, dCB, dAnd, dOr, dNot, dAndV, dOrV, dNotV, dIf, dUn, dSl, dNo, dPart, dCall, dSetF, fLst, fLc, dSrc, dForR, dRetOwn, dPutIx, dIxOwn, dApp, dLenOwn, dInOwn, dJoinOwn, dJoin, dIsi, dRng1,
  onVal, onVals, onBl, onInt, onMut, onOwn, onSome_s, onArgs, refs, putS, outs, dst0, okSet, Sl.mut, Sl.toD, Sl.isObj, D.items, fIx, fEq, fNe, fNeg, okEq_str, okEq_int, deq_refl, deq_int, atI0, atI1, atI2, atI3, atI4, atI5, atI_q, fSl1, gList, gTpl, gLen, gInt, gSum, dMaxD, fI, fI0, fAdd, gN, gMax2, gMin2, gStr, D.is_int, D.is_bool, D.is_str, D.is_tuple, D.is_list,
  List.map_cons, List.map_nil, List.length_cons, List.length_nil, List.cons_append, List.nil_append, List.getElem?_cons_zero, List.getElem?_cons_succ, List.set_cons_zero, List.set_cons_succ, List.replicate, Nat.reduceAdd, Nat.reduceSub, Nat.zero_add, Nat.sub_zero, ite_dec,
  if_true, if_false, Bool.false_eq_true, true_and, and_true, decide_true, List.nodup_nil, List.getElem?_nil, Nat.reduceLeDiff, Nat.add_eq, Nat.add_zero, reduceIte, List.Nodup, List.pairwise_cons, List.not_mem_nil, false_implies, implies_true, List.Pairwise.nil, w_num_name, w_num_sum, w_num_product, w_num_less, w_num_when, w_num_let, w_num_turns, w_num_def, w_num_use, w_num_quote, w_num_hole, w_num_lift, w_num_run, w_num_number, w_num_piece, w_num_kept, w_name_num, w_name_sum, w_name_product, w_name_less, w_name_when, w_name_let, w_name_turns, w_name_def, w_name_use, w_name_quote, w_name_hole, w_name_lift, w_name_run, w_name_number, w_name_piece, w_name_kept, w_sum_num, w_sum_name, w_sum_product, w_sum_less, w_sum_when, w_sum_let, w_sum_turns, w_sum_def, w_sum_use, w_sum_quote, w_sum_hole, w_sum_lift, w_sum_run, w_sum_number, w_sum_piece, w_sum_kept, w_product_num, w_product_name, w_product_sum, w_product_less, w_product_when, w_product_let, w_product_turns, w_product_def, w_product_use, w_product_quote, w_product_hole, w_product_lift, w_product_run, w_product_number, w_product_piece, w_product_kept, w_less_num, w_less_name, w_less_sum, w_less_product, w_less_when, w_less_let, w_less_turns, w_less_def, w_less_use, w_less_quote, w_less_hole, w_less_lift, w_less_run, w_less_number, w_less_piece, w_less_kept, w_when_num, w_when_name, w_when_sum, w_when_product, w_when_less, w_when_let, w_when_turns, w_when_def, w_when_use, w_when_quote, w_when_hole, w_when_lift, w_when_run, w_when_number, w_when_piece, w_when_kept, w_let_num, w_let_name, w_let_sum, w_let_product, w_let_less, w_let_when, w_let_turns, w_let_def, w_let_use, w_let_quote, w_let_hole, w_let_lift, w_let_run, w_let_number, w_let_piece, w_let_kept, w_turns_num, w_turns_name, w_turns_sum, w_turns_product, w_turns_less, w_turns_when, w_turns_let, w_turns_def, w_turns_use, w_turns_quote, w_turns_hole, w_turns_lift, w_turns_run, w_turns_number, w_turns_piece, w_turns_kept, w_def_num, w_def_name, w_def_sum, w_def_product, w_def_less, w_def_when, w_def_let, w_def_turns, w_def_use, w_def_quote, w_def_hole, w_def_lift, w_def_run, w_def_number, w_def_piece, w_def_kept, w_use_num, w_use_name, w_use_sum, w_use_product, w_use_less, w_use_when, w_use_let, w_use_turns, w_use_def, w_use_quote, w_use_hole, w_use_lift, w_use_run, w_use_number, w_use_piece, w_use_kept, w_quote_num, w_quote_name, w_quote_sum, w_quote_product, w_quote_less, w_quote_when, w_quote_let, w_quote_turns, w_quote_def, w_quote_use, w_quote_hole, w_quote_lift, w_quote_run, w_quote_number, w_quote_piece, w_quote_kept, w_hole_num, w_hole_name, w_hole_sum, w_hole_product, w_hole_less, w_hole_when, w_hole_let, w_hole_turns, w_hole_def, w_hole_use, w_hole_quote, w_hole_lift, w_hole_run, w_hole_number, w_hole_piece, w_hole_kept, w_lift_num, w_lift_name, w_lift_sum, w_lift_product, w_lift_less, w_lift_when, w_lift_let, w_lift_turns, w_lift_def, w_lift_use, w_lift_quote, w_lift_hole, w_lift_run, w_lift_number, w_lift_piece, w_lift_kept, w_run_num, w_run_name, w_run_sum, w_run_product, w_run_less, w_run_when, w_run_let, w_run_turns, w_run_def, w_run_use, w_run_quote, w_run_hole, w_run_lift, w_run_number, w_run_piece, w_run_kept, w_number_num, w_number_name, w_number_sum, w_number_product, w_number_less, w_number_when, w_number_let, w_number_turns, w_number_def, w_number_use, w_number_quote, w_number_hole, w_number_lift, w_number_run, w_number_piece, w_number_kept, w_piece_num, w_piece_name, w_piece_sum, w_piece_product, w_piece_less, w_piece_when, w_piece_let, w_piece_turns, w_piece_def, w_piece_use, w_piece_quote, w_piece_hole, w_piece_lift, w_piece_run, w_piece_number, w_piece_kept, w_kept_num, w_kept_name, w_kept_sum, w_kept_product, w_kept_less, w_kept_when, w_kept_let, w_kept_turns, w_kept_def, w_kept_use, w_kept_quote, w_kept_hole, w_kept_lift, w_kept_run, w_kept_number, w_kept_piece, fl_num, fl_name, fl_sum, fl_product, fl_less, fl_when, fl_let, fl_turns, fl_def, fl_use, fl_quote, fl_hole, fl_lift, fl_run, fl_number, fl_piece, fl_kept, fIn_T, fIn_Tn, inD_cons, inD_nil, ixN0, fl_i, List.all_cons, List.all_nil, Bool.and_true, Bool.and_self, Bool.or_false, Bool.false_or, Bool.true_or, Bool.or_true, Bool.not_true, Bool.not_false, dForZ, oVal, oNew, oNil, gLs, fDNew, fDCopy, dDGet, dDIn, onDic, dRetDic, dDPut, dNoX, dBad, dReSet, fAddOwn, fCall, D.noL, D.noLs, dOpOO, dOpEO, dOpOE, dIsiOwn, D.isSc, onStrs, dGet2, dctC, keyOf, gTs, gNs, dAsg, cut11, cut12, cut13, fSlC, dSelf, okM, dMethO, dChk, dMake, onObj, dFld, onFld, dPutFld, onObjS, lk_given, lk_value, lk_piece, lk_staged, lk_fresh, lk_with, putI_nil, putI_given, gStr, dRaise, dTryAs, dTryO, fSl_lo2, fSl_lo3, fSl_lo4, fSl_hi1, fSl_hi2, fSl_hi3]))
local macro_rules | `(tactic| walk_at "cm") => `(tactic| first | (unfold CMul; omega) | (unfold CDiv; omega) | (unfold CPow; omega) | decide | omega)
local macro_rules | `(tactic| walk_at "dr") => `(tactic| (simp only [dNext, dSet, dRet, dDrop, dIfS, dTest, dOp, dVar, dC, dNil, dCons, dConsS, dTup, dLst, dF, dCB, dAnd, dOr, dNot, dAndV, dOrV, dNotV, dIf, dUn, dSl, dNo, dPart, dCall, dSetF, fLst, fLc, dSrc, dForR, dRetOwn, dPutIx, dIxOwn, dApp, dLenOwn, dInOwn, dJoinOwn, dJoin, dIsi, dRng1,
  onVal, onVals, onBl, onInt, onMut, onOwn, onSome_s, onArgs, refs, putS, outs, dst0, okSet, Sl.mut, Sl.toD, Sl.isObj, D.items, fIx, fEq, fNe, fNeg, okEq_str, okEq_int, deq_refl, deq_int, atI0, atI1, atI2, atI3, atI4, atI5, atI_q, fSl1, gList, gTpl, gLen, gInt, gSum, dMaxD, fI, fI0, fAdd, gN, gMax2, gMin2, gStr, D.is_int, D.is_bool, D.is_str, D.is_tuple, D.is_list,
  List.map_cons, List.map_nil, List.length_cons, List.length_nil, List.cons_append, List.nil_append, List.getElem?_cons_zero, List.getElem?_cons_succ, List.set_cons_zero, List.set_cons_succ, List.replicate, Nat.reduceAdd, Nat.reduceSub, Nat.zero_add, Nat.sub_zero, ite_dec,
  if_true, if_false, Bool.false_eq_true, true_and, and_true, decide_true, List.nodup_nil, List.getElem?_nil, Nat.reduceLeDiff, Nat.add_eq, Nat.add_zero, reduceIte, List.Nodup, List.pairwise_cons, List.not_mem_nil, false_implies, implies_true, List.Pairwise.nil, w_num_name, w_num_sum, w_num_product, w_num_less, w_num_when, w_num_let, w_num_turns, w_num_def, w_num_use, w_num_quote, w_num_hole, w_num_lift, w_num_run, w_num_number, w_num_piece, w_num_kept, w_name_num, w_name_sum, w_name_product, w_name_less, w_name_when, w_name_let, w_name_turns, w_name_def, w_name_use, w_name_quote, w_name_hole, w_name_lift, w_name_run, w_name_number, w_name_piece, w_name_kept, w_sum_num, w_sum_name, w_sum_product, w_sum_less, w_sum_when, w_sum_let, w_sum_turns, w_sum_def, w_sum_use, w_sum_quote, w_sum_hole, w_sum_lift, w_sum_run, w_sum_number, w_sum_piece, w_sum_kept, w_product_num, w_product_name, w_product_sum, w_product_less, w_product_when, w_product_let, w_product_turns, w_product_def, w_product_use, w_product_quote, w_product_hole, w_product_lift, w_product_run, w_product_number, w_product_piece, w_product_kept, w_less_num, w_less_name, w_less_sum, w_less_product, w_less_when, w_less_let, w_less_turns, w_less_def, w_less_use, w_less_quote, w_less_hole, w_less_lift, w_less_run, w_less_number, w_less_piece, w_less_kept, w_when_num, w_when_name, w_when_sum, w_when_product, w_when_less, w_when_let, w_when_turns, w_when_def, w_when_use, w_when_quote, w_when_hole, w_when_lift, w_when_run, w_when_number, w_when_piece, w_when_kept, w_let_num, w_let_name, w_let_sum, w_let_product, w_let_less, w_let_when, w_let_turns, w_let_def, w_let_use, w_let_quote, w_let_hole, w_let_lift, w_let_run, w_let_number, w_let_piece, w_let_kept, w_turns_num, w_turns_name, w_turns_sum, w_turns_product, w_turns_less, w_turns_when, w_turns_let, w_turns_def, w_turns_use, w_turns_quote, w_turns_hole, w_turns_lift, w_turns_run, w_turns_number, w_turns_piece, w_turns_kept, w_def_num, w_def_name, w_def_sum, w_def_product, w_def_less, w_def_when, w_def_let, w_def_turns, w_def_use, w_def_quote, w_def_hole, w_def_lift, w_def_run, w_def_number, w_def_piece, w_def_kept, w_use_num, w_use_name, w_use_sum, w_use_product, w_use_less, w_use_when, w_use_let, w_use_turns, w_use_def, w_use_quote, w_use_hole, w_use_lift, w_use_run, w_use_number, w_use_piece, w_use_kept, w_quote_num, w_quote_name, w_quote_sum, w_quote_product, w_quote_less, w_quote_when, w_quote_let, w_quote_turns, w_quote_def, w_quote_use, w_quote_hole, w_quote_lift, w_quote_run, w_quote_number, w_quote_piece, w_quote_kept, w_hole_num, w_hole_name, w_hole_sum, w_hole_product, w_hole_less, w_hole_when, w_hole_let, w_hole_turns, w_hole_def, w_hole_use, w_hole_quote, w_hole_lift, w_hole_run, w_hole_number, w_hole_piece, w_hole_kept, w_lift_num, w_lift_name, w_lift_sum, w_lift_product, w_lift_less, w_lift_when, w_lift_let, w_lift_turns, w_lift_def, w_lift_use, w_lift_quote, w_lift_hole, w_lift_run, w_lift_number, w_lift_piece, w_lift_kept, w_run_num, w_run_name, w_run_sum, w_run_product, w_run_less, w_run_when, w_run_let, w_run_turns, w_run_def, w_run_use, w_run_quote, w_run_hole, w_run_lift, w_run_number, w_run_piece, w_run_kept, w_number_num, w_number_name, w_number_sum, w_number_product, w_number_less, w_number_when, w_number_let, w_number_turns, w_number_def, w_number_use, w_number_quote, w_number_hole, w_number_lift, w_number_run, w_number_piece, w_number_kept, w_piece_num, w_piece_name, w_piece_sum, w_piece_product, w_piece_less, w_piece_when, w_piece_let, w_piece_turns, w_piece_def, w_piece_use, w_piece_quote, w_piece_hole, w_piece_lift, w_piece_run, w_piece_number, w_piece_kept, w_kept_num, w_kept_name, w_kept_sum, w_kept_product, w_kept_less, w_kept_when, w_kept_let, w_kept_turns, w_kept_def, w_kept_use, w_kept_quote, w_kept_hole, w_kept_lift, w_kept_run, w_kept_number, w_kept_piece, fl_num, fl_name, fl_sum, fl_product, fl_less, fl_when, fl_let, fl_turns, fl_def, fl_use, fl_quote, fl_hole, fl_lift, fl_run, fl_number, fl_piece, fl_kept, fIn_T, fIn_Tn, inD_cons, inD_nil, ixN0, fl_i, List.all_cons, List.all_nil, Bool.and_true, Bool.and_self, Bool.or_false, Bool.false_or, Bool.true_or, Bool.or_true, Bool.not_true, Bool.not_false, dForZ, oVal, oNew, oNil, gLs, fDNew, fDCopy, dDGet, dDIn, onDic, dRetDic, dDPut, dNoX, dBad, dReSet, fAddOwn, fCall, D.noL, D.noLs, dOpOO, dOpEO, dOpOE, dIsiOwn, D.isSc, onStrs, dGet2, dctC, keyOf, gTs, gNs, dAsg, cut11, cut12, cut13, fSlC, dSelf, okM, dMethO, dChk, dMake, onObj, dFld, onFld, dPutFld, onObjS, lk_given, lk_value, lk_piece, lk_staged, lk_fresh, lk_with, putI_nil, putI_given, gStr, dRaise, dTryAs, dTryO, fSl_lo2, fSl_lo3, fSl_lo4, fSl_hi1, fSl_hi2, fSl_hi3]))
theorem eqb_ff : D.eq (.bl false) (.bl false) = true := by simp [D.eq, D.toPy, PyData.eqv]
theorem eqb_tt : D.eq (.bl true) (.bl true) = true := by simp [D.eq, D.toPy, PyData.eqv]
theorem d01 : decide ((0 : Int) = 1) = false := by decide
theorem d22 : D.eq (.int ((2 : Nat) : Int)) (.int 2) = true := by rw [deq_int]; decide
section
variable {P : Program} {w : World} {K : PySem.W.Frag} {mg : Str → Option Value} {base : Heap}
theorem ok_kind_of_staged {n : Nat} (g : G K mg)
    (h_kind_at : FnR P w K mg base (2 * n + 2) g.a_kind_at g.d_kind_at ["term", "level", "names", "free"] (liftSp K (spKindAt n)))
    (h_wanted : FnR P w K mg base (1) g.a_wanted g.d_wanted ["kind", "due"] (liftSp K (spWant)))
    : FnR P w K mg base (2 * n + 2 + 1) g.a_kind_of_staged g.d_kind_of_staged ["term", "level", "names", "free"] (liftSp K (spKindS (n + 1))) := by
  refine okD g.p_kind_of_staged.F sc_kind_of_staged (by rintro ss E Q ⟨t, l, e, fr, k, rfl, _⟩; rfl) fun cdv A outer s H E hr => ⟨_, _, (pss_cons (ps_set (i := 4) sc_kind_of_staged.nd rfl (by first | exact Or.inl rfl | exact Or.inr rfl) (pe_ix ix_seq (pv 0) pe_int (fun _ _ => rfl))) (pss_cons (ps_if (PW.pt (pw_or (pt_cmpR (opNe hr.un64) (pe_cmpR (opEq hr.un64) (pv 4) pe_str (nomark _)) (pe_cmpR (opEq hr.un64) (pv 1) pe_int (nomark _)) (nomark _)) (pw_or1 (PW.pt (pw_and (pt_cmpR (opEq hr.un64) (pv 4) pe_str (nomark _)) (pw_and1 (pt_not (pt_val (pv 3))))))))) (pss_one ps_bad) pss_nil) (pss_cons (ps_if (pt_cmpR (opEq hr.un64) (pv 4) pe_str (nomark _)) (pss_cons (ps_expr (pe_callR h_wanted (hr.mono (by omega)) rfl g.p_wanted.g g.p_wanted.F.kp g.p_wanted.b passE (pa_cons (pe_callR h_kind_at (hr.mono (by omega)) rfl g.p_kind_at.g g.p_kind_at.F.kp g.p_kind_at.b passE (pa_cons (pe_ix ix_seq (pv 0) pe_int (fun _ _ => rfl)) (pa_cons pe_int (pa_cons (pv 2) (pa_cons pe_bl pa_nil))))) (pa_cons pe_str pa_nil)))) (pss_one (ps_ret pe_str))) pss_nil) (pss_cons (ps_if (pt_cmpR (opEq hr.un64) (pv 4) pe_str (nomark _)) (pss_cons (ps_expr (pe_callR h_wanted (hr.mono (by omega)) rfl g.p_wanted.g g.p_wanted.F.kp g.p_wanted.b passE (pa_cons (pe_callR h_kind_at (hr.mono (by omega)) rfl g.p_kind_at.g g.p_kind_at.F.kp g.p_kind_at.b passE (pa_cons (pe_ix ix_seq (pv 0) pe_int (fun _ _ => rfl)) (pa_cons pe_int (pa_cons (pv 2) (pa_cons pe_bl pa_nil))))) (pa_cons pe_str pa_nil)))) (pss_one (ps_ret pe_str))) pss_nil) (pss_cons (ps_if (pt_cmpR (opEq hr.un64) (pv 4) pe_str (nomark _)) (pss_cons (ps_expr (pe_callR h_wanted (hr.mono (by omega)) rfl g.p_wanted.g g.p_wanted.F.kp g.p_wanted.b passE (pa_cons (pe_callR h_kind_at (hr.mono (by omega)) rfl g.p_kind_at.g g.p_kind_at.F.kp g.p_kind_at.b passE (pa_cons (pe_ix ix_seq (pv 0) pe_int (fun _ _ => rfl)) (pa_cons pe_int (pa_cons (pv 2) (pa_cons (pv 3) pa_nil))))) (pa_cons pe_str pa_nil)))) (pss_one (ps_ret pe_str))) pss_nil) (pss_cons (ps_expr (pe_callR h_wanted (hr.mono (by omega)) rfl g.p_wanted.g g.p_wanted.F.kp g.p_wanted.b passE (pa_cons (pe_callR h_kind_at (hr.mono (by omega)) rfl g.p_kind_at.g g.p_kind_at.F.kp g.p_kind_at.b passE (pa_cons (pe_ix ix_seq (pv 0) pe_int (fun _ _ => rfl)) (pa_cons pe_int (pa_cons (pv 2) (pa_cons (pv 3) pa_nil))))) (pa_cons pe_str pa_nil)))) (pss_one (ps_ret pe_str)))))))), (ss_seq (ss_set (se_op sIx se_var se_int)) (ss_seq (ss_if (st_or (st_test (se_op sNe (se_op sEq se_var se_str) (se_op sEq se_var se_int))) (st_and (st_test (se_op sEq se_var se_str)) (st_not (st_B se_var)))) ss_bad ss_next) (ss_seq (ss_if (st_test (se_op sEq se_var se_str)) (ss_seq (ss_drop (se_call (sa_cons (se_call (sa_cons (se_op sIx se_var se_int) (sa_cons se_int (sa_cons se_var (sa_cons se_bl sa_nil))))) (sa_cons se_str sa_nil)))) (ss_ret se_str)) ss_next) (ss_seq (ss_if (st_test (se_op sEq se_var se_str)) (ss_seq (ss_drop (se_call (sa_cons (se_call (sa_cons (se_op sIx se_var se_int) (sa_cons se_int (sa_cons se_var (sa_cons se_bl sa_nil))))) (sa_cons se_str sa_nil)))) (ss_ret se_str)) ss_next) (ss_seq (ss_if (st_test (se_op sEq se_var se_str)) (ss_seq (ss_drop (se_call (sa_cons (se_call (sa_cons (se_op sIx se_var se_int) (sa_cons se_int (sa_cons se_var (sa_cons se_var sa_nil))))) (sa_cons se_str sa_nil)))) (ss_ret se_str)) ss_next) (ss_seq (ss_drop (se_call (sa_cons (se_call (sa_cons (se_op sIx se_var se_int) (sa_cons se_int (sa_cons se_var (sa_cons se_var sa_nil))))) (sa_cons se_str sa_nil)))) (ss_ret se_str))))))), ?_⟩
  rintro ss Ed Q ⟨t, l, e, fr, k, rfl, hp, hd, hl, he, hk, hq⟩
  refine x_seq fun R hR => ?_
  cases t <;> simp only [isStag] at hp
  case quote a =>
    simp only [kindT] at hk
    split at hk
    case isFalse => cases hk
    rename_i h
    injection hk with hk
    subst hk
    simp only [Tm.depth] at hd he
    simp only [Tm.toD, S] at hq ⊢
    walk_at "dr"
    refine hR _ ?_
    refine x_seq fun R hR => ?_
    have key : R [some (.val (.tup [.str (Str.ofString "quote"), a.toD])), some (.val (.int l)), some (.val (envD e)), some (.val (.bl fr)), some (.val (.str (Str.ofString "quote")))] := by
      refine hR _ ?_
      refine x_seq fun R hR => ?_
      walk_at "dr"
      refine x_seq fun R hR => ?_
      walk_at "dr"
      refine kindAt_i (by omega) (by omega) (by omega) h.2 ?_
      walk_at "dr"
      refine ⟨sNum, rfl, ?_⟩
      walk_at "dr"
      refine hR _ ?_
      walk_at "dr"
      exact hq
    clear hR
    rcases hl with rfl | rfl <;> first | (exact absurd rfl h.1; done) | (exact absurd h.1 (by decide); done) | (walk_at "dr"; refine ⟨rfl, ?_⟩; simp only [d01, eqb_ff, eqb_tt, Bool.not_true, Bool.not_false, Bool.false_eq_true, if_false, if_true]; first | exact key | (rw [if_neg (by rw [h.2.1]; decide)]; exact key))
  case hole a =>
    simp only [kindT] at hk
    split at hk
    case isFalse => cases hk
    rename_i h
    injection hk with hk
    subst hk
    simp only [Tm.depth] at hd he
    simp only [Tm.toD, S] at hq ⊢
    walk_at "dr"
    refine hR _ ?_
    refine x_seq fun R hR => ?_
    have key : R [some (.val (.tup [.str (Str.ofString "hole"), a.toD])), some (.val (.int l)), some (.val (envD e)), some (.val (.bl fr)), some (.val (.str (Str.ofString "hole")))] := by
      refine hR _ ?_
      refine x_seq fun R hR => ?_
      walk_at "dr"
      refine hR _ ?_
      refine x_seq fun R hR => ?_
      walk_at "dr"
      refine x_seq fun R hR => ?_
      walk_at "dr"
      refine kindAt_i (by omega) (by omega) (by omega) h.2 ?_
      walk_at "dr"
      refine ⟨sPiece, rfl, ?_⟩
      walk_at "dr"
      refine hR _ ?_
      walk_at "dr"
      exact hq
    clear hR
    rcases hl with rfl | rfl <;> first | (exact absurd rfl h.1; done) | (exact absurd h.1 (by decide); done) | (walk_at "dr"; refine ⟨rfl, ?_⟩; simp only [d01, eqb_ff, eqb_tt, Bool.not_true, Bool.not_false, Bool.false_eq_true, if_false, if_true]; first | exact key | (rw [if_neg (by rw [h.2.1]; decide)]; exact key))
  case lift a =>
    simp only [kindT] at hk
    split at hk
    case isFalse => cases hk
    rename_i h
    injection hk with hk
    subst hk
    simp only [Tm.depth] at hd he
    simp only [Tm.toD, S] at hq ⊢
    walk_at "dr"
    refine hR _ ?_
    refine x_seq fun R hR => ?_
    have key : R [some (.val (.tup [.str (Str.ofString "lift"), a.toD])), some (.val (.int l)), some (.val (envD e)), some (.val (.bl fr)), some (.val (.str (Str.ofString "lift")))] := by
      refine hR _ ?_
      refine x_seq fun R hR => ?_
      walk_at "dr"
      refine hR _ ?_
      refine x_seq fun R hR => ?_
      walk_at "dr"
      refine hR _ ?_
      refine x_seq fun R hR => ?_
      walk_at "dr"
      refine x_seq fun R hR => ?_
      walk_at "dr"
      refine kindAt_i (by omega) (by omega) (by omega) h.2 ?_
      walk_at "dr"
      refine ⟨sNum, rfl, ?_⟩
      walk_at "dr"
      refine hR _ ?_
      walk_at "dr"
      exact hq
    clear hR
    rcases hl with rfl | rfl <;> first | (exact absurd rfl h.1; done) | (exact absurd h.1 (by decide); done) | (walk_at "dr"; refine ⟨rfl, ?_⟩; simp only [d01, eqb_ff, eqb_tt, Bool.not_true, Bool.not_false, Bool.false_eq_true, if_false, if_true]; first | exact key | (rw [if_neg (by rw [h.2.1]; decide)]; exact key))
  case run a =>
    simp only [kindT] at hk
    split at hk
    case isFalse => cases hk
    rename_i h
    injection hk with hk
    subst hk
    simp only [Tm.depth] at hd he
    simp only [Tm.toD, S] at hq ⊢
    walk_at "dr"
    refine hR _ ?_
    refine x_seq fun R hR => ?_
    have key : R [some (.val (.tup [.str (Str.ofString "run"), a.toD])), some (.val (.int l)), some (.val (envD e)), some (.val (.bl fr)), some (.val (.str (Str.ofString "run")))] := by
      refine hR _ ?_
      refine x_seq fun R hR => ?_
      walk_at "dr"
      refine hR _ ?_
      refine x_seq fun R hR => ?_
      walk_at "dr"
      refine hR _ ?_
      refine x_seq fun R hR => ?_
      walk_at "dr"
      refine hR _ ?_
      refine x_seq fun R hR => ?_
      walk_at "dr"
      refine kindAt_i (by omega) (by omega) (by omega) h.2.2 ?_
      walk_at "dr"
      refine ⟨sPiece, rfl, ?_⟩
      walk_at "dr"
      refine hR _ ?_
      walk_at "dr"
      exact hq
    clear hR
    rcases hl with rfl | rfl <;> first | (exact absurd rfl h.1; done) | (exact absurd h.1 (by decide); done) | (walk_at "dr"; refine ⟨rfl, ?_⟩; simp only [d01, eqb_ff, eqb_tt, Bool.not_true, Bool.not_false, Bool.false_eq_true, if_false, if_true]; first | exact key | (rw [if_neg (by rw [h.2.1]; decide)]; exact key))

theorem ok_kind_of_binder {n : Nat} (g : G K mg)
    (h_bound : FnR P w K mg base (1) g.a_bound g.d_bound ["names", "name", "level", "kinds"] (liftSp K (spPut)))
    (h_kind_at : FnR P w K mg base (2 * n + 2) g.a_kind_at g.d_kind_at ["term", "level", "names", "free"] (liftSp K (spKindAt n)))
    (h_meaning : FnR P w K mg base (1) g.a_meaning g.d_meaning ["names", "name", "level"] (liftSp K (spMean)))
    (h_wanted : FnR P w K mg base (1) g.a_wanted g.d_wanted ["kind", "due"] (liftSp K (spWant)))
    : FnR P w K mg base (2 * n + 2 + 1) g.a_kind_of_binder g.d_kind_of_binder ["term", "level", "names", "free"] (liftSp K (spKindB (n + 1))) := by
  refine okD g.p_kind_of_binder.F sc_kind_of_binder (by rintro ss E Q ⟨t, l, e, fr, k, rfl, _⟩; rfl) fun cdv A outer s H E hr => ⟨_, _, (pss_cons (ps_set (i := 4) sc_kind_of_binder.nd rfl (by first | exact Or.inl rfl | exact Or.inr rfl) (pe_ix ix_seq (pv 0) pe_int (fun _ _ => rfl))) (pss_cons (ps_if (pt_cmpR (opEq hr.un64) (pv 4) pe_str (nomark _)) (pss_cons (ps_set (i := 5) sc_kind_of_binder.nd rfl (by first | exact Or.inl rfl | exact Or.inr rfl) (pe_callR h_kind_at (hr.mono (by omega)) rfl g.p_kind_at.g g.p_kind_at.F.kp g.p_kind_at.b passE (pa_cons (pe_ix ix_seq (pv 0) pe_int (fun _ _ => rfl)) (pa_cons (pv 1) (pa_cons (pv 2) (pa_cons (pv 3) pa_nil)))))) (pss_one (ps_ret (pe_callR h_kind_at (hr.mono (by omega)) rfl g.p_kind_at.g g.p_kind_at.F.kp g.p_kind_at.b passE (pa_cons (pe_ix ix_seq (pv 0) pe_int (fun _ _ => rfl)) (pa_cons (pv 1) (pa_cons (pe_callR h_bound (hr.mono (by omega)) rfl g.p_bound.g g.p_bound.F.kp g.p_bound.b passE (pa_cons (pv 2) (pa_cons (pe_ix ix_seq (pv 0) pe_int (fun _ _ => rfl)) (pa_cons (pv 1) (pa_cons (pe_tup (pa_cons (pv 5) pa_nil)) pa_nil))))) (pa_cons (pv 3) pa_nil)))))))) pss_nil) (pss_cons (ps_if (pt_cmpR (opEq hr.un64) (pv 4) pe_str (nomark _)) (pss_cons (ps_set (i := 5) sc_kind_of_binder.nd rfl (by first | exact Or.inl rfl | exact Or.inr rfl) (pe_callR h_kind_at (hr.mono (by omega)) rfl g.p_kind_at.g g.p_kind_at.F.kp g.p_kind_at.b passE (pa_cons (pe_ix ix_seq (pv 0) pe_int (fun _ _ => rfl)) (pa_cons (pv 1) (pa_cons (pv 2) (pa_cons (pv 3) pa_nil)))))) (pss_cons (ps_expr (pe_callR h_wanted (hr.mono (by omega)) rfl g.p_wanted.g g.p_wanted.F.kp g.p_wanted.b passE (pa_cons (pe_callR h_kind_at (hr.mono (by omega)) rfl g.p_kind_at.g g.p_kind_at.F.kp g.p_kind_at.b passE (pa_cons (pe_ix ix_seq (pv 0) pe_int (fun _ _ => rfl)) (pa_cons (pv 1) (pa_cons (pe_callR h_bound (hr.mono (by omega)) rfl g.p_bound.g g.p_bound.F.kp g.p_bound.b passE (pa_cons (pv 2) (pa_cons (pe_ix ix_seq (pv 0) pe_int (fun _ _ => rfl)) (pa_cons (pv 1) (pa_cons (pe_tup (pa_cons (pv 5) pa_nil)) pa_nil))))) (pa_cons (pv 3) pa_nil))))) (pa_cons (pv 5) pa_nil)))) (pss_one (ps_ret (pv 5))))) pss_nil) (pss_cons (ps_if (pt_cmpR (opEq hr.un64) (pv 4) pe_str (nomark _)) (pss_cons (ps_set (i := 6) sc_kind_of_binder.nd rfl (by first | exact Or.inl rfl | exact Or.inr rfl) (pe_ix ix_seq (pe_callR h_meaning (hr.mono (by omega)) rfl g.p_meaning.g g.p_meaning.F.kp g.p_meaning.b passE (pa_cons (pv 2) (pa_cons (pe_ix ix_seq (pv 0) pe_int (fun _ _ => rfl)) (pa_cons (pv 1) pa_nil)))) pe_int (fun _ _ => rfl))) (pss_cons (ps_if (pt_cmpR (opNe hr.un64) (pe_callB crLen rfl g.b_len boot_len (pa_cons (pv 6) pa_nil)) pe_int (nomark _)) (pss_one ps_bad) pss_nil) (pss_cons (ps_expr (pe_callR h_wanted (hr.mono (by omega)) rfl g.p_wanted.g g.p_wanted.F.kp g.p_wanted.b passE (pa_cons (pe_callR h_kind_at (hr.mono (by omega)) rfl g.p_kind_at.g g.p_kind_at.F.kp g.p_kind_at.b passE (pa_cons (pe_ix ix_seq (pv 0) pe_int (fun _ _ => rfl)) (pa_cons (pv 1) (pa_cons (pv 2) (pa_cons (pv 3) pa_nil))))) (pa_cons (pe_ix ix_seq (pv 6) pe_int (fun _ _ => rfl)) pa_nil)))) (pss_one (ps_ret (pe_ix ix_seq (pv 6) pe_int (fun _ _ => rfl))))))) pss_nil) (pss_cons (ps_if (pt_cmpR (opEq hr.un64) (pv 1) pe_int (nomark _)) (pss_one (ps_expr (pe_callR h_wanted (hr.mono (by omega)) rfl g.p_wanted.g g.p_wanted.F.kp g.p_wanted.b passE (pa_cons (pe_ix ix_seq (pv 0) pe_int (fun _ _ => rfl)) (pa_cons pe_str pa_nil))))) pss_nil) (pss_cons (ps_set (i := 5) sc_kind_of_binder.nd rfl (by first | exact Or.inl rfl | exact Or.inr rfl) (pe_callR h_kind_at (hr.mono (by omega)) rfl g.p_kind_at.g g.p_kind_at.F.kp g.p_kind_at.b passE (pa_cons (pe_ix ix_seq (pv 0) pe_int (fun _ _ => rfl)) (pa_cons (pv 1) (pa_cons (pe_callR h_bound (hr.mono (by omega)) rfl g.p_bound.g g.p_bound.F.kp g.p_bound.b passE (pa_cons (pv 2) (pa_cons (pe_ix ix_seq (pv 0) pe_int (fun _ _ => rfl)) (pa_cons (pv 1) (pa_cons (pe_tup (pa_cons (pe_ix ix_seq (pv 0) pe_int (fun _ _ => rfl)) pa_nil)) pa_nil))))) (pa_cons pe_bl pa_nil)))))) (pss_one (ps_ret (pe_callR h_kind_at (hr.mono (by omega)) rfl g.p_kind_at.g g.p_kind_at.F.kp g.p_kind_at.b passE (pa_cons (pe_ix ix_seq (pv 0) pe_int (fun _ _ => rfl)) (pa_cons (pv 1) (pa_cons (pe_callR h_bound (hr.mono (by omega)) rfl g.p_bound.g g.p_bound.F.kp g.p_bound.b passE (pa_cons (pv 2) (pa_cons (pe_ix ix_seq (pv 0) pe_int (fun _ _ => rfl)) (pa_cons (pv 1) (pa_cons (pe_tup (pa_cons (pe_ix ix_seq (pv 0) pe_int (fun _ _ => rfl)) (pa_cons (pv 5) pa_nil))) pa_nil))))) (pa_cons (pv 3) pa_nil))))))))))))), (ss_seq (ss_set (se_op sIx se_var se_int)) (ss_seq (ss_if (st_test (se_op sEq se_var se_str)) (ss_seq (ss_set (se_call (sa_cons (se_op sIx se_var se_int) (sa_cons se_var (sa_cons se_var (sa_cons se_var sa_nil)))))) (ss_ret (se_call (sa_cons (se_op sIx se_var se_int) (sa_cons se_var (sa_cons (se_call (sa_cons se_var (sa_cons (se_op sIx se_var se_int) (sa_cons se_var (sa_cons (se_tup (sa_cons se_var sa_nil)) sa_nil))))) (sa_cons se_var sa_nil))))))) ss_next) (ss_seq (ss_if (st_test (se_op sEq se_var se_str)) (ss_seq (ss_set (se_call (sa_cons (se_op sIx se_var se_int) (sa_cons se_var (sa_cons se_var (sa_cons se_var sa_nil)))))) (ss_seq (ss_drop (se_call (sa_cons (se_call (sa_cons (se_op sIx se_var se_int) (sa_cons se_var (sa_cons (se_call (sa_cons se_var (sa_cons (se_op sIx se_var se_int) (sa_cons se_var (sa_cons (se_tup (sa_cons se_var sa_nil)) sa_nil))))) (sa_cons se_var sa_nil))))) (sa_cons se_var sa_nil)))) (ss_ret se_var))) ss_next) (ss_seq (ss_if (st_test (se_op sEq se_var se_str)) (ss_seq (ss_set (se_op sIx (se_call (sa_cons se_var (sa_cons (se_op sIx se_var se_int) (sa_cons se_var sa_nil)))) se_int)) (ss_seq (ss_if (st_test (se_op sNe (se_cb cLen (sa_cons se_var sa_nil)) se_int)) ss_bad ss_next) (ss_seq (ss_drop (se_call (sa_cons (se_call (sa_cons (se_op sIx se_var se_int) (sa_cons se_var (sa_cons se_var (sa_cons se_var sa_nil))))) (sa_cons (se_op sIx se_var se_int) sa_nil)))) (ss_ret (se_op sIx se_var se_int))))) ss_next) (ss_seq (ss_if (st_test (se_op sEq se_var se_int)) (ss_drop (se_call (sa_cons (se_op sIx se_var se_int) (sa_cons se_str sa_nil)))) ss_next) (ss_seq (ss_set (se_call (sa_cons (se_op sIx se_var se_int) (sa_cons se_var (sa_cons (se_call (sa_cons se_var (sa_cons (se_op sIx se_var se_int) (sa_cons se_var (sa_cons (se_tup (sa_cons (se_op sIx se_var se_int) sa_nil)) sa_nil))))) (sa_cons se_bl sa_nil)))))) (ss_ret (se_call (sa_cons (se_op sIx se_var se_int) (sa_cons se_var (sa_cons (se_call (sa_cons se_var (sa_cons (se_op sIx se_var se_int) (sa_cons se_var (sa_cons (se_tup (sa_cons (se_op sIx se_var se_int) (sa_cons se_var sa_nil))) sa_nil))))) (sa_cons se_var sa_nil)))))))))))), ?_⟩
  rintro ss Ed Q ⟨t, l, e, fr, k, rfl, hp, hd, hl, he, hk, hq⟩
  refine x_seq fun R hR => ?_
  cases t <;> simp only [isBind] at hp
  case lett x a b =>
    simp only [kindT] at hk
    split at hk
    case h_2 => cases hk
    rename_i k1 h1
    rw [← lk_setR] at hk
    have pl := putE_len e x (l, [k1])
    simp only [Tm.depth] at hd he
    simp only [Tm.toD, S] at hq ⊢
    walk_at "dr"
    refine hR _ ?_
    refine x_seq fun R hR => ?_
    walk_at "dr"
    refine x_seq fun R hR => ?_
    walk_at "dr"
    refine kindAt_i (by omega) hl (by omega) h1 ?_
    walk_at "dr"
    refine hR _ ?_
    walk_at "dr"
    refine ⟨e, x, l, [k1], rfl, by omega, ?_⟩
    walk_at "dr"
    refine kindAt_i (by omega) hl (by omega) hk ?_
    walk_at "dr"
    exact hq
  case turns m x a b =>
    simp only [kindT] at hk
    split at hk
    case h_2 => cases hk
    rename_i k1 h1
    split at hk
    case isFalse => cases hk
    rename_i h2
    injection hk with hk
    subst hk
    rw [← lk_setR] at h2
    have pl := putE_len e x (l, [k1])
    simp only [Tm.depth] at hd he
    simp only [Tm.toD, S] at hq ⊢
    walk_at "dr"
    refine hR _ ?_
    refine x_seq fun R hR => ?_
    walk_at "dr"
    refine hR _ ?_
    refine x_seq fun R hR => ?_
    walk_at "dr"
    refine x_seq fun R hR => ?_
    walk_at "dr"
    refine kindAt_i (by omega) hl (by omega) h1 ?_
    walk_at "dr"
    refine hR _ ?_
    refine x_seq fun R hR => ?_
    walk_at "dr"
    refine ⟨e, x, l, [k1], rfl, by omega, ?_⟩
    walk_at "dr"
    refine kindAt_i (by omega) hl (by omega) h2 ?_
    walk_at "dr"
    refine ⟨k1, rfl, ?_⟩
    walk_at "dr"
    refine hR _ ?_
    walk_at "dr"
    exact hq
  case use f a =>
    simp only [kindT] at hk
    split at hk
    case h_2 => cases hk
    rename_i l' k1 k2 hf
    split at hk
    case isFalse => cases hk
    rename_i h2
    injection hk with hk
    subst hk
    obtain ⟨rfl, h2⟩ := h2
    simp only [Tm.depth] at hd he
    simp only [Tm.toD, S] at hq ⊢
    walk_at "dr"
    refine hR _ ?_
    refine x_seq fun R hR => ?_
    walk_at "dr"
    refine hR _ ?_
    refine x_seq fun R hR => ?_
    walk_at "dr"
    refine hR _ ?_
    refine x_seq fun R hR => ?_
    walk_at "dr"
    refine x_seq fun R hR => ?_
    walk_at "dr"
    refine ⟨e, f, l', [k1, k2], rfl, hf, ?_⟩
    simp only [kvD]
    walk_at "dr"
    refine hR _ ?_
    refine x_seq fun R hR => ?_
    walk_at "dr"
    rw [if_neg (by decide)]
    refine hR _ ?_
    refine x_seq fun R hR => ?_
    walk_at "dr"
    refine kindAt_i (by omega) hl (by omega) h2 ?_
    walk_at "dr"
    refine ⟨k1, rfl, ?_⟩
    walk_at "dr"
    refine hR _ ?_
    walk_at "dr"
    exact hq
  case defn f x m a b =>
    simp only [kindT] at hk
    split at hk
    case isTrue => cases hk
    rename_i hlm
    split at hk
    case h_2 => cases hk
    rename_i k1 h1
    rw [← lk_setR] at hk h1
    have pl := putE_len e x (l, [m])
    have pl2 := putE_len e f (l, [m, k1])
    simp only [Tm.depth] at hd he
    simp only [Tm.toD, S] at hq ⊢
    walk_at "dr"
    refine hR _ ?_
    refine x_seq fun R hR => ?_
    walk_at "dr"
    refine hR _ ?_
    refine x_seq fun R hR => ?_
    walk_at "dr"
    refine hR _ ?_
    refine x_seq fun R hR => ?_
    walk_at "dr"
    refine hR _ ?_
    refine x_seq fun R hR => ?_
    have key : R [some (.val (.tup [.str (Str.ofString "def"), .str f, .str x, .str m, a.toD, b.toD])), some (.val (.int l)), some (.val (envD e)), some (.val (.bl fr)), some (.val (.str (Str.ofString "def"))), none, none] := by
      refine hR _ ?_
      refine x_seq fun R hR => ?_
      walk_at "dr"
      refine ⟨e, x, l, [m], rfl, by omega, ?_⟩
      walk_at "dr"
      refine kindAt_i (by omega) hl (by omega) h1 ?_
      walk_at "dr"
      refine hR _ ?_
      walk_at "dr"
      refine ⟨e, f, l, [m, k1], rfl, by omega, ?_⟩
      walk_at "dr"
      refine kindAt_i (by omega) hl (by omega) hk ?_
      walk_at "dr"
      exact hq
    clear hR
    rcases hl with rfl | rfl
    · walk_at "dr"
      rw [if_neg (by decide)]
      exact key
    · obtain rfl : m = sNum := Classical.byContradiction fun z => hlm ⟨rfl, z⟩
      walk_at "dr"
      refine ⟨sNum, rfl, ?_⟩
      walk_at "dr"
      exact key
end
end Qh

namespace Qh
open PySem PySem.Spec PyProof.Rows L2 Dq
local macro_rules | `(tactic| walk_at "dq") => `(tactic| (simp only [dSeq, dNext, dSet, dRet, dDrop, dIfS, dTest, dOp, dVar, dC, dNil, dCons, dConsS, dTup, dLst, dF, dCB, dAnd, dOr, dNot, dAndV, dOrV, dNotV, dIf, dUn, dSl, dNo, dPart, dCall, dSetF, fLst, fLc, dSrc, dForR, dRetOwn, dPutIx, dIxOwn, dApp, dLenOwn, dInOwn, dJoinOwn, dJoin, dIsi, dRng1,
  onVal, onVals, onBl, onInt, onMut, onOwn, onSome_s, onArgs, refs, putS, outs, dst0, okSet, Sl.mut, Sl.toD, Sl.isObj, D.items, fIx, fEq, fNe, fNeg, okEq_str, okEq_int, deq_refl, deq_int, atI0, atI1, atI2, atI3, atI4, atI5, atI_q, fSl1, gList, gTpl, gLen, gInt, gSum, dMaxD, fI, fI0, fAdd, gN, gMax2, gMin2, gStr, D.is_int, D.is_bool, D.is_str, D.is_tuple, D.is_list,
  List.map_cons, List.map_nil, List.length_cons, List.length_nil, List.cons_append, List.nil_append, List.getElem?_cons_zero, List.getElem?_cons_succ, List.set_cons_zero, List.set_cons_succ, List.replicate, Nat.reduceAdd, Nat.reduceSub, Nat.zero_add, Nat.sub_zero, ite_dec,
  if_true, if_false, Bool.false_eq_true, true_and, and_true, decide_true, List.nodup_nil, List.getElem?_nil, Nat.reduceLeDiff, Nat.add_eq, Nat.add_zero, reduceIte, List.Nodup, List.pairwise_cons, List.not_mem_nil, false_implies, implies_true, List.Pairwise.nil, w_num_name, w_num_sum, w_num_product, w_num_less, w_num_when, w_num_let, w_num_turns, w_num_def, w_num_use, w_num_quote, w_num_hole, w_num_lift, w_num_run, w_num_number, w_num_piece, w_num_kept, w_name_num, w_name_sum, w_name_product, w_name_less, w_name_when, w_name_let, w_name_turns, w_name_def, w_name_use, w_name_quote, w_name_hole, w_name_lift, w_name_run, w_name_number, w_name_piece, w_name_kept, w_sum_num, w_sum_name, w_sum_product, w_sum_less, w_sum_when, w_sum_let, w_sum_turns, w_sum_def, w_sum_use, w_sum_quote, w_sum_hole, w_sum_lift, w_sum_run, w_sum_number, w_sum_piece, w_sum_kept, w_product_num, w_product_name, w_product_sum, w_product_less, w_product_when, w_product_let, w_product_turns, w_product_def, w_product_use, w_product_quote, w_product_hole, w_product_lift, w_product_run, w_product_number, w_product_piece, w_product_kept, w_less_num, w_less_name, w_less_sum, w_less_product, w_less_when, w_less_let, w_less_turns, w_less_def, w_less_use, w_less_quote, w_less_hole, w_less_lift, w_less_run, w_less_number, w_less_piece, w_less_kept, w_when_num, w_when_name, w_when_sum, w_when_product, w_when_less, w_when_let, w_when_turns, w_when_def, w_when_use, w_when_quote, w_when_hole, w_when_lift, w_when_run, w_when_number, w_when_piece, w_when_kept, w_let_num, w_let_name, w_let_sum, w_let_product, w_let_less, w_let_when, w_let_turns, w_let_def, w_let_use, w_let_quote, w_let_hole, w_let_lift, w_let_run, w_let_number, w_let_piece, w_let_kept, w_turns_num, w_turns_name, w_turns_sum, w_turns_product, w_turns_less, w_turns_when, w_turns_let, w_turns_def, w_turns_use, w_turns_quote, w_turns_hole, w_turns_lift, w_turns_run, w_turns_number, w_turns_piece, w_turns_kept, w_def_num, w_def_name, w_def_sum, w_def_product, w_def_less, w_def_when, w_def_let, w_def_turns, w_def_use, w_def_quote, w_def_hole, w_def_lift, w_def_run, w_def_number, w_def_piece, w_def_kept, w_use_num, w_use_name, w_use_sum, w_use_product, w_use_less, w_use_when, w_use_let, w_use_turns, w_use_def, w_use_quote, w_use_hole, w_use_lift, w_use_run, w_use_number, w_use_piece, w_use_kept, w_quote_num, w_quote_name, w_quote_sum, w_quote_product, w_quote_less, w_quote_when, w_quote_let, w_quote_turns, w_quote_def, w_quote_use, w_quote_hole, w_quote_lift, w_quote_run, w_quote_number, w_quote_piece, w_quote_kept, w_hole_num, w_hole_name, w_hole_sum, w_hole_product, w_hole_less, w_hole_when, w_hole_let, w_hole_turns, w_hole_def, w_hole_use, w_hole_quote, w_hole_lift, w_hole_run, w_hole_number, w_hole_piece, w_hole_kept, w_lift_num, w_lift_name, w_lift_sum, w_lift_product, w_lift_less, w_lift_when, w_lift_let, w_lift_turns, w_lift_def, w_lift_use, w_lift_quote, w_lift_hole, w_lift_run, w_lift_number, w_lift_piece, w_lift_kept, w_run_num, w_run_name, w_run_sum, w_run_product, w_run_less, w_run_when, w_run_let, w_run_turns, w_run_def, w_run_use, w_run_quote, w_run_hole, w_run_lift, w_run_number, w_run_piece, w_run_kept, w_number_num, w_number_name, w_number_sum, w_number_product, w_number_less, w_number_when, w_number_let, w_number_turns, w_number_def, w_number_use, w_number_quote, w_number_hole, w_number_lift, w_number_run, w_number_piece, w_number_kept, w_piece_num, w_piece_name, w_piece_sum, w_piece_product, w_piece_less, w_piece_when, w_piece_let, w_piece_turns, w_piece_def, w_piece_use, w_piece_quote, w_piece_hole, w_piece_lift, w_piece_run, w_piece_number, w_piece_kept, w_kept_num, w_kept_name, w_kept_sum, w_kept_product, w_kept_less, w_kept_when, w_kept_let, w_kept_turns, w_kept_def, w_kept_use, w_kept_quote, w_kept_hole, w_kept_lift, w_kept_run, w_kept_number, w_kept_piece, fl_num, fl_name, fl_sum, fl_product, fl_less, fl_when, fl_let, fl_turns, fl_def, fl_use, fl_quote, fl_hole, fl_lift, fl_run, fl_number, fl_piece, fl_kept, fIn_T, fIn_Tn, inD_cons, inD_nil, ixN0, fl_i, List.all_cons, List.all_nil, Bool.and_true, Bool.and_self, Bool.or_false, Bool.false_or, Bool.true_or, Bool.or_true, Bool.not_true, Bool.not_false, dForZ, oVal, oNew, oNil, gLs, fDNew, fDCopy, dDGet, dDIn, onDic, dRetDic, dDPut, dNoX, dBad, dReSet, fAddOwn, fCall, D.noL, D.noLs, dOpOO, dOpEO, dOpOE, dIsiOwn, D.isSc, onStrs, dGet2, dctC, keyOf, gTs, gNs, dAsg, cut11, cut12, cut13, fSlC, dSelf, okM, dMethO, dChk, dMake, onObj, dFld, onFld, dPutFld, onObjS, lk_given, lk_value, lk_piece, lk_staged, lk_fresh, lk_with, putI_nil, putI_given, gStr, dRaise, dTryAs, dTryO, fSl_lo2, fSl_lo3, fSl_lo4, fSl_hi1, fSl_hi2, fSl_hi3]))
local macro_rules | `(tactic| walk_at "cm") => `(tactic| first | (unfold CMul; omega) | (unfold CDiv; omega) | (unfold CPow; omega) | decide | omega)
local macro_rules | `(tactic| walk_at "dr") => `(tactic| (simp only [dNext, dSet, dRet, dDrop, dIfS, dTest, dOp, dVar, dC, dNil, dCons, dConsS, dTup, dLst, dF, dCB, dAnd, dOr, dNot, dAndV, dOrV, dNotV, dIf, dUn, dSl, dNo, dPart, dCall, dSetF, fLst, fLc, dSrc, dForR, dRetOwn, dPutIx, dIxOwn, dApp, dLenOwn, dInOwn, dJoinOwn, dJoin, dIsi, dRng1,
  onVal, onVals, onBl, onInt, onMut, onOwn, onSome_s, onArgs, refs, putS, outs, dst0, okSet, Sl.mut, Sl.toD, Sl.isObj, D.items, fIx, fEq, fNe, fNeg, okEq_str, okEq_int, deq_refl, deq_int, atI0, atI1, atI2, atI3, atI4, atI5, atI_q, fSl1, gList, gTpl, gLen, gInt, gSum, dMaxD, fI, fI0, fAdd, gN, gMax2, gMin2, gStr, D.is_int, D.is_bool, D.is_str, D.is_tuple, D.is_list,
  List.map_cons, List.map_nil, List.length_cons, List.length_nil, List.cons_append, List.nil_append, List.getElem?_cons_zero, List.getElem?_cons_succ, List.set_cons_zero, List.set_cons_succ, List.replicate, Nat.reduceAdd, Nat.reduceSub, Nat.zero_add, Nat.sub_zero, ite_dec,
  if_true, if_false, Bool.false_eq_true, true_and, and_true, decide_true, List.nodup_nil, List.getElem?_nil, Nat.reduceLeDiff, Nat.add_eq, Nat.add_zero, reduceIte, List.Nodup, List.pairwise_cons, List.not_mem_nil, false_implies, implies_true, List.Pairwise.nil, w_num_name, w_num_sum, w_num_product, w_num_less, w_num_when, w_num_let, w_num_turns, w_num_def, w_num_use, w_num_quote, w_num_hole, w_num_lift, w_num_run, w_num_number, w_num_piece, w_num_kept, w_name_num, w_name_sum, w_name_product, w_name_less, w_name_when, w_name_let, w_name_turns, w_name_def, w_name_use, w_name_quote, w_name_hole, w_name_lift, w_name_run, w_name_number, w_name_piece, w_name_kept, w_sum_num, w_sum_name, w_sum_product, w_sum_less, w_sum_when, w_sum_let, w_sum_turns, w_sum_def, w_sum_use, w_sum_quote, w_sum_hole, w_sum_lift, w_sum_run, w_sum_number, w_sum_piece, w_sum_kept, w_product_num, w_product_name, w_product_sum, w_product_less, w_product_when, w_product_let, w_product_turns, w_product_def, w_product_use, w_product_quote, w_product_hole, w_product_lift, w_product_run, w_product_number, w_product_piece, w_product_kept, w_less_num, w_less_name, w_less_sum, w_less_product, w_less_when, w_less_let, w_less_turns, w_less_def, w_less_use, w_less_quote, w_less_hole, w_less_lift, w_less_run, w_less_number, w_less_piece, w_less_kept, w_when_num, w_when_name, w_when_sum, w_when_product, w_when_less, w_when_let, w_when_turns, w_when_def, w_when_use, w_when_quote, w_when_hole, w_when_lift, w_when_run, w_when_number, w_when_piece, w_when_kept, w_let_num, w_let_name, w_let_sum, w_let_product, w_let_less, w_let_when, w_let_turns, w_let_def, w_let_use, w_let_quote, w_let_hole, w_let_lift, w_let_run, w_let_number, w_let_piece, w_let_kept, w_turns_num, w_turns_name, w_turns_sum, w_turns_product, w_turns_less, w_turns_when, w_turns_let, w_turns_def, w_turns_use, w_turns_quote, w_turns_hole, w_turns_lift, w_turns_run, w_turns_number, w_turns_piece, w_turns_kept, w_def_num, w_def_name, w_def_sum, w_def_product, w_def_less, w_def_when, w_def_let, w_def_turns, w_def_use, w_def_quote, w_def_hole, w_def_lift, w_def_run, w_def_number, w_def_piece, w_def_kept, w_use_num, w_use_name, w_use_sum, w_use_product, w_use_less, w_use_when, w_use_let, w_use_turns, w_use_def, w_use_quote, w_use_hole, w_use_lift, w_use_run, w_use_number, w_use_piece, w_use_kept, w_quote_num, w_quote_name, w_quote_sum, w_quote_product, w_quote_less, w_quote_when, w_quote_let, w_quote_turns, w_quote_def, w_quote_use, w_quote_hole, w_quote_lift, w_quote_run, w_quote_number, w_quote_piece, w_quote_kept, w_hole_num, w_hole_name, w_hole_sum, w_hole_product, w_hole_less, w_hole_when, w_hole_let, w_hole_turns, w_hole_def, w_hole_use, w_hole_quote, w_hole_lift, w_hole_run, w_hole_number, w_hole_piece, w_hole_kept, w_lift_num, w_lift_name, w_lift_sum, w_lift_product, w_lift_less, w_lift_when, w_lift_let, w_lift_turns, w_lift_def, w_lift_use, w_lift_quote, w_lift_hole, w_lift_run, w_lift_number, w_lift_piece, w_lift_kept, w_run_num, w_run_name, w_run_sum, w_run_product, w_run_less, w_run_when, w_run_let, w_run_turns, w_run_def, w_run_use, w_run_quote, w_run_hole, w_run_lift, w_run_number, w_run_piece, w_run_kept, w_number_num, w_number_name, w_number_sum, w_number_product, w_number_less, w_number_when, w_number_let, w_number_turns, w_number_def, w_number_use, w_number_quote, w_number_hole, w_number_lift, w_number_run, w_number_piece, w_number_kept, w_piece_num, w_piece_name, w_piece_sum, w_piece_product, w_piece_less, w_piece_when, w_piece_let, w_piece_turns, w_piece_def, w_piece_use, w_piece_quote, w_piece_hole, w_piece_lift, w_piece_run, w_piece_number, w_piece_kept, w_kept_num, w_kept_name, w_kept_sum, w_kept_product, w_kept_less, w_kept_when, w_kept_let, w_kept_turns, w_kept_def, w_kept_use, w_kept_quote, w_kept_hole, w_kept_lift, w_kept_run, w_kept_number, w_kept_piece, fl_num, fl_name, fl_sum, fl_product, fl_less, fl_when, fl_let, fl_turns, fl_def, fl_use, fl_quote, fl_hole, fl_lift, fl_run, fl_number, fl_piece, fl_kept, fIn_T, fIn_Tn, inD_cons, inD_nil, ixN0, fl_i, List.all_cons, List.all_nil, Bool.and_true, Bool.and_self, Bool.or_false, Bool.false_or, Bool.true_or, Bool.or_true, Bool.not_true, Bool.not_false, dForZ, oVal, oNew, oNil, gLs, fDNew, fDCopy, dDGet, dDIn, onDic, dRetDic, dDPut, dNoX, dBad, dReSet, fAddOwn, fCall, D.noL, D.noLs, dOpOO, dOpEO, dOpOE, dIsiOwn, D.isSc, onStrs, dGet2, dctC, keyOf, gTs, gNs, dAsg, cut11, cut12, cut13, fSlC, dSelf, okM, dMethO, dChk, dMake, onObj, dFld, onFld, dPutFld, onObjS, lk_given, lk_value, lk_piece, lk_staged, lk_fresh, lk_with, putI_nil, putI_given, gStr, dRaise, dTryAs, dTryO, fSl_lo2, fSl_lo3, fSl_lo4, fSl_hi1, fSl_hi2, fSl_hi3]))
section
variable {P : Program} {w : World} {K : PySem.W.Frag} {mg : Str → Option Value} {base : Heap}
def spKindOf : DSp := fun ss E Q => ∃ (t : Tm) (k : Str), ss = [.val t.toD] ∧ t.depth ≤ 60 ∧ kindT t 0 (fun _ => none) true = some k ∧ Q (.str k) ss
theorem ok_kindN (g : G K mg) : ∀ n : Nat, Dq.FnR P w K mg base (2 * n + 2) g.a_kind_at g.d_kind_at ["term", "level", "names", "free"] (liftSp K (spKindAt n))
  | 0 => FnR.void (by rintro vs H Q E ⟨ss, Ed, Mx, Qd, _, _, ⟨t, _, _, _, _, _, _, h, _⟩, _⟩; have := t.depth_pos; omega)
  | n + 1 => ok_kind_at g (ok_kindN g n) (ok_kind_of_binder g (ok_bound g) (ok_kindN g n) (ok_meaning g) (ok_wanted g)) (ok_kind_of_staged g (ok_kindN g n) (ok_wanted g)) (ok_meaning g) (ok_wanted g)
theorem ok_kind_of (g : G K mg)
    (h_kind_at : FnR P w K mg base (122) g.a_kind_at g.d_kind_at ["term", "level", "names", "free"] (liftSp K (spKindAt 60)))
    : FnR P w K mg base (122 + 1) g.a_kind_of g.d_kind_of ["term"] (liftSp K (spKindOf)) := by
  refine okD g.p_kind_of.F sc_kind_of (by rintro ss E Q ⟨t, k, rfl, _⟩; rfl) fun cdv A outer s H E hr => ⟨_, _, (pss_one (ps_ret (pe_callR h_kind_at (hr.mono (by omega)) rfl g.p_kind_at.g g.p_kind_at.F.kp g.p_kind_at.b passE (pa_cons (pv 0) (pa_cons pe_int (pa_cons pe_dnewK (pa_cons pe_bl pa_nil))))))), (ss_ret (se_call (sa_cons se_var (sa_cons se_int (sa_cons (se_f sf_dnew) (sa_cons se_bl sa_nil)))))), ?_⟩
  rintro ss Ed Q ⟨t, k, rfl, hd, hk, hq⟩
  walk_at "dr"
  refine ⟨t, 0, [], true, k, rfl, trivial, hd, .inl rfl, by simp; omega, hk, ?_⟩
  walk_at "dr"
  exact hq

end
end Qh

namespace Qh
open PySem PySem.Spec PyProof.Rows L2 Dq
local macro_rules | `(tactic| walk_at "dq") => `(tactic| (simp only [dSeq, dNext, dSet, dRet, dDrop, dIfS, dTest, dOp, dVar, dC, dNil, dCons, dConsS, dTup, dLst, dF, dCB, dAnd, dOr, dNot, dAndV, dOrV, dNotV, dIf, dUn, dSl, dNo, dPart, dCall, dSetF, fLst, fLc, dSrc, dForR, dRetOwn, dPutIx, dIxOwn, dApp, dLenOwn, dInOwn, dJoinOwn, dJoin, dIsi, dRng1,
  onVal, onVals, onBl, onInt, onMut, onOwn, onSome_s, onArgs, refs, putS, outs, dst0, okSet, Sl.mut, Sl.toD, Sl.isObj, D.items, fIx, fEq, fNe, fNeg, okEq_str, okEq_int, deq_refl, deq_int, atI0, atI1, atI2, atI3, atI4, atI5, atI_q, fSl1, gList, gTpl, gLen, gInt, gSum, dMaxD, fI, fI0, fAdd, gN, gMax2, gMin2, gStr, D.is_int, D.is_bool, D.is_str, D.is_tuple, D.is_list,
  List.map_cons, List.map_nil, List.length_cons, List.length_nil, List.cons_append, List.nil_append, List.getElem?_cons_zero, List.getElem?_cons_succ, List.set_cons_zero, List.set_cons_succ, List.replicate, Nat.reduceAdd, Nat.reduceSub, Nat.zero_add, Nat.sub_zero, ite_dec,
  if_true, if_false, Bool.false_eq_true, true_and, and_true, decide_true, List.nodup_nil, List.getElem?_nil, Nat.reduceLeDiff, Nat.add_eq, Nat.add_zero, reduceIte, List.Nodup, List.pairwise_cons, List.not_mem_nil, false_implies, implies_true, List.Pairwise.nil, w_num_name, w_num_sum, w_num_product, w_num_less, w_num_when, w_num_let, w_num_turns, w_num_def, w_num_use, w_num_quote, w_num_hole, w_num_lift, w_num_run, w_num_number, w_num_piece, w_num_kept, w_name_num, w_name_sum, w_name_product, w_name_less, w_name_when, w_name_let, w_name_turns, w_name_def, w_name_use, w_name_quote, w_name_hole, w_name_lift, w_name_run, w_name_number, w_name_piece, w_name_kept, w_sum_num, w_sum_name, w_sum_product, w_sum_less, w_sum_when, w_sum_let, w_sum_turns, w_sum_def, w_sum_use, w_sum_quote, w_sum_hole, w_sum_lift, w_sum_run, w_sum_number, w_sum_piece, w_sum_kept, w_product_num, w_product_name, w_product_sum, w_product_less, w_product_when, w_product_let, w_product_turns, w_product_def, w_product_use, w_product_quote, w_product_hole, w_product_lift, w_product_run, w_product_number, w_product_piece, w_product_kept, w_less_num, w_less_name, w_less_sum, w_less_product, w_less_when, w_less_let, w_less_turns, w_less_def, w_less_use, w_less_quote, w_less_hole, w_less_lift, w_less_run, w_less_number, w_less_piece, w_less_kept, w_when_num, w_when_name, w_when_sum, w_when_product, w_when_less, w_when_let, w_when_turns, w_when_def, w_when_use, w_when_quote, w_when_hole, w_when_lift, w_when_run, w_when_number, w_when_piece, w_when_kept, w_let_num, w_let_name, w_let_sum, w_let_product, w_let_less, w_let_when, w_let_turns, w_let_def, w_let_use, w_let_quote, w_let_hole, w_let_lift, w_let_run, w_let_number, w_let_piece, w_let_kept, w_turns_num, w_turns_name, w_turns_sum, w_turns_product, w_turns_less, w_turns_when, w_turns_let, w_turns_def, w_turns_use, w_turns_quote, w_turns_hole, w_turns_lift, w_turns_run, w_turns_number, w_turns_piece, w_turns_kept, w_def_num, w_def_name, w_def_sum, w_def_product, w_def_less, w_def_when, w_def_let, w_def_turns, w_def_use, w_def_quote, w_def_hole, w_def_lift, w_def_run, w_def_number, w_def_piece, w_def_kept, w_use_num, w_use_name, w_use_sum, w_use_product, w_use_less, w_use_when, w_use_let, w_use_turns, w_use_def, w_use_quote, w_use_hole, w_use_lift, w_use_run, w_use_number, w_use_piece, w_use_kept, w_quote_num, w_quote_name, w_quote_sum, w_quote_product, w_quote_less, w_quote_when, w_quote_let, w_quote_turns, w_quote_def, w_quote_use, w_quote_hole, w_quote_lift, w_quote_run, w_quote_number, w_quote_piece, w_quote_kept, w_hole_num, w_hole_name, w_hole_sum, w_hole_product, w_hole_less, w_hole_when, w_hole_let, w_hole_turns, w_hole_def, w_hole_use, w_hole_quote, w_hole_lift, w_hole_run, w_hole_number, w_hole_piece, w_hole_kept, w_lift_num, w_lift_name, w_lift_sum, w_lift_product, w_lift_less, w_lift_when, w_lift_let, w_lift_turns, w_lift_def, w_lift_use, w_lift_quote, w_lift_hole, w_lift_run, w_lift_number, w_lift_piece, w_lift_kept, w_run_num, w_run_name, w_run_sum, w_run_product, w_run_less, w_run_when, w_run_let, w_run_turns, w_run_def, w_run_use, w_run_quote, w_run_hole, w_run_lift, w_run_number, w_run_piece, w_run_kept, w_number_num, w_number_name, w_number_sum, w_number_product, w_number_less, w_number_when, w_number_let, w_number_turns, w_number_def, w_number_use, w_number_quote, w_number_hole, w_number_lift, w_number_run, w_number_piece, w_number_kept, w_piece_num, w_piece_name, w_piece_sum, w_piece_product, w_piece_less, w_piece_when, w_piece_let, w_piece_turns, w_piece_def, w_piece_use, w_piece_quote, w_piece_hole, w_piece_lift, w_piece_run, w_piece_number, w_piece_kept, w_kept_num, w_kept_name, w_kept_sum, w_kept_product, w_kept_less, w_kept_when, w_kept_let, w_kept_turns, w_kept_def, w_kept_use, w_kept_quote, w_kept_hole, w_kept_lift, w_kept_run, w_kept_number, w_kept_piece, fl_num, fl_name, fl_sum, fl_product, fl_less, fl_when, fl_let, fl_turns, fl_def, fl_use, fl_quote, fl_hole, fl_lift, fl_run, fl_number, fl_piece, fl_kept, fIn_T, fIn_Tn, inD_cons, inD_nil, ixN0, fl_i, List.all_cons, List.all_nil, Bool.and_true, Bool.and_self, Bool.or_false, Bool.false_or, Bool.true_or, Bool.or_true, Bool.not_true, Bool.not_false, dForZ, oVal, oNew, oNil, gLs, fDNew, fDCopy, dDGet, dDIn, onDic, dRetDic, dDPut, dNoX, dBad, dReSet, fAddOwn, fCall, D.noL, D.noLs, dOpOO, dOpEO, dOpOE, dIsiOwn, D.isSc, onStrs, dGet2, dctC, keyOf, gTs, gNs, dAsg, cut11, cut12, cut13, fSlC, dSelf, okM, dMethO, dChk, dMake, onObj, dFld, onFld, dPutFld, onObjS, lk_given, lk_value, lk_piece, lk_staged, lk_fresh, lk_with, putI_nil, putI_given, gStr, dRaise, dTryAs, dTryO, fSl_lo2, fSl_lo3, fSl_lo4, fSl_hi1, fSl_hi2, fSl_hi3]))
local macro_rules | `(tactic| walk_at "cm") => `(tactic| first | (unfold CMul; omega) | (unfold CDiv; omega) | (unfold CPow; omega) | decide | omega)
local macro_rules | `(tactic| walk_at "dr") => `(tactic| (simp only [dNext, dSet, dRet, dDrop, dIfS, dTest, dOp, dVar, dC, dNil, dCons, dConsS, dTup, dLst, dF, dCB, dAnd, dOr, dNot, dAndV, dOrV, dNotV, dIf, dUn, dSl, dNo, dPart, dCall, dSetF, fLst, fLc, dSrc, dForR, dRetOwn, dPutIx, dIxOwn, dApp, dLenOwn, dInOwn, dJoinOwn, dJoin, dIsi, dRng1,
  onVal, onVals, onBl, onInt, onMut, onOwn, onSome_s, onArgs, refs, putS, outs, dst0, okSet, Sl.mut, Sl.toD, Sl.isObj, D.items, fIx, fEq, fNe, fNeg, okEq_str, okEq_int, deq_refl, deq_int, atI0, atI1, atI2, atI3, atI4, atI5, atI_q, fSl1, gList, gTpl, gLen, gInt, gSum, dMaxD, fI, fI0, fAdd, gN, gMax2, gMin2, gStr, D.is_int, D.is_bool, D.is_str, D.is_tuple, D.is_list,
  List.map_cons, List.map_nil, List.length_cons, List.length_nil, List.cons_append, List.nil_append, List.getElem?_cons_zero, List.getElem?_cons_succ, List.set_cons_zero, List.set_cons_succ, List.replicate, Nat.reduceAdd, Nat.reduceSub, Nat.zero_add, Nat.sub_zero, ite_dec,
  if_true, if_false, Bool.false_eq_true, true_and, and_true, decide_true, List.nodup_nil, List.getElem?_nil, Nat.reduceLeDiff, Nat.add_eq, Nat.add_zero, reduceIte, List.Nodup, List.pairwise_cons, List.not_mem_nil, false_implies, implies_true, List.Pairwise.nil, w_num_name, w_num_sum, w_num_product, w_num_less, w_num_when, w_num_let, w_num_turns, w_num_def, w_num_use, w_num_quote, w_num_hole, w_num_lift, w_num_run, w_num_number, w_num_piece, w_num_kept, w_name_num, w_name_sum, w_name_product, w_name_less, w_name_when, w_name_let, w_name_turns, w_name_def, w_name_use, w_name_quote, w_name_hole, w_name_lift, w_name_run, w_name_number, w_name_piece, w_name_kept, w_sum_num, w_sum_name, w_sum_product, w_sum_less, w_sum_when, w_sum_let, w_sum_turns, w_sum_def, w_sum_use, w_sum_quote, w_sum_hole, w_sum_lift, w_sum_run, w_sum_number, w_sum_piece, w_sum_kept, w_product_num, w_product_name, w_product_sum, w_product_less, w_product_when, w_product_let, w_product_turns, w_product_def, w_product_use, w_product_quote, w_product_hole, w_product_lift, w_product_run, w_product_number, w_product_piece, w_product_kept, w_less_num, w_less_name, w_less_sum, w_less_product, w_less_when, w_less_let, w_less_turns, w_less_def, w_less_use, w_less_quote, w_less_hole, w_less_lift, w_less_run, w_less_number, w_less_piece, w_less_kept, w_when_num, w_when_name, w_when_sum, w_when_product, w_when_less, w_when_let, w_when_turns, w_when_def, w_when_use, w_when_quote, w_when_hole, w_when_lift, w_when_run, w_when_number, w_when_piece, w_when_kept, w_let_num, w_let_name, w_let_sum, w_let_product, w_let_less, w_let_when, w_let_turns, w_let_def, w_let_use, w_let_quote, w_let_hole, w_let_lift, w_let_run, w_let_number, w_let_piece, w_let_kept, w_turns_num, w_turns_name, w_turns_sum, w_turns_product, w_turns_less, w_turns_when, w_turns_let, w_turns_def, w_turns_use, w_turns_quote, w_turns_hole, w_turns_lift, w_turns_run, w_turns_number, w_turns_piece, w_turns_kept, w_def_num, w_def_name, w_def_sum, w_def_product, w_def_less, w_def_when, w_def_let, w_def_turns, w_def_use, w_def_quote, w_def_hole, w_def_lift, w_def_run, w_def_number, w_def_piece, w_def_kept, w_use_num, w_use_name, w_use_sum, w_use_product, w_use_less, w_use_when, w_use_let, w_use_turns, w_use_def, w_use_quote, w_use_hole, w_use_lift, w_use_run, w_use_number, w_use_piece, w_use_kept, w_quote_num, w_quote_name, w_quote_sum, w_quote_product, w_quote_less, w_quote_when, w_quote_let, w_quote_turns, w_quote_def, w_quote_use, w_quote_hole, w_quote_lift, w_quote_run, w_quote_number, w_quote_piece, w_quote_kept, w_hole_num, w_hole_name, w_hole_sum, w_hole_product, w_hole_less, w_hole_when, w_hole_let, w_hole_turns, w_hole_def, w_hole_use, w_hole_quote, w_hole_lift, w_hole_run, w_hole_number, w_hole_piece, w_hole_kept, w_lift_num, w_lift_name, w_lift_sum, w_lift_product, w_lift_less, w_lift_when, w_lift_let, w_lift_turns, w_lift_def, w_lift_use, w_lift_quote, w_lift_hole, w_lift_run, w_lift_number, w_lift_piece, w_lift_kept, w_run_num, w_run_name, w_run_sum, w_run_product, w_run_less, w_run_when, w_run_let, w_run_turns, w_run_def, w_run_use, w_run_quote, w_run_hole, w_run_lift, w_run_number, w_run_piece, w_run_kept, w_number_num, w_number_name, w_number_sum, w_number_product, w_number_less, w_number_when, w_number_let, w_number_turns, w_number_def, w_number_use, w_number_quote, w_number_hole, w_number_lift, w_number_run, w_number_piece, w_number_kept, w_piece_num, w_piece_name, w_piece_sum, w_piece_product, w_piece_less, w_piece_when, w_piece_let, w_piece_turns, w_piece_def, w_piece_use, w_piece_quote, w_piece_hole, w_piece_lift, w_piece_run, w_piece_number, w_piece_kept, w_kept_num, w_kept_name, w_kept_sum, w_kept_product, w_kept_less, w_kept_when, w_kept_let, w_kept_turns, w_kept_def, w_kept_use, w_kept_quote, w_kept_hole, w_kept_lift, w_kept_run, w_kept_number, w_kept_piece, fl_num, fl_name, fl_sum, fl_product, fl_less, fl_when, fl_let, fl_turns, fl_def, fl_use, fl_quote, fl_hole, fl_lift, fl_run, fl_number, fl_piece, fl_kept, fIn_T, fIn_Tn, inD_cons, inD_nil, ixN0, fl_i, List.all_cons, List.all_nil, Bool.and_true, Bool.and_self, Bool.or_false, Bool.false_or, Bool.true_or, Bool.or_true, Bool.not_true, Bool.not_false, dForZ, oVal, oNew, oNil, gLs, fDNew, fDCopy, dDGet, dDIn, onDic, dRetDic, dDPut, dNoX, dBad, dReSet, fAddOwn, fCall, D.noL, D.noLs, dOpOO, dOpEO, dOpOE, dIsiOwn, D.isSc, onStrs, dGet2, dctC, keyOf, gTs, gNs, dAsg, cut11, cut12, cut13, fSlC, dSelf, okM, dMethO, dChk, dMake, onObj, dFld, onFld, dPutFld, onObjS, lk_given, lk_value, lk_piece, lk_staged, lk_fresh, lk_with, putI_nil, putI_given, gStr, dRaise, dTryAs, dTryO, fSl_lo2, fSl_lo3, fSl_lo4, fSl_hi1, fSl_hi2, fSl_hi3]))
section
variable {P : Program} {w : World} {K : PySem.W.Frag} {mg : Str → Option Value} {base : Heap}
def objM (C : Addr) (k : Nat) : Sl := .obj C [(Str.ofString "given", (k : Int))]
abbrev vD (v : Vl) : D := Vl.rp D.tup v
abbrev eD (ρ : VE) : D := envG (Vl.rp D.tup) ρ
def spInit (C : Addr) : DSp := fun ss E Q => ss = [.obj C []] ∧ Q .non [.obj C [(Str.ofString "given", 0)]]
def spFresh (C : Addr) : DSp := fun ss E Q => ∃ k : Nat, ss = [.obj C [(Str.ofString "given", (k : Int))]] ∧ k ≤ 1000000 ∧ Q (.str (vN (k + 1))) [.obj C [(Str.ofString "given", ((k + 1 : Nat) : Int))]]
def spWith (C : Addr) : DSp := fun ss E Q => ∃ (k : Nat) (ρ : VE) (x : Str) (v : Vl), ss = [.obj C [(Str.ofString "given", (k : Int))], .val (eD ρ), .val (.str x), .val (vD v)] ∧ ρ.length ≤ 1000 ∧ Q (eD (putG ρ x v)) ss
def spJoin : DSp := fun ss E Q => ∃ (w : Str) (i j : Int), ss = [.val (.str w), .val (.int i), .val (.int j)] ∧ (w = Str.ofString "sum" ∨ w = Str.ofString "product" ∨ w = Str.ofString "less") ∧ (0 ≤ i ∧ i < 1000003) ∧ (0 ≤ j ∧ j < 1000003) ∧ Q (.int (if w = Str.ofString "sum" then (i + j) % 1000003 else if w = Str.ofString "product" then i * j % 1000003 else b2i (decide (i < j)))) ss
def spVal (C : Addr) (f : Nat) : DSp := fun ss E Q => ∃ (t : Tm) (ρ : VE) (k : Nat) (v : Vl) (k2 : Nat), ss = [.obj C [(Str.ofString "given", (k : Int))], .val t.toD, .val (eD ρ)] ∧ evV f t ρ k = some (some (v, k2)) ∧ Q (vD v) [.obj C [(Str.ofString "given", (k2 : Int))], .val t.toD, .val (eD ρ)]
def isSt : Tm → Bool
  | .quote _ => true | .lift _ => true | .run _ => true
  | _ => false
def spStg (C : Addr) (f : Nat) : DSp := fun ss E Q => ∃ (t : Tm) (ρ : VE) (k : Nat) (v : Vl) (k2 : Nat), ss = [.obj C [(Str.ofString "given", (k : Int))], .val t.toD, .val (eD ρ)] ∧ isSt t = true ∧ evV (f + 1) t ρ k = some (some (v, k2)) ∧ Q (vD v) [.obj C [(Str.ofString "given", (k2 : Int))], .val t.toD, .val (eD ρ)]
def spPce (C : Addr) (f : Nat) : DSp := fun ss E Q => ∃ (t : Tm) (ρ : VE) (k : Nat) (p : Tm) (k2 : Nat), ss = [.obj C [(Str.ofString "given", (k : Int))], .val t.toD, .val (eD ρ)] ∧ evP f t ρ k = some (some (p, k2)) ∧ Q p.toD [.obj C [(Str.ofString "given", (k2 : Int))], .val t.toD, .val (eD ρ)]
def spSize (n : Nat) : DSp := fun ss E Q => ∃ t : Tm, ss = [.val t.toD] ∧ t.depth ≤ n ∧ Q (.int t.size) ss
def spDepth (n : Nat) : DSp := fun ss E Q => ∃ t : Tm, ss = [.val t.toD] ∧ t.depth ≤ n ∧ Q (.int t.depth) ss
theorem ok_Maker___init__ (g : G K mg)
    : FnR P w K mg base (0 + 1) g.a_Maker___init__ g.d_Maker___init__ ["self"] (liftSp K (spInit g.C_Maker)) := by
  refine okD g.p_Maker___init__.F sc_Maker___init__ (by rintro ss E Q ⟨rfl, _⟩; rfl) fun cdv A outer s H E hr => ⟨_, _, (pss_one (ps_fld (pv 0) pe_int rfl)), (ss_fld g.cl_Maker g.na_Maker_given se_int), ?_⟩
  rintro ss Ed Q ⟨rfl, hq⟩
  walk_at "dr"
  exact ⟨by decide, hq⟩
theorem ok_Maker_fresh (g : G K mg)
    : FnR P w K mg base (0 + 1) g.a_Maker_fresh g.d_Maker_fresh ["self"] (liftSp K (spFresh g.C_Maker)) := by
  refine okD g.p_Maker_fresh.F sc_Maker_fresh (by rintro ss E Q ⟨k, rfl, _⟩; rfl) fun cdv A outer s H E hr => ⟨_, _, (pss_cons (ps_fld (pv 0) (pe_op opAdd (pe_fld (pv 0) rfl) pe_int) rfl) (pss_one (ps_ret (pe_op opAdd pe_str (pe_callTy crStr rfl g.b_str (by decide +kernel) (pa_cons (pe_fld (pv 0) rfl) pa_nil)))))), (ss_seq (ss_fld g.cl_Maker g.na_Maker_given (se_op sAdd (se_fld g.cl_Maker g.na_Maker_given) se_int)) (ss_ret (se_op sAdd se_str (se_cb cStr (sa_cons (se_fld g.cl_Maker g.na_Maker_given) sa_nil))))), ?_⟩
  rintro ss Ed Q ⟨k, rfl, hk, hq⟩
  refine x_seq fun R hR => ?_
  walk_at "dr"
  refine ⟨by decide, ?_⟩
  rw [show (k : Int) + 1 = ((k + 1 : Nat) : Int) by omega]
  refine hR _ ?_
  walk_at "dr"
  refine ⟨?_, ?_, hq⟩
  · have h : ((k + 1 : Nat) : Int).natAbs = k + 1 := by omega
    rw [h]
    exact Nat.lt_of_lt_of_le (Nat.log2_lt (by omega) |>.mpr (show k + 1 < 2 ^ 20 by omega)) (by decide)
  · have h := toString_length_le (v := ((k + 1 : Nat) : Int)) (by omega) (k := 8) (by decide) (by omega)
    have h2 : (Str.ofString "v").length = 1 := by decide
    exact Nat.le_trans (show _ ≤ 9 by omega) (by decide)
theorem ok_Maker_with_name (g : G K mg)
    : FnR P w K mg base (0 + 1) g.a_Maker_with_name g.d_Maker_with_name ["self", "names", "name", "value"] (liftSp K (spWith g.C_Maker)) := by
  refine okD g.p_Maker_with_name.F sc_Maker_with_name (by rintro ss E Q ⟨k, ρ, x, v, rfl, _⟩; rfl) fun cdv A outer s H E hr => ⟨_, _, (pss_cons (ps_set (i := 4) sc_Maker_with_name.nd rfl (by first | exact Or.inl rfl | exact Or.inr rfl) (pe_callTy crDCopy rfl g.b_dict (by decide +kernel) (pa_cons (pv 1) pa_nil))) (pss_cons (ps_dput hr.un1 (pv 4) (pv 2) (pv 3) rfl) (pss_one (ps_ret (pv 4))))), (ss_seq (ss_setF (sf_dcopy se_var)) (ss_seq (ss_dput se_var se_var) ss_retDic)), ?_⟩
  rintro ss Ed Q ⟨k, ρ, x, v, rfl, hl, hq⟩
  rw [eD, ← put_G] at hq
  refine x_seq fun R hR => ?_
  simp only [eD, envG] at hq ⊢
  walk_at "dr"
  refine hR _ ?_
  refine x_seq fun R hR => ?_
  walk_at "dr"
  refine ⟨by rw [List.length_map]; omega, ?_⟩
  refine hR _ ?_
  walk_at "dr"
  exact hq
theorem ok_joined (g : G K mg)
    : FnR P w K mg base (0 + 1) g.a_joined g.d_joined ["word", "left", "right"] (liftSp K (spJoin)) := by
  refine okD g.p_joined.F sc_joined (by rintro ss E Q ⟨w, i, j, rfl, _⟩; rfl) fun cdv A outer s H E hr => ⟨_, _, (pss_cons (ps_if (pt_cmpR (opEq hr.un64) (pv 0) pe_str (nomark _)) (pss_one (ps_ret (pe_op op_mod (pe_op opAdd (pv 1) (pv 2)) (pe_glob (v := .int 1000003) rfl g.c_MODULUS ⟨_, rfl⟩)))) pss_nil) (pss_cons (ps_if (pt_cmpR (opEq hr.un64) (pv 0) pe_str (nomark _)) (pss_one (ps_ret (pe_op op_mod (pe_op op_mul (pv 1) (pv 2)) (pe_glob (v := .int 1000003) rfl g.c_MODULUS ⟨_, rfl⟩)))) pss_nil) (pss_one (ps_ret (pe_callTy crInt rfl g.b_int (by decide +kernel) (pa_cons (pe_cmpR op_lt (pv 1) (pv 2) (nomark _)) pa_nil)))))), (ss_seq (ss_if (st_test (se_op sEq se_var se_str)) (ss_ret (se_op sMod (se_op sAdd se_var se_var) se_int)) ss_next) (ss_seq (ss_if (st_test (se_op sEq se_var se_str)) (ss_ret (se_op sMod (se_op sMul se_var se_var) se_int)) ss_next) (ss_ret (se_cb cInt (sa_cons (se_op sLt se_var se_var) sa_nil))))), ?_⟩
  rintro ss Ed Q ⟨w, i, j, rfl, hw, hi, hj, hq⟩
  rcases hw with rfl | rfl | rfl
  · rw [if_pos rfl] at hq
    refine x_seq fun R hR => ?_
    walk_at "dr"
    exact ⟨by walk_at "cm", hq⟩
  · rw [if_neg (by decide +kernel), if_pos rfl] at hq
    refine x_seq fun R hR => ?_
    walk_at "dr"
    refine hR _ ?_
    refine x_seq fun R hR => ?_
    walk_at "dr"
    exact ⟨by walk_at "cm", by walk_at "cm", hq⟩
  · rw [if_neg (by decide +kernel), if_neg (by decide +kernel)] at hq
    refine x_seq fun R hR => ?_
    walk_at "dr"
    refine hR _ ?_
    refine x_seq fun R hR => ?_
    walk_at "dr"
    refine hR _ ?_
    walk_at "dr"
    exact hq
def spValE (C T : Addr) (f : Nat) : DSp := fun ss E Q => ∃ (t : Tm) (ρ : VE) (k : Nat), ss = [.obj C [(Str.ofString "given", (k : Int))], .val t.toD, .val (eD ρ)] ∧ ((∃ (v : Vl) (k2 : Nat), evV f t ρ k = some (some (v, k2)) ∧ Q (vD v) [.obj C [(Str.ofString "given", (k2 : Int))], .val t.toD, .val (eD ρ)]) ∨ (evG f t ρ k ∧ E T))
def spStgE (C T : Addr) (f : Nat) : DSp := fun ss E Q => ∃ (t : Tm) (ρ : VE) (k : Nat), ss = [.obj C [(Str.ofString "given", (k : Int))], .val t.toD, .val (eD ρ)] ∧ isSt t = true ∧ ((∃ (v : Vl) (k2 : Nat), evV (f + 1) t ρ k = some (some (v, k2)) ∧ Q (vD v) [.obj C [(Str.ofString "given", (k2 : Int))], .val t.toD, .val (eD ρ)]) ∨ (evG (f + 1) t ρ k ∧ E T))
theorem ok_size_of {n : Nat} (g : G K mg)
    (h_parts_of : FnR P w K mg base (1) g.a_parts_of g.d_parts_of ["term"] (liftSp K (spParts)))
    (h_size_of : FnR P w K mg base (n + 1) g.a_size_of g.d_size_of ["term"] (liftSp K (spSize n)))
    : FnR P w K mg base (n + 1 + 1) g.a_size_of g.d_size_of ["term"] (liftSp K (spSize (n + 1))) := by
  refine okD g.p_size_of.F sc_size_of (by rintro ss E Q ⟨t, rfl, _, _⟩; rfl) fun cdv A outer s H E hr => ⟨_, _, (pss_one (ps_ret (pe_op opAdd pe_int (pe_callB (cr_sum rfl) rfl g.b_sum boot_sum (pa_cons (pe_lc (own := [("part", 1)]) (g := gName 1) (tt := _) rfl sc_size_of.nd (pi_any (pe_callR h_parts_of (hr.mono (by omega)) rfl g.p_parts_of.g g.p_parts_of.F.kp g.p_parts_of.b passE (pa_cons (pv 0) pa_nil))) (blkOk_by (own := [("part", 1)]) (N := N_size_of) (sc := defScope s_size_of) (by decide +kernel)) (fun _ _ _ _ _ => pg_name (i := 1) sc_size_of.nd rfl (Or.inl rfl)) (fun _ _ _ _ _ => pts_nil) (fun _ _ _ _ _ => (pe_callR h_size_of (hr.mono (by omega)) rfl g.p_size_of.g g.p_size_of.F.kp g.p_size_of.b passL (pa_cons (pv 1) pa_nil)))) pa_nil))))), (ss_ret (se_op sAdd se_int (se_cb cSum (sa_cons (se_f (sf_lc (si_any (se_call (sa_cons se_var sa_nil))) st_yes (se_call (sa_cons se_var sa_nil)))) sa_nil)))), ?_⟩
  rintro ss Ed Q ⟨t, rfl, hd, hq⟩
  walk_at "dq"
  refine ⟨t, rfl, ?_⟩
  walk_at "dq"
  refine lcGo_map (ys := t.parts) Tm.toD (fun p => .int p.size) rfl (fun p hp Q q => ?_) (by cases t <;> simp [Tm.parts]) ?_
  · have := Tm.parts_depth hp
    walk_at "dq"
    exact ⟨p, rfl, by omega, q⟩
  · walk_at "dq"
    rw [onInts_map]
    rw [Tm.size_parts] at hq
    exact hq
theorem ok_depth_of {n : Nat} (g : G K mg)
    (h_depth_of : FnR P w K mg base (n + 1) g.a_depth_of g.d_depth_of ["term"] (liftSp K (spDepth n)))
    (h_parts_of : FnR P w K mg base (1) g.a_parts_of g.d_parts_of ["term"] (liftSp K (spParts)))
    : FnR P w K mg base (n + 1 + 1) g.a_depth_of g.d_depth_of ["term"] (liftSp K (spDepth (n + 1))) := by
  refine okD g.p_depth_of.F sc_depth_of (by rintro ss E Q ⟨t, rfl, _, _⟩; rfl) fun cdv A outer s H E hr => ⟨_, _, (pss_one (ps_ret (pe_op opAdd pe_int (pe_callBK (MaxD.cr_maxD rfl) rfl g.b_max boot_max (pa_cons (pe_lc (own := [("part", 1)]) (g := gName 1) (tt := _) rfl sc_depth_of.nd (pi_any (pe_callR h_parts_of (hr.mono (by omega)) rfl g.p_parts_of.g g.p_parts_of.F.kp g.p_parts_of.b passE (pa_cons (pv 0) pa_nil))) (blkOk_by (own := [("part", 1)]) (N := N_depth_of) (sc := defScope s_depth_of) (by decide +kernel)) (fun _ _ _ _ _ => pg_name (i := 1) sc_depth_of.nd rfl (Or.inl rfl)) (fun _ _ _ _ _ => pts_nil) (fun _ _ _ _ _ => (pe_callR h_depth_of (hr.mono (by omega)) rfl g.p_depth_of.g g.p_depth_of.F.kp g.p_depth_of.b passL (pa_cons (pv 1) pa_nil)))) pa_nil) (pk_cons pe_int pk_nil))))), (ss_ret (se_op sAdd se_int (se_maxD (se_f (sf_lc (si_any (se_call (sa_cons se_var sa_nil))) st_yes (se_call (sa_cons se_var sa_nil))))))), ?_⟩
  rintro ss Ed Q ⟨t, rfl, hd, hq⟩
  walk_at "dq"
  refine ⟨t, rfl, ?_⟩
  walk_at "dq"
  refine lcGo_map (ys := t.parts) Tm.toD (fun p => .int p.depth) rfl (fun p hp Q q => ?_) (by cases t <;> simp [Tm.parts]) ?_
  · have := Tm.parts_depth hp
    walk_at "dq"
    exact ⟨p, rfl, by omega, q⟩
  · walk_at "dq"
    rw [onInts_map]
    rw [Tm.depth_parts] at hq
    exact hq
theorem ok_sizeN (g : G K mg) : ∀ n : Nat, Dq.FnR P w K mg base (n + 1) g.a_size_of g.d_size_of ["term"] (liftSp K (spSize n))
  | 0 => FnR.void (by rintro vs H Q E ⟨ss, Ed, Mx, Qd, _, _, ⟨t, _, h, _⟩, _⟩; have := t.depth_pos; omega)
  | n + 1 => ok_size_of g (ok_parts_of g |>.mono (by omega)) (ok_sizeN g n)
theorem ok_depthN (g : G K mg) : ∀ n : Nat, Dq.FnR P w K mg base (n + 1) g.a_depth_of g.d_depth_of ["term"] (liftSp K (spDepth n))
  | 0 => FnR.void (by rintro vs H Q E ⟨ss, Ed, Mx, Qd, _, _, ⟨t, _, h, _⟩, _⟩; have := t.depth_pos; omega)
  | n + 1 => ok_depth_of g (ok_depthN g n) (ok_parts_of g |>.mono (by omega))
end
end Qh

namespace Qh
open PySem PySem.Spec PyProof.Rows L2 Dq
local macro_rules | `(tactic| walk_at "dq") => `(tactic| (simp only [dSeq, dNext, dSet, dRet, dDrop, dIfS, dTest, dOp, dVar, dC, dNil, dCons, dConsS, dTup, dLst, dF, dCB, dAnd, dOr, dNot, dAndV, dOrV, dNotV, dIf, dUn, dSl, dNo, dPart, dCall, dSetF, fLst, fLc, dSrc, dForR, dRetOwn, dPutIx, dIxOwn, dApp, dLenOwn, dInOwn, dJoinOwn, dJoin, dIsi, dRng1,
  onVal, onVals, onBl, onInt, onMut, onOwn, onSome_s, onArgs, refs, putS, outs, dst0, okSet, Sl.mut, Sl.toD, Sl.isObj, D.items, fIx, fEq, fNe, fNeg, okEq_str, okEq_int, deq_refl, deq_int, atI0, atI1, atI2, atI3, atI4, atI5, atI_q, fSl1, gList, gTpl, gLen, gInt, gSum, dMaxD, fI, fI0, fAdd, gN, gMax2, gMin2, gStr, D.is_int, D.is_bool, D.is_str, D.is_tuple, D.is_list,
  List.map_cons, List.map_nil, List.length_cons, List.length_nil, List.cons_append, List.nil_append, List.getElem?_cons_zero, List.getElem?_cons_succ, List.set_cons_zero, List.set_cons_succ, List.replicate, Nat.reduceAdd, Nat.reduceSub, Nat.zero_add, Nat.sub_zero, ite_dec,
  if_true, if_false, Bool.false_eq_true, true_and, and_true, decide_true, List.nodup_nil, List.getElem?_nil, Nat.reduceLeDiff, Nat.add_eq, Nat.add_zero, reduceIte, List.Nodup, List.pairwise_cons, List.not_mem_nil, false_implies, implies_true, List.Pairwise.nil, w_num_name, w_num_sum, w_num_product, w_num_less, w_num_when, w_num_let, w_num_turns, w_num_def, w_num_use, w_num_quote, w_num_hole, w_num_lift, w_num_run, w_num_number, w_num_piece, w_num_kept, w_name_num, w_name_sum, w_name_product, w_name_less, w_name_when, w_name_let, w_name_turns, w_name_def, w_name_use, w_name_quote, w_name_hole, w_name_lift, w_name_run, w_name_number, w_name_piece, w_name_kept, w_sum_num, w_sum_name, w_sum_product, w_sum_less, w_sum_when, w_sum_let, w_sum_turns, w_sum_def, w_sum_use, w_sum_quote, w_sum_hole, w_sum_lift, w_sum_run, w_sum_number, w_sum_piece, w_sum_kept, w_product_num, w_product_name, w_product_sum, w_product_less, w_product_when, w_product_let, w_product_turns, w_product_def, w_product_use, w_product_quote, w_product_hole, w_product_lift, w_product_run, w_product_number, w_product_piece, w_product_kept, w_less_num, w_less_name, w_less_sum, w_less_product, w_less_when, w_less_let, w_less_turns, w_less_def, w_less_use, w_less_quote, w_less_hole, w_less_lift, w_less_run, w_less_number, w_less_piece, w_less_kept, w_when_num, w_when_name, w_when_sum, w_when_product, w_when_less, w_when_let, w_when_turns, w_when_def, w_when_use, w_when_quote, w_when_hole, w_when_lift, w_when_run, w_when_number, w_when_piece, w_when_kept, w_let_num, w_let_name, w_let_sum, w_let_product, w_let_less, w_let_when, w_let_turns, w_let_def, w_let_use, w_let_quote, w_let_hole, w_let_lift, w_let_run, w_let_number, w_let_piece, w_let_kept, w_turns_num, w_turns_name, w_turns_sum, w_turns_product, w_turns_less, w_turns_when, w_turns_let, w_turns_def, w_turns_use, w_turns_quote, w_turns_hole, w_turns_lift, w_turns_run, w_turns_number, w_turns_piece, w_turns_kept, w_def_num, w_def_name, w_def_sum, w_def_product, w_def_less, w_def_when, w_def_let, w_def_turns, w_def_use, w_def_quote, w_def_hole, w_def_lift, w_def_run, w_def_number, w_def_piece, w_def_kept, w_use_num, w_use_name, w_use_sum, w_use_product, w_use_less, w_use_when, w_use_let, w_use_turns, w_use_def, w_use_quote, w_use_hole, w_use_lift, w_use_run, w_use_number, w_use_piece, w_use_kept, w_quote_num, w_quote_name, w_quote_sum, w_quote_product, w_quote_less, w_quote_when, w_quote_let, w_quote_turns, w_quote_def, w_quote_use, w_quote_hole, w_quote_lift, w_quote_run, w_quote_number, w_quote_piece, w_quote_kept, w_hole_num, w_hole_name, w_hole_sum, w_hole_product, w_hole_less, w_hole_when, w_hole_let, w_hole_turns, w_hole_def, w_hole_use, w_hole_quote, w_hole_lift, w_hole_run, w_hole_number, w_hole_piece, w_hole_kept, w_lift_num, w_lift_name, w_lift_sum, w_lift_product, w_lift_less, w_lift_when, w_lift_let, w_lift_turns, w_lift_def, w_lift_use, w_lift_quote, w_lift_hole, w_lift_run, w_lift_number, w_lift_piece, w_lift_kept, w_run_num, w_run_name, w_run_sum, w_run_product, w_run_less, w_run_when, w_run_let, w_run_turns, w_run_def, w_run_use, w_run_quote, w_run_hole, w_run_lift, w_run_number, w_run_piece, w_run_kept, w_number_num, w_number_name, w_number_sum, w_number_product, w_number_less, w_number_when, w_number_let, w_number_turns, w_number_def, w_number_use, w_number_quote, w_number_hole, w_number_lift, w_number_run, w_number_piece, w_number_kept, w_piece_num, w_piece_name, w_piece_sum, w_piece_product, w_piece_less, w_piece_when, w_piece_let, w_piece_turns, w_piece_def, w_piece_use, w_piece_quote, w_piece_hole, w_piece_lift, w_piece_run, w_piece_number, w_piece_kept, w_kept_num, w_kept_name, w_kept_sum, w_kept_product, w_kept_less, w_kept_when, w_kept_let, w_kept_turns, w_kept_def, w_kept_use, w_kept_quote, w_kept_hole, w_kept_lift, w_kept_run, w_kept_number, w_kept_piece, fl_num, fl_name, fl_sum, fl_product, fl_less, fl_when, fl_let, fl_turns, fl_def, fl_use, fl_quote, fl_hole, fl_lift, fl_run, fl_number, fl_piece, fl_kept, fIn_T, fIn_Tn, inD_cons, inD_nil, ixN0, fl_i, List.all_cons, List.all_nil, Bool.and_true, Bool.and_self, Bool.or_false, Bool.false_or, Bool.true_or, Bool.or_true, Bool.not_true, Bool.not_false, dForZ, oVal, oNew, oNil, gLs, fDNew, fDCopy, dDGet, dDIn, onDic, dRetDic, dDPut, dNoX, dBad, dReSet, fAddOwn, fCall, D.noL, D.noLs, dOpOO, dOpEO, dOpOE, dIsiOwn, D.isSc, onStrs, dGet2, dctC, keyOf, gTs, gNs, dAsg, cut11, cut12, cut13, fSlC, dSelf, okM, dMethO, dChk, dMake, onObj, dFld, onFld, dPutFld, onObjS, lk_given, lk_value, lk_piece, lk_staged, lk_fresh, lk_with, putI_nil, putI_given, gStr, dRaise, dTryAs, dTryO, fSl_lo2, fSl_lo3, fSl_lo4, fSl_hi1, fSl_hi2, fSl_hi3]))
local macro_rules | `(tactic| walk_at "cm") => `(tactic| first | (unfold CMul; omega) | (unfold CDiv; omega) | (unfold CPow; omega) | decide | omega)
local macro_rules | `(tactic| walk_at "dr") => `(tactic| (simp only [dNext, dSet, dRet, dDrop, dIfS, dTest, dOp, dVar, dC, dNil, dCons, dConsS, dTup, dLst, dF, dCB, dAnd, dOr, dNot, dAndV, dOrV, dNotV, dIf, dUn, dSl, dNo, dPart, dCall, dSetF, fLst, fLc, dSrc, dForR, dRetOwn, dPutIx, dIxOwn, dApp, dLenOwn, dInOwn, dJoinOwn, dJoin, dIsi, dRng1,
  onVal, onVals, onBl, onInt, onMut, onOwn, onSome_s, onArgs, refs, putS, outs, dst0, okSet, Sl.mut, Sl.toD, Sl.isObj, D.items, fIx, fEq, fNe, fNeg, okEq_str, okEq_int, deq_refl, deq_int, atI0, atI1, atI2, atI3, atI4, atI5, atI_q, fSl1, gList, gTpl, gLen, gInt, gSum, dMaxD, fI, fI0, fAdd, gN, gMax2, gMin2, gStr, D.is_int, D.is_bool, D.is_str, D.is_tuple, D.is_list,
  List.map_cons, List.map_nil, List.length_cons, List.length_nil, List.cons_append, List.nil_append, List.getElem?_cons_zero, List.getElem?_cons_succ, List.set_cons_zero, List.set_cons_succ, List.replicate, Nat.reduceAdd, Nat.reduceSub, Nat.zero_add, Nat.sub_zero, ite_dec,
  if_true, if_false, Bool.false_eq_true, true_and, and_true, decide_true, List.nodup_nil, List.getElem?_nil, Nat.reduceLeDiff, Nat.add_eq, Nat.add_zero, reduceIte, List.Nodup, List.pairwise_cons, List.not_mem_nil, false_implies, implies_true, List.Pairwise.nil, w_num_name, w_num_sum, w_num_product, w_num_less, w_num_when, w_num_let, w_num_turns, w_num_def, w_num_use, w_num_quote, w_num_hole, w_num_lift, w_num_run, w_num_number, w_num_piece, w_num_kept, w_name_num, w_name_sum, w_name_product, w_name_less, w_name_when, w_name_let, w_name_turns, w_name_def, w_name_use, w_name_quote, w_name_hole, w_name_lift, w_name_run, w_name_number, w_name_piece, w_name_kept, w_sum_num, w_sum_name, w_sum_product, w_sum_less, w_sum_when, w_sum_let, w_sum_turns, w_sum_def, w_sum_use, w_sum_quote, w_sum_hole, w_sum_lift, w_sum_run, w_sum_number, w_sum_piece, w_sum_kept, w_product_num, w_product_name, w_product_sum, w_product_less, w_product_when, w_product_let, w_product_turns, w_product_def, w_product_use, w_product_quote, w_product_hole, w_product_lift, w_product_run, w_product_number, w_product_piece, w_product_kept, w_less_num, w_less_name, w_less_sum, w_less_product, w_less_when, w_less_let, w_less_turns, w_less_def, w_less_use, w_less_quote, w_less_hole, w_less_lift, w_less_run, w_less_number, w_less_piece, w_less_kept, w_when_num, w_when_name, w_when_sum, w_when_product, w_when_less, w_when_let, w_when_turns, w_when_def, w_when_use, w_when_quote, w_when_hole, w_when_lift, w_when_run, w_when_number, w_when_piece, w_when_kept, w_let_num, w_let_name, w_let_sum, w_let_product, w_let_less, w_let_when, w_let_turns, w_let_def, w_let_use, w_let_quote, w_let_hole, w_let_lift, w_let_run, w_let_number, w_let_piece, w_let_kept, w_turns_num, w_turns_name, w_turns_sum, w_turns_product, w_turns_less, w_turns_when, w_turns_let, w_turns_def, w_turns_use, w_turns_quote, w_turns_hole, w_turns_lift, w_turns_run, w_turns_number, w_turns_piece, w_turns_kept, w_def_num, w_def_name, w_def_sum, w_def_product, w_def_less, w_def_when, w_def_let, w_def_turns, w_def_use, w_def_quote, w_def_hole, w_def_lift, w_def_run, w_def_number, w_def_piece, w_def_kept, w_use_num, w_use_name, w_use_sum, w_use_product, w_use_less, w_use_when, w_use_let, w_use_turns, w_use_def, w_use_quote, w_use_hole, w_use_lift, w_use_run, w_use_number, w_use_piece, w_use_kept, w_quote_num, w_quote_name, w_quote_sum, w_quote_product, w_quote_less, w_quote_when, w_quote_let, w_quote_turns, w_quote_def, w_quote_use, w_quote_hole, w_quote_lift, w_quote_run, w_quote_number, w_quote_piece, w_quote_kept, w_hole_num, w_hole_name, w_hole_sum, w_hole_product, w_hole_less, w_hole_when, w_hole_let, w_hole_turns, w_hole_def, w_hole_use, w_hole_quote, w_hole_lift, w_hole_run, w_hole_number, w_hole_piece, w_hole_kept, w_lift_num, w_lift_name, w_lift_sum, w_lift_product, w_lift_less, w_lift_when, w_lift_let, w_lift_turns, w_lift_def, w_lift_use, w_lift_quote, w_lift_hole, w_lift_run, w_lift_number, w_lift_piece, w_lift_kept, w_run_num, w_run_name, w_run_sum, w_run_product, w_run_less, w_run_when, w_run_let, w_run_turns, w_run_def, w_run_use, w_run_quote, w_run_hole, w_run_lift, w_run_number, w_run_piece, w_run_kept, w_number_num, w_number_name, w_number_sum, w_number_product, w_number_less, w_number_when, w_number_let, w_number_turns, w_number_def, w_number_use, w_number_quote, w_number_hole, w_number_lift, w_number_run, w_number_piece, w_number_kept, w_piece_num, w_piece_name, w_piece_sum, w_piece_product, w_piece_less, w_piece_when, w_piece_let, w_piece_turns, w_piece_def, w_piece_use, w_piece_quote, w_piece_hole, w_piece_lift, w_piece_run, w_piece_number, w_piece_kept, w_kept_num, w_kept_name, w_kept_sum, w_kept_product, w_kept_less, w_kept_when, w_kept_let, w_kept_turns, w_kept_def, w_kept_use, w_kept_quote, w_kept_hole, w_kept_lift, w_kept_run, w_kept_number, w_kept_piece, fl_num, fl_name, fl_sum, fl_product, fl_less, fl_when, fl_let, fl_turns, fl_def, fl_use, fl_quote, fl_hole, fl_lift, fl_run, fl_number, fl_piece, fl_kept, fIn_T, fIn_Tn, inD_cons, inD_nil, ixN0, fl_i, List.all_cons, List.all_nil, Bool.and_true, Bool.and_self, Bool.or_false, Bool.false_or, Bool.true_or, Bool.or_true, Bool.not_true, Bool.not_false, dForZ, oVal, oNew, oNil, gLs, fDNew, fDCopy, dDGet, dDIn, onDic, dRetDic, dDPut, dNoX, dBad, dReSet, fAddOwn, fCall, D.noL, D.noLs, dOpOO, dOpEO, dOpOE, dIsiOwn, D.isSc, onStrs, dGet2, dctC, keyOf, gTs, gNs, dAsg, cut11, cut12, cut13, fSlC, dSelf, okM, dMethO, dChk, dMake, onObj, dFld, onFld, dPutFld, onObjS, lk_given, lk_value, lk_piece, lk_staged, lk_fresh, lk_with, putI_nil, putI_given, gStr, dRaise, dTryAs, dTryO, fSl_lo2, fSl_lo3, fSl_lo4, fSl_hi1, fSl_hi2, fSl_hi3]))
section
variable {P : Program} {w : World} {K : PySem.W.Frag} {mg : Str → Option Value} {base : Heap}
theorem ok_Maker_value {L f : Nat} (g : G K mg)
    (h_Maker_staged : FnR P w K mg base (L + 1) g.a_Maker_staged g.d_Maker_staged ["self", "term", "names"] (liftSp K (spStgE g.C_Maker g.C_TooGreat f)))
    (h_Maker_value : FnR P w K mg base (L) g.a_Maker_value g.d_Maker_value ["self", "term", "names"] (liftSp K (spValE g.C_Maker g.C_TooGreat f)))
    (h_Maker_with_name : FnR P w K mg base (1) g.a_Maker_with_name g.d_Maker_with_name ["self", "names", "name", "value"] (liftSp K (spWith g.C_Maker)))
    (h_joined : FnR P w K mg base (1) g.a_joined g.d_joined ["word", "left", "right"] (liftSp K (spJoin)))
    : FnR P w K mg base (L + 1 + 1) g.a_Maker_value g.d_Maker_value ["self", "term", "names"] (liftSp K (spValE g.C_Maker g.C_TooGreat (f + 1))) := by
  refine okD g.p_Maker_value.F sc_Maker_value (by rintro ss E Q ⟨t, ρ, k, rfl, _⟩; rfl) fun cdv A outer s H E hr => ⟨_, _, (pss_cons (ps_set (i := 3) sc_Maker_value.nd rfl (by first | exact Or.inl rfl | exact Or.inr rfl) (pe_ix ix_seq (pv 1) pe_int (fun _ _ => rfl))) (pss_cons (ps_if (pt_cmpR (opEq hr.un64) (pv 3) pe_str (nomark _)) (pss_one (ps_ret (pe_op op_mod (pe_ix ix_seq (pv 1) pe_int (fun _ _ => rfl)) (pe_glob (v := .int 1000003) rfl g.c_MODULUS ⟨_, rfl⟩)))) pss_nil) (pss_cons (ps_if (pt_cmpR (opEq hr.un64) (pv 3) pe_str (nomark _)) (pss_one (ps_ret (pe_dget hr.un1 (pv 2) (pe_ix ix_seq (pv 1) pe_int (fun _ _ => rfl)) (fun _ _ => rfl)))) pss_nil) (pss_cons (ps_if (pt_cmpR (opIn hr.un65) (pv 3) (pe_tup (pa_cons pe_str (pa_cons pe_str (pa_cons pe_str pa_nil)))) rfl) (pss_one (ps_ret (pe_callR h_joined (hr.mono (by omega)) rfl g.p_joined.g g.p_joined.F.kp g.p_joined.b passE (pa_cons (pv 3) (pa_cons (pe_methR (pv 0) g.cl_Maker g.m_Maker_value h_Maker_value (hr.mono (by omega)) g.p_Maker_value.b passE (pa_cons (pe_ix ix_seq (pv 1) pe_int (fun _ _ => rfl)) (pa_cons (pv 2) pa_nil))) (pa_cons (pe_methR (pv 0) g.cl_Maker g.m_Maker_value h_Maker_value (hr.mono (by omega)) g.p_Maker_value.b passE (pa_cons (pe_ix ix_seq (pv 1) pe_int (fun _ _ => rfl)) (pa_cons (pv 2) pa_nil))) pa_nil)))))) pss_nil) (pss_cons (ps_if (pt_cmpR (opEq hr.un64) (pv 3) pe_str (nomark _)) (pss_cons (ps_set (i := 4) sc_Maker_value.nd rfl (by first | exact Or.inl rfl | exact Or.inr rfl) (pe_ifExp (pt_cmpR (opNe hr.un64) (pe_methR (pv 0) g.cl_Maker g.m_Maker_value h_Maker_value (hr.mono (by omega)) g.p_Maker_value.b passE (pa_cons (pe_ix ix_seq (pv 1) pe_int (fun _ _ => rfl)) (pa_cons (pv 2) pa_nil))) pe_int (nomark _)) (pe_ix ix_seq (pv 1) pe_int (fun _ _ => rfl)) (pe_ix ix_seq (pv 1) pe_int (fun _ _ => rfl)))) (pss_one (ps_ret (pe_methR (pv 0) g.cl_Maker g.m_Maker_value h_Maker_value (hr.mono (by omega)) g.p_Maker_value.b passE (pa_cons (pv 4) (pa_cons (pv 2) pa_nil)))))) pss_nil) (pss_cons (ps_if (pt_cmpR (opEq hr.un64) (pv 3) pe_str (nomark _)) (pss_one (ps_ret (pe_methR (pv 0) g.cl_Maker g.m_Maker_value h_Maker_value (hr.mono (by omega)) g.p_Maker_value.b passE (pa_cons (pe_ix ix_seq (pv 1) pe_int (fun _ _ => rfl)) (pa_cons (pe_methR (pv 0) g.cl_Maker g.m_Maker_with_name h_Maker_with_name (hr.mono (by omega)) g.p_Maker_with_name.b passE (pa_cons (pv 2) (pa_cons (pe_ix ix_seq (pv 1) pe_int (fun _ _ => rfl)) (pa_cons (pe_methR (pv 0) g.cl_Maker g.m_Maker_value h_Maker_value (hr.mono (by omega)) g.p_Maker_value.b passE (pa_cons (pe_ix ix_seq (pv 1) pe_int (fun _ _ => rfl)) (pa_cons (pv 2) pa_nil))) pa_nil)))) pa_nil))))) pss_nil) (pss_cons (ps_if (pt_cmpR (opEq hr.un64) (pv 3) pe_str (nomark _)) (pss_cons (ps_set (i := 5) sc_Maker_value.nd rfl (by first | exact Or.inl rfl | exact Or.inr rfl) (pe_methR (pv 0) g.cl_Maker g.m_Maker_value h_Maker_value (hr.mono (by omega)) g.p_Maker_value.b passE (pa_cons (pe_ix ix_seq (pv 1) pe_int (fun _ _ => rfl)) (pa_cons (pv 2) pa_nil)))) (pss_cons (ps_for passOwn rfl (pi_range1 rfl g.b_range (pa_cons (pe_ix ix_seq (pv 1) pe_int (fun _ _ => rfl)) pa_nil)) (pg_name (i := 6) sc_Maker_value.nd rfl (by first | exact Or.inl rfl | exact Or.inr rfl)) (pss_one (ps_set (i := 5) sc_Maker_value.nd rfl (by first | exact Or.inl rfl | exact Or.inr rfl) (pe_methR (pv 0) g.cl_Maker g.m_Maker_value h_Maker_value (hr.mono (by omega)) g.p_Maker_value.b passE (pa_cons (pe_ix ix_seq (pv 1) pe_int (fun _ _ => rfl)) (pa_cons (pe_methR (pv 0) g.cl_Maker g.m_Maker_with_name h_Maker_with_name (hr.mono (by omega)) g.p_Maker_with_name.b passE (pa_cons (pv 2) (pa_cons (pe_ix ix_seq (pv 1) pe_int (fun _ _ => rfl)) (pa_cons (pv 5) pa_nil)))) pa_nil)))))) (pss_one (ps_ret (pv 5))))) pss_nil) (pss_cons (ps_if (pt_cmpR (opEq hr.un64) (pv 3) pe_str (nomark _)) (pss_one (ps_ret (pe_methR (pv 0) g.cl_Maker g.m_Maker_value h_Maker_value (hr.mono (by omega)) g.p_Maker_value.b passE (pa_cons (pe_ix ix_seq (pv 1) pe_int (fun _ _ => rfl)) (pa_cons (pe_methR (pv 0) g.cl_Maker g.m_Maker_with_name h_Maker_with_name (hr.mono (by omega)) g.p_Maker_with_name.b passE (pa_cons (pv 2) (pa_cons (pe_ix ix_seq (pv 1) pe_int (fun _ _ => rfl)) (pa_cons (pe_tup (pa_cons (pe_ix ix_seq (pv 1) pe_int (fun _ _ => rfl)) (pa_cons (pe_ix ix_seq (pv 1) pe_int (fun _ _ => rfl)) (pa_cons (pv 2) pa_nil)))) pa_nil)))) pa_nil))))) pss_nil) (pss_cons (ps_if (pt_cmpR (opEq hr.un64) (pv 3) pe_str (nomark _)) (pss_cons (ps_set (i := 7) sc_Maker_value.nd rfl (by first | exact Or.inl rfl | exact Or.inr rfl) (pe_methR (pv 0) g.cl_Maker g.m_Maker_value h_Maker_value (hr.mono (by omega)) g.p_Maker_value.b passE (pa_cons (pe_ix ix_seq (pv 1) pe_int (fun _ _ => rfl)) (pa_cons (pv 2) pa_nil)))) (pss_cons (ps_asg (pe_dget hr.un1 (pv 2) (pe_ix ix_seq (pv 1) pe_int (fun _ _ => rfl)) (fun _ _ => rfl)) (pg_tup (by rfl) (pgs_cons (pg_name (i := 8) sc_Maker_value.nd rfl (by first | exact Or.inl rfl | exact Or.inr rfl)) (pgs_cons (pg_name (i := 9) sc_Maker_value.nd rfl (by first | exact Or.inl rfl | exact Or.inr rfl)) (pgs_cons (pg_name (i := 10) sc_Maker_value.nd rfl (by first | exact Or.inl rfl | exact Or.inr rfl)) pgs_nil))))) (pss_one (ps_ret (pe_methR (pv 0) g.cl_Maker g.m_Maker_value h_Maker_value (hr.mono (by omega)) g.p_Maker_value.b passE (pa_cons (pv 9) (pa_cons (pe_methR (pv 0) g.cl_Maker g.m_Maker_with_name h_Maker_with_name (hr.mono (by omega)) g.p_Maker_with_name.b passE (pa_cons (pv 10) (pa_cons (pv 8) (pa_cons (pv 7) pa_nil)))) pa_nil))))))) pss_nil) (pss_one (ps_ret (pe_methR (pv 0) g.cl_Maker g.m_Maker_staged h_Maker_staged (hr.mono (by omega)) g.p_Maker_staged.b passE (pa_cons (pv 1) (pa_cons (pv 2) pa_nil)))))))))))))), (ss_seq (ss_set (se_op sIx se_var se_int)) (ss_seq (ss_if (st_test (se_op sEq se_var se_str)) (ss_ret (se_op sMod (se_op sIx se_var se_int) se_int)) ss_next) (ss_seq (ss_if (st_test (se_op sEq se_var se_str)) (ss_ret (se_dget se_var (se_op sIx se_var se_int))) ss_next) (ss_seq (ss_if (st_test (se_op sIn se_var (se_tup (sa_cons se_str (sa_cons se_str (sa_cons se_str sa_nil)))))) (ss_ret (se_call (sa_cons se_var (sa_cons (se_meth (sa_cons (se_op sIx se_var se_int) (sa_cons se_var sa_nil))) (sa_cons (se_meth (sa_cons (se_op sIx se_var se_int) (sa_cons se_var sa_nil))) sa_nil))))) ss_next) (ss_seq (ss_if (st_test (se_op sEq se_var se_str)) (ss_seq (ss_set (se_if (st_test (se_op sNe (se_meth (sa_cons (se_op sIx se_var se_int) (sa_cons se_var sa_nil))) se_int)) (se_op sIx se_var se_int) (se_op sIx se_var se_int))) (ss_ret (se_meth (sa_cons se_var (sa_cons se_var sa_nil))))) ss_next) (ss_seq (ss_if (st_test (se_op sEq se_var se_str)) (ss_ret (se_meth (sa_cons (se_op sIx se_var se_int) (sa_cons (se_meth (sa_cons se_var (sa_cons (se_op sIx se_var se_int) (sa_cons (se_meth (sa_cons (se_op sIx se_var se_int) (sa_cons se_var sa_nil))) sa_nil)))) sa_nil)))) ss_next) (ss_seq (ss_if (st_test (se_op sEq se_var se_str)) (ss_seq (ss_set (se_meth (sa_cons (se_op sIx se_var se_int) (sa_cons se_var sa_nil)))) (ss_seq (ss_forI (si_rng1 (sa_cons (se_op sIx se_var se_int) sa_nil)) sg_name (ss_set (se_meth (sa_cons (se_op sIx se_var se_int) (sa_cons (se_meth (sa_cons se_var (sa_cons (se_op sIx se_var se_int) (sa_cons se_var sa_nil)))) sa_nil))))) (ss_ret se_var))) ss_next) (ss_seq (ss_if (st_test (se_op sEq se_var se_str)) (ss_ret (se_meth (sa_cons (se_op sIx se_var se_int) (sa_cons (se_meth (sa_cons se_var (sa_cons (se_op sIx se_var se_int) (sa_cons (se_tup (sa_cons (se_op sIx se_var se_int) (sa_cons (se_op sIx se_var se_int) (sa_cons se_var sa_nil)))) sa_nil)))) sa_nil)))) ss_next) (ss_seq (ss_if (st_test (se_op sEq se_var se_str)) (ss_seq (ss_set (se_meth (sa_cons (se_op sIx se_var se_int) (sa_cons se_var sa_nil)))) (ss_seq (ss_asg (se_dget se_var (se_op sIx se_var se_int)) (sg_tup (sgs_cons (sgs_cons (sgs_cons sgs_nil))) rfl)) (ss_ret (se_meth (sa_cons se_var (sa_cons (se_meth (sa_cons se_var (sa_cons se_var (sa_cons se_var sa_nil)))) sa_nil)))))) ss_next) (ss_ret (se_meth (sa_cons se_var (sa_cons se_var sa_nil))))))))))))), ?_⟩
  rintro ss Ed Q ⟨t, ρ, k, rfl, (⟨v, k2, h, hq⟩ | ⟨h, hE⟩)⟩
  · have h0 := h
    cases t <;> simp only [evV] at h
    case num n =>
      simp only [Option.some.injEq, Prod.mk.injEq] at h
      obtain ⟨rfl, rfl⟩ := h
      simp only [Tm.toD, S] at hq ⊢
      refine x_seq fun R hR => ?_
      walk_at "dr"
      refine hR _ ?_
      refine x_seq fun R hR => ?_
      walk_at "dr"
      simp only [vD, Vl.rp_num] at hq
      exact ⟨by decide, hq⟩
    case name x =>
      obtain ⟨u, hu, h⟩ := onR_of h
      simp only [Option.some.injEq, Prod.mk.injEq] at h
      obtain ⟨rfl, rfl⟩ := h
      simp only [Tm.toD, S] at hq ⊢
      refine x_seq fun R hR => ?_
      walk_at "dr"
      refine hR _ ?_
      refine x_seq fun R hR => ?_
      walk_at "dr"
      refine hR _ ?_
      simp only [eD, envG] at hq ⊢
      refine x_seq fun R hR => ?_
      walk_at "dr"
      rw [valD_G, hu]
      simp only [Option.map_some, onSome_s]
      exact hq
    case sum a b =>
      obtain ⟨va, ha, h⟩ := bindR_ok h
      obtain ⟨i, k1, rfl, i0, i1, h⟩ := numR_of h
      obtain ⟨vb, hb, h⟩ := bindR_ok h
      obtain ⟨j, k3, rfl, j0, j1, h⟩ := numR_of h
      simp only [Option.some.injEq, Prod.mk.injEq] at h
      obtain ⟨rfl, rfl⟩ := h
      simp only [Tm.toD, S] at hq ⊢
      refine x_seq fun R hR => ?_
      walk_at "dr"
      refine hR _ ?_
      refine x_seq fun R hR => ?_
      walk_at "dr"
      refine hR _ ?_
      refine x_seq fun R hR => ?_
      walk_at "dr"
      refine hR _ ?_
      refine x_seq fun R hR => ?_
      walk_at "dr"
      refine ⟨a, ρ, k, rfl, .inl ⟨_, _, ha, ?_⟩⟩
      walk_at "dr"
      refine ⟨b, ρ, k1, rfl, .inl ⟨_, _, hb, ?_⟩⟩
      walk_at "dr"
      simp only [vD, Vl.rp_num] at hq ⊢
      refine ⟨Str.ofString "sum", i, j, rfl, by simp, ⟨i0, i1⟩, ⟨j0, j1⟩, ?_⟩
      walk_at "dr"
      (try rw [if_pos rfl])
      exact hq
    case product a b =>
      obtain ⟨va, ha, h⟩ := bindR_ok h
      obtain ⟨i, k1, rfl, i0, i1, h⟩ := numR_of h
      obtain ⟨vb, hb, h⟩ := bindR_ok h
      obtain ⟨j, k3, rfl, j0, j1, h⟩ := numR_of h
      simp only [Option.some.injEq, Prod.mk.injEq] at h
      obtain ⟨rfl, rfl⟩ := h
      simp only [Tm.toD, S] at hq ⊢
      refine x_seq fun R hR => ?_
      walk_at "dr"
      refine hR _ ?_
      refine x_seq fun R hR => ?_
      walk_at "dr"
      refine hR _ ?_
      refine x_seq fun R hR => ?_
      walk_at "dr"
      refine hR _ ?_
      refine x_seq fun R hR => ?_
      walk_at "dr"
      refine ⟨a, ρ, k, rfl, .inl ⟨_, _, ha, ?_⟩⟩
      walk_at "dr"
      refine ⟨b, ρ, k1, rfl, .inl ⟨_, _, hb, ?_⟩⟩
      walk_at "dr"
      simp only [vD, Vl.rp_num] at hq ⊢
      refine ⟨Str.ofString "product", i, j, rfl, by simp, ⟨i0, i1⟩, ⟨j0, j1⟩, ?_⟩
      walk_at "dr"
      rw [if_neg (by decide +kernel)]
      exact hq
    case less a b =>
      obtain ⟨va, ha, h⟩ := bindR_ok h
      obtain ⟨i, k1, rfl, i0, i1, h⟩ := numR_of h
      obtain ⟨vb, hb, h⟩ := bindR_ok h
      obtain ⟨j, k3, rfl, j0, j1, h⟩ := numR_of h
      simp only [Option.some.injEq, Prod.mk.injEq] at h
      obtain ⟨rfl, rfl⟩ := h
      simp only [Tm.toD, S] at hq ⊢
      refine x_seq fun R hR => ?_
      walk_at "dr"
      refine hR _ ?_
      refine x_seq fun R hR => ?_
      walk_at "dr"
      refine hR _ ?_
      refine x_seq fun R hR => ?_
      walk_at "dr"
      refine hR _ ?_
      refine x_seq fun R hR => ?_
      walk_at "dr"
      refine ⟨a, ρ, k, rfl, .inl ⟨_, _, ha, ?_⟩⟩
      walk_at "dr"
      refine ⟨b, ρ, k1, rfl, .inl ⟨_, _, hb, ?_⟩⟩
      walk_at "dr"
      simp only [vD, Vl.rp_num] at hq ⊢
      refine ⟨Str.ofString "less", i, j, rfl, by simp, ⟨i0, i1⟩, ⟨j0, j1⟩, ?_⟩
      walk_at "dr"
      rw [if_neg (by decide +kernel), if_neg (by decide +kernel)]
      exact hq
    case when c a b =>
      obtain ⟨va, ha, h⟩ := bindR_ok h
      obtain ⟨i, k1, rfl, i0, i1, h⟩ := numR_of h
      simp only [Tm.toD, S] at hq ⊢
      refine x_seq fun R hR => ?_
      walk_at "dr"
      refine hR _ ?_
      refine x_seq fun R hR => ?_
      walk_at "dr"
      refine hR _ ?_
      refine x_seq fun R hR => ?_
      walk_at "dr"
      refine hR _ ?_
      refine x_seq fun R hR => ?_
      walk_at "dr"
      refine hR _ ?_
      refine x_seq fun R hR => ?_
      walk_at "dr"
      refine x_seq fun R hR => ?_
      walk_at "dr"
      refine ⟨c, ρ, k, rfl, .inl ⟨_, _, ha, ?_⟩⟩
      walk_at "dr"
      simp only [vD, Vl.rp_num]
      walk_at "dr"
      by_cases hi : i = 0
      · rw [if_neg (by simp [hi])]
        rw [if_neg (by simp [hi])] at h
        refine hR _ ?_
        walk_at "dr"
        refine ⟨b, ρ, k1, rfl, .inl ⟨_, _, h, ?_⟩⟩
        walk_at "dr"
        exact hq
      · rw [if_pos (by simp [hi])]
        rw [if_pos hi] at h
        refine hR _ ?_
        walk_at "dr"
        refine ⟨a, ρ, k1, rfl, .inl ⟨_, _, h, ?_⟩⟩
        walk_at "dr"
        exact hq
    case lett x a b =>
      obtain ⟨va, ha, h⟩ := bindR_ok h
      obtain ⟨hl, h⟩ := chkR_of h
      simp only [Tm.toD, S] at hq ⊢
      refine x_seq fun R hR => ?_
      walk_at "dr"
      refine hR _ ?_
      refine x_seq fun R hR => ?_
      walk_at "dr"
      refine hR _ ?_
      refine x_seq fun R hR => ?_
      walk_at "dr"
      refine hR _ ?_
      refine x_seq fun R hR => ?_
      walk_at "dr"
      refine hR _ ?_
      refine x_seq fun R hR => ?_
      walk_at "dr"
      refine hR _ ?_
      refine x_seq fun R hR => ?_
      walk_at "dr"
      refine ⟨a, ρ, k, rfl, .inl ⟨_, _, ha, ?_⟩⟩
      walk_at "dr"
      refine ⟨va.2, ρ, x, va.1, rfl, hl, ?_⟩
      walk_at "dr"
      refine ⟨b, _, va.2, rfl, .inl ⟨_, _, h, ?_⟩⟩
      walk_at "dr"
      exact hq
    case turns n x a b =>
      obtain ⟨va, ha, h⟩ := bindR_ok h
      obtain ⟨hl, h⟩ := chkR_of h
      simp only [Tm.toD, S] at hq ⊢
      refine x_seq fun R hR => ?_
      walk_at "dr"
      refine hR _ ?_
      refine x_seq fun R hR => ?_
      walk_at "dr"
      refine hR _ ?_
      refine x_seq fun R hR => ?_
      walk_at "dr"
      refine hR _ ?_
      refine x_seq fun R hR => ?_
      walk_at "dr"
      refine hR _ ?_
      refine x_seq fun R hR => ?_
      walk_at "dr"
      refine hR _ ?_
      refine x_seq fun R hR => ?_
      walk_at "dr"
      refine hR _ ?_
      refine x_seq fun R hR => ?_
      walk_at "dr"
      refine x_seq fun R hR => ?_
      walk_at "dr"
      refine ⟨a, ρ, k, rfl, .inl ⟨_, _, ha, ?_⟩⟩
      walk_at "dr"
      refine hR _ ?_
      refine x_seq fun R hR => ?_
      walk_at "dr"
      refine ⟨by omega, by omega, ?_⟩
      refine dLoop_inv (I := fun xs δ => ∃ (m i : Nat) (u : Vl) (j : Nat) (x6 : Option Sl), xs = (List.range' i m).map (fun i : Nat => D.int (0 + (i : Int))) ∧ loopR (fun u j => evV f b (putG ρ x u) j) m u j = some (some (v, k2)) ∧ (x6 = none ∨ ∃ d, x6 = some (.val d)) ∧ δ = [some (.obj g.C_Maker [(Str.ofString "given", (j : Int))]), some (.val (.tup [.str (Str.ofString "turns"), .int n, .str x, a.toD, b.toD])), some (.val (eD ρ)), some (.val (.str (Str.ofString "turns"))), none, some (.val (vD u)), x6, none, none, none, none]) ?_ ?_ ⟨n.toNat, 0, va.1, va.2, none, by unfold rngD; rw [List.range_eq_range'], h, .inl rfl, rfl⟩
      · rintro d r δ N ⟨m, i, u, j, x6, ex, hL, h6, rfl⟩ hN
        cases m with
        | zero => cases ex
        | succ m =>
          injection ex with ex1 ex2
          subst ex1 ex2
          obtain ⟨q, hq1, hq2⟩ := bindR_ok hL
          have fin : N [some (.obj g.C_Maker [(Str.ofString "given", (q.2 : Int))]), some (.val (.tup [.str (Str.ofString "turns"), .int n, .str x, a.toD, b.toD])), some (.val (eD ρ)), some (.val (.str (Str.ofString "turns"))), none, some (.val (vD q.1)), some (.val (.int (0 + (i : Int)))), none, none, none, none] :=
            hN _ ⟨m, i + 1, q.1, q.2, _, rfl, hq2, .inr ⟨_, rfl⟩, rfl⟩
          rcases h6 with rfl | ⟨d6, rfl⟩ <;> (
            walk_at "dr"
            refine ⟨j, ρ, x, u, rfl, hl.2.2, ?_⟩
            walk_at "dr"
            refine ⟨b, _, j, rfl, .inl ⟨_, _, hq1, ?_⟩⟩
            walk_at "dr"
            exact fin)
      · rintro δ ⟨m, i, u, j, x6, ex, hL, h6, rfl⟩
        cases m with
        | succ m => cases ex
        | zero =>
          simp only [loopR, Option.some.injEq, Prod.mk.injEq] at hL
          obtain ⟨rfl, rfl⟩ := hL
          refine hR _ ?_
          walk_at "dr"
          exact hq
    case defn y x m a b =>
      obtain ⟨hl, h⟩ := chkR_of h
      simp only [Tm.toD, S] at hq ⊢
      refine x_seq fun R hR => ?_
      walk_at "dr"
      refine hR _ ?_
      refine x_seq fun R hR => ?_
      walk_at "dr"
      refine hR _ ?_
      refine x_seq fun R hR => ?_
      walk_at "dr"
      refine hR _ ?_
      refine x_seq fun R hR => ?_
      walk_at "dr"
      refine hR _ ?_
      refine x_seq fun R hR => ?_
      walk_at "dr"
      refine hR _ ?_
      refine x_seq fun R hR => ?_
      walk_at "dr"
      refine hR _ ?_
      refine x_seq fun R hR => ?_
      walk_at "dr"
      refine hR _ ?_
      refine x_seq fun R hR => ?_
      walk_at "dr"
      refine ⟨k, ρ, y, .fn x a ρ, ?_, hl, ?_⟩
      · rw [vD, Vl.rp_fn]
      walk_at "dr"
      refine ⟨b, _, k, rfl, .inl ⟨_, _, h, ?_⟩⟩
      walk_at "dr"
      exact hq
    case use y a =>
      obtain ⟨va, ha, h⟩ := bindR_ok h
      obtain ⟨u, hu, h⟩ := onR_of h
      obtain ⟨x, b, e, rfl, hl, h⟩ : ∃ x b e, u = .fn x b e ∧ e.length ≤ 1000 ∧ evV f b (putG e x va.1) va.2 = some (some (v, k2)) := by
        cases u with
        | fn x b e => obtain ⟨hl, h⟩ := chkR_of h; exact ⟨x, b, e, rfl, hl, h⟩
        | num _ => cases h
        | pc _ => cases h
        | nm _ => cases h
      simp only [Tm.toD, S] at hq ⊢
      refine x_seq fun R hR => ?_
      walk_at "dr"
      refine hR _ ?_
      refine x_seq fun R hR => ?_
      walk_at "dr"
      refine hR _ ?_
      refine x_seq fun R hR => ?_
      walk_at "dr"
      refine hR _ ?_
      refine x_seq fun R hR => ?_
      walk_at "dr"
      refine hR _ ?_
      refine x_seq fun R hR => ?_
      walk_at "dr"
      refine hR _ ?_
      refine x_seq fun R hR => ?_
      walk_at "dr"
      refine hR _ ?_
      refine x_seq fun R hR => ?_
      walk_at "dr"
      refine hR _ ?_
      refine x_seq fun R hR => ?_
      walk_at "dr"
      refine hR _ ?_
      refine x_seq fun R hR => ?_
      walk_at "dr"
      refine x_seq fun R hR => ?_
      walk_at "dr"
      refine ⟨a, ρ, k, rfl, .inl ⟨_, _, ha, ?_⟩⟩
      walk_at "dr"
      refine hR _ ?_
      simp only [eD, envG] at hq ⊢
      refine x_seq fun R hR => ?_
      walk_at "dr"
      rw [valD_G, hu]
      simp only [Option.map_some, onSome_s, vD, Vl.rp_fn]
      walk_at "dr"
      refine hR _ ?_
      walk_at "dr"
      refine ⟨va.2, e, x, va.1, rfl, hl, ?_⟩
      walk_at "dr"
      refine ⟨b, _, va.2, rfl, .inl ⟨_, _, h, ?_⟩⟩
      walk_at "dr"
      exact hq
    case quote a =>
      have go : ∀ Q : D → List Sl → Prop, Q (vD v) [.obj g.C_Maker [(Str.ofString "given", (k2 : Int))], .val (Tm.quote a).toD, .val (eD ρ)] → spStgE g.C_Maker g.C_TooGreat f [.obj g.C_Maker [(Str.ofString "given", (k : Int))], .val (Tm.quote a).toD, .val (eD ρ)] Ed Q := fun Q q => ⟨_, ρ, k, rfl, rfl, .inl ⟨v, k2, h0, q⟩⟩
      simp only [Tm.toD, S] at go
      simp only [Tm.toD, S] at hq ⊢
      refine x_seq fun R hR => ?_
      walk_at "dr"
      refine hR _ ?_
      refine x_seq fun R hR => ?_
      walk_at "dr"
      refine hR _ ?_
      refine x_seq fun R hR => ?_
      walk_at "dr"
      refine hR _ ?_
      refine x_seq fun R hR => ?_
      walk_at "dr"
      refine hR _ ?_
      refine x_seq fun R hR => ?_
      walk_at "dr"
      refine hR _ ?_
      refine x_seq fun R hR => ?_
      walk_at "dr"
      refine hR _ ?_
      refine x_seq fun R hR => ?_
      walk_at "dr"
      refine hR _ ?_
      refine x_seq fun R hR => ?_
      walk_at "dr"
      refine hR _ ?_
      refine x_seq fun R hR => ?_
      walk_at "dr"
      refine hR _ ?_
      walk_at "dr"
      refine go _ ?_
      walk_at "dr"
      exact hq
    case lift a =>
      have go : ∀ Q : D → List Sl → Prop, Q (vD v) [.obj g.C_Maker [(Str.ofString "given", (k2 : Int))], .val (Tm.lift a).toD, .val (eD ρ)] → spStgE g.C_Maker g.C_TooGreat f [.obj g.C_Maker [(Str.ofString "given", (k : Int))], .val (Tm.lift a).toD, .val (eD ρ)] Ed Q := fun Q q => ⟨_, ρ, k, rfl, rfl, .inl ⟨v, k2, h0, q⟩⟩
      simp only [Tm.toD, S] at go
      simp only [Tm.toD, S] at hq ⊢
      refine x_seq fun R hR => ?_
      walk_at "dr"
      refine hR _ ?_
      refine x_seq fun R hR => ?_
      walk_at "dr"
      refine hR _ ?_
      refine x_seq fun R hR => ?_
      walk_at "dr"
      refine hR _ ?_
      refine x_seq fun R hR => ?_
      walk_at "dr"
      refine hR _ ?_
      refine x_seq fun R hR => ?_
      walk_at "dr"
      refine hR _ ?_
      refine x_seq fun R hR => ?_
      walk_at "dr"
      refine hR _ ?_
      refine x_seq fun R hR => ?_
      walk_at "dr"
      refine hR _ ?_
      refine x_seq fun R hR => ?_
      walk_at "dr"
      refine hR _ ?_
      refine x_seq fun R hR => ?_
      walk_at "dr"
      refine hR _ ?_
      walk_at "dr"
      refine go _ ?_
      walk_at "dr"
      exact hq
    case run a =>
      have go : ∀ Q : D → List Sl → Prop, Q (vD v) [.obj g.C_Maker [(Str.ofString "given", (k2 : Int))], .val (Tm.run a).toD, .val (eD ρ)] → spStgE g.C_Maker g.C_TooGreat f [.obj g.C_Maker [(Str.ofString "given", (k : Int))], .val (Tm.run a).toD, .val (eD ρ)] Ed Q := fun Q q => ⟨_, ρ, k, rfl, rfl, .inl ⟨v, k2, h0, q⟩⟩
      simp only [Tm.toD, S] at go
      simp only [Tm.toD, S] at hq ⊢
      refine x_seq fun R hR => ?_
      walk_at "dr"
      refine hR _ ?_
      refine x_seq fun R hR => ?_
      walk_at "dr"
      refine hR _ ?_
      refine x_seq fun R hR => ?_
      walk_at "dr"
      refine hR _ ?_
      refine x_seq fun R hR => ?_
      walk_at "dr"
      refine hR _ ?_
      refine x_seq fun R hR => ?_
      walk_at "dr"
      refine hR _ ?_
      refine x_seq fun R hR => ?_
      walk_at "dr"
      refine hR _ ?_
      refine x_seq fun R hR => ?_
      walk_at "dr"
      refine hR _ ?_
      refine x_seq fun R hR => ?_
      walk_at "dr"
      refine hR _ ?_
      refine x_seq fun R hR => ?_
      walk_at "dr"
      refine hR _ ?_
      walk_at "dr"
      refine go _ ?_
      walk_at "dr"
      exact hq
    case hole a => cases h
  · have h0 := h
    cases t <;> simp only [evG] at h
    case quote a =>
      have go : ∀ Q : D → List Sl → Prop, spStgE g.C_Maker g.C_TooGreat f [.obj g.C_Maker [(Str.ofString "given", (k : Int))], .val (Tm.quote a).toD, .val (eD ρ)] Ed Q := fun Q => ⟨_, ρ, k, rfl, rfl, .inr ⟨h0, hE⟩⟩
      simp only [Tm.toD, S] at go
      simp only [Tm.toD, S]
      refine x_seq fun R hR => ?_
      walk_at "dr"
      refine hR _ ?_
      refine x_seq fun R hR => ?_
      walk_at "dr"
      refine hR _ ?_
      refine x_seq fun R hR => ?_
      walk_at "dr"
      refine hR _ ?_
      refine x_seq fun R hR => ?_
      walk_at "dr"
      refine hR _ ?_
      refine x_seq fun R hR => ?_
      walk_at "dr"
      refine hR _ ?_
      refine x_seq fun R hR => ?_
      walk_at "dr"
      refine hR _ ?_
      refine x_seq fun R hR => ?_
      walk_at "dr"
      refine hR _ ?_
      refine x_seq fun R hR => ?_
      walk_at "dr"
      refine hR _ ?_
      refine x_seq fun R hR => ?_
      walk_at "dr"
      refine hR _ ?_
      walk_at "dr"
      exact go _
    case run a =>
      have go : ∀ Q : D → List Sl → Prop, spStgE g.C_Maker g.C_TooGreat f [.obj g.C_Maker [(Str.ofString "given", (k : Int))], .val (Tm.run a).toD, .val (eD ρ)] Ed Q := fun Q => ⟨_, ρ, k, rfl, rfl, .inr ⟨h0, hE⟩⟩
      simp only [Tm.toD, S] at go
      simp only [Tm.toD, S]
      refine x_seq fun R hR => ?_
      walk_at "dr"
      refine hR _ ?_
      refine x_seq fun R hR => ?_
      walk_at "dr"
      refine hR _ ?_
      refine x_seq fun R hR => ?_
      walk_at "dr"
      refine hR _ ?_
      refine x_seq fun R hR => ?_
      walk_at "dr"
      refine hR _ ?_
      refine x_seq fun R hR => ?_
      walk_at "dr"
      refine hR _ ?_
      refine x_seq fun R hR => ?_
      walk_at "dr"
      refine hR _ ?_
      refine x_seq fun R hR => ?_
      walk_at "dr"
      refine hR _ ?_
      refine x_seq fun R hR => ?_
      walk_at "dr"
      refine hR _ ?_
      refine x_seq fun R hR => ?_
      walk_at "dr"
      refine hR _ ?_
      walk_at "dr"
      exact go _
    case lett x a b =>
      simp only [Tm.toD, S]
      refine x_seq fun R hR => ?_
      walk_at "dr"
      refine hR _ ?_
      refine x_seq fun R hR => ?_
      walk_at "dr"
      refine hR _ ?_
      refine x_seq fun R hR => ?_
      walk_at "dr"
      refine hR _ ?_
      refine x_seq fun R hR => ?_
      walk_at "dr"
      refine hR _ ?_
      refine x_seq fun R hR => ?_
      walk_at "dr"
      refine hR _ ?_
      refine x_seq fun R hR => ?_
      walk_at "dr"
      rcases h with h | ⟨va, ha, hl, h⟩
      · exact ⟨a, ρ, k, rfl, .inr ⟨h, hE⟩⟩
      · refine ⟨a, ρ, k, rfl, .inl ⟨_, _, ha, ?_⟩⟩
        walk_at "dr"
        refine ⟨va.2, ρ, x, va.1, rfl, hl, ?_⟩
        walk_at "dr"
        exact ⟨b, _, va.2, rfl, .inr ⟨h, hE⟩⟩
    case turns n x a b =>
      simp only [Tm.toD, S]
      refine x_seq fun R hR => ?_
      walk_at "dr"
      refine hR _ ?_
      refine x_seq fun R hR => ?_
      walk_at "dr"
      refine hR _ ?_
      refine x_seq fun R hR => ?_
      walk_at "dr"
      refine hR _ ?_
      refine x_seq fun R hR => ?_
      walk_at "dr"
      refine hR _ ?_
      refine x_seq fun R hR => ?_
      walk_at "dr"
      refine hR _ ?_
      refine x_seq fun R hR => ?_
      walk_at "dr"
      refine hR _ ?_
      refine x_seq fun R hR => ?_
      walk_at "dr"
      refine x_seq fun R hR => ?_
      walk_at "dr"
      rcases h with h | ⟨va, ha, hl, h⟩
      · exact ⟨a, ρ, k, rfl, .inr ⟨h, hE⟩⟩
      · refine ⟨a, ρ, k, rfl, .inl ⟨_, _, ha, ?_⟩⟩
        walk_at "dr"
        refine hR _ ?_
        refine x_seq fun R hR => ?_
        walk_at "dr"
        refine ⟨by omega, by omega, ?_⟩
        refine dLoop_inv (I := fun xs δ => ∃ (m i : Nat) (u : Vl) (j : Nat) (x6 : Option Sl), xs = (List.range' i m).map (fun i : Nat => D.int (0 + (i : Int))) ∧ loopG (fun u j => evV f b (putG ρ x u) j) (fun u j => evG f b (putG ρ x u) j) m u j ∧ (x6 = none ∨ ∃ d, x6 = some (.val d)) ∧ δ = [some (.obj g.C_Maker [(Str.ofString "given", (j : Int))]), some (.val (.tup [.str (Str.ofString "turns"), .int n, .str x, a.toD, b.toD])), some (.val (eD ρ)), some (.val (.str (Str.ofString "turns"))), none, some (.val (vD u)), x6, none, none, none, none]) ?_ ?_ ⟨n.toNat, 0, va.1, va.2, none, by unfold rngD; rw [List.range_eq_range'], h, .inl rfl, rfl⟩
        · rintro d r δ N ⟨m, i, u, j, x6, ex, hL, h6, rfl⟩ hN
          cases m with
          | zero => cases ex
          | succ m =>
            injection ex with ex1 ex2
            subst ex1 ex2
            rcases hL with hL | ⟨q, hq1, hq2⟩
            · rcases h6 with rfl | ⟨d6, rfl⟩ <;> (
                walk_at "dr"
                refine ⟨j, ρ, x, u, rfl, hl.2.2, ?_⟩
                walk_at "dr"
                exact ⟨b, _, j, rfl, .inr ⟨hL, hE⟩⟩)
            · have fin : N [some (.obj g.C_Maker [(Str.ofString "given", (q.2 : Int))]), some (.val (.tup [.str (Str.ofString "turns"), .int n, .str x, a.toD, b.toD])), some (.val (eD ρ)), some (.val (.str (Str.ofString "turns"))), none, some (.val (vD q.1)), some (.val (.int (0 + (i : Int)))), none, none, none, none] :=
                hN _ ⟨m, i + 1, q.1, q.2, _, rfl, hq2, .inr ⟨_, rfl⟩, rfl⟩
              rcases h6 with rfl | ⟨d6, rfl⟩ <;> (
                walk_at "dr"
                refine ⟨j, ρ, x, u, rfl, hl.2.2, ?_⟩
                walk_at "dr"
                refine ⟨b, _, j, rfl, .inl ⟨_, _, hq1, ?_⟩⟩
                walk_at "dr"
                exact fin)
        · rintro δ ⟨m, i, u, j, x6, ex, hL, h6, rfl⟩
          cases m with
          | succ m => cases ex
          | zero => exact hL.elim
end
end Qh

namespace Qh
open PySem PySem.Spec PyProof.Rows L2 Dq
local macro_rules | `(tactic| walk_at "dq") => `(tactic| (simp only [dSeq, dNext, dSet, dRet, dDrop, dIfS, dTest, dOp, dVar, dC, dNil, dCons, dConsS, dTup, dLst, dF, dCB, dAnd, dOr, dNot, dAndV, dOrV, dNotV, dIf, dUn, dSl, dNo, dPart, dCall, dSetF, fLst, fLc, dSrc, dForR, dRetOwn, dPutIx, dIxOwn, dApp, dLenOwn, dInOwn, dJoinOwn, dJoin, dIsi, dRng1,
  onVal, onVals, onBl, onInt, onMut, onOwn, onSome_s, onArgs, refs, putS, outs, dst0, okSet, Sl.mut, Sl.toD, Sl.isObj, D.items, fIx, fEq, fNe, fNeg, okEq_str, okEq_int, deq_refl, deq_int, atI0, atI1, atI2, atI3, atI4, atI5, atI_q, fSl1, gList, gTpl, gLen, gInt, gSum, dMaxD, fI, fI0, fAdd, gN, gMax2, gMin2, gStr, D.is_int, D.is_bool, D.is_str, D.is_tuple, D.is_list,
  List.map_cons, List.map_nil, List.length_cons, List.length_nil, List.cons_append, List.nil_append, List.getElem?_cons_zero, List.getElem?_cons_succ, List.set_cons_zero, List.set_cons_succ, List.replicate, Nat.reduceAdd, Nat.reduceSub, Nat.zero_add, Nat.sub_zero, ite_dec,
  if_true, if_false, Bool.false_eq_true, true_and, and_true, decide_true, List.nodup_nil, List.getElem?_nil, Nat.reduceLeDiff, Nat.add_eq, Nat.add_zero, reduceIte, List.Nodup, List.pairwise_cons, List.not_mem_nil, false_implies, implies_true, List.Pairwise.nil, w_num_name, w_num_sum, w_num_product, w_num_less, w_num_when, w_num_let, w_num_turns, w_num_def, w_num_use, w_num_quote, w_num_hole, w_num_lift, w_num_run, w_num_number, w_num_piece, w_num_kept, w_name_num, w_name_sum, w_name_product, w_name_less, w_name_when, w_name_let, w_name_turns, w_name_def, w_name_use, w_name_quote, w_name_hole, w_name_lift, w_name_run, w_name_number, w_name_piece, w_name_kept, w_sum_num, w_sum_name, w_sum_product, w_sum_less, w_sum_when, w_sum_let, w_sum_turns, w_sum_def, w_sum_use, w_sum_quote, w_sum_hole, w_sum_lift, w_sum_run, w_sum_number, w_sum_piece, w_sum_kept, w_product_num, w_product_name, w_product_sum, w_product_less, w_product_when, w_product_let, w_product_turns, w_product_def, w_product_use, w_product_quote, w_product_hole, w_product_lift, w_product_run, w_product_number, w_product_piece, w_product_kept, w_less_num, w_less_name, w_less_sum, w_less_product, w_less_when, w_less_let, w_less_turns, w_less_def, w_less_use, w_less_quote, w_less_hole, w_less_lift, w_less_run, w_less_number, w_less_piece, w_less_kept, w_when_num, w_when_name, w_when_sum, w_when_product, w_when_less, w_when_let, w_when_turns, w_when_def, w_when_use, w_when_quote, w_when_hole, w_when_lift, w_when_run, w_when_number, w_when_piece, w_when_kept, w_let_num, w_let_name, w_let_sum, w_let_product, w_let_less, w_let_when, w_let_turns, w_let_def, w_let_use, w_let_quote, w_let_hole, w_let_lift, w_let_run, w_let_number, w_let_piece, w_let_kept, w_turns_num, w_turns_name, w_turns_sum, w_turns_product, w_turns_less, w_turns_when, w_turns_let, w_turns_def, w_turns_use, w_turns_quote, w_turns_hole, w_turns_lift, w_turns_run, w_turns_number, w_turns_piece, w_turns_kept, w_def_num, w_def_name, w_def_sum, w_def_product, w_def_less, w_def_when, w_def_let, w_def_turns, w_def_use, w_def_quote, w_def_hole, w_def_lift, w_def_run, w_def_number, w_def_piece, w_def_kept, w_use_num, w_use_name, w_use_sum, w_use_product, w_use_less, w_use_when, w_use_let, w_use_turns, w_use_def, w_use_quote, w_use_hole, w_use_lift, w_use_run, w_use_number, w_use_piece, w_use_kept, w_quote_num, w_quote_name, w_quote_sum, w_quote_product, w_quote_less, w_quote_when, w_quote_let, w_quote_turns, w_quote_def, w_quote_use, w_quote_hole, w_quote_lift, w_quote_run, w_quote_number, w_quote_piece, w_quote_kept, w_hole_num, w_hole_name, w_hole_sum, w_hole_product, w_hole_less, w_hole_when, w_hole_let, w_hole_turns, w_hole_def, w_hole_use, w_hole_quote, w_hole_lift, w_hole_run, w_hole_number, w_hole_piece, w_hole_kept, w_lift_num, w_lift_name, w_lift_sum, w_lift_product, w_lift_less, w_lift_when, w_lift_let, w_lift_turns, w_lift_def, w_lift_use, w_lift_quote, w_lift_hole, w_lift_run, w_lift_number, w_lift_piece, w_lift_kept, w_run_num, w_run_name, w_run_sum, w_run_product, w_run_less, w_run_when, w_run_let, w_run_turns, w_run_def, w_run_use, w_run_quote, w_run_hole, w_run_lift, w_run_number, w_run_piece, w_run_kept, w_number_num, w_number_name, w_number_sum, w_number_product, w_number_less, w_number_when, w_number_let, w_number_turns, w_number_def, w_number_use, w_number_quote, w_number_hole, w_number_lift, w_number_run, w_number_piece, w_number_kept, w_piece_num, w_piece_name, w_piece_sum, w_piece_product, w_piece_less, w_piece_when, w_piece_let, w_piece_turns, w_piece_def, w_piece_use, w_piece_quote, w_piece_hole, w_piece_lift, w_piece_run, w_piece_number, w_piece_kept, w_kept_num, w_kept_name, w_kept_sum, w_kept_product, w_kept_less, w_kept_when, w_kept_let, w_kept_turns, w_kept_def, w_kept_use, w_kept_quote, w_kept_hole, w_kept_lift, w_kept_run, w_kept_number, w_kept_piece, fl_num, fl_name, fl_sum, fl_product, fl_less, fl_when, fl_let, fl_turns, fl_def, fl_use, fl_quote, fl_hole, fl_lift, fl_run, fl_number, fl_piece, fl_kept, fIn_T, fIn_Tn, inD_cons, inD_nil, ixN0, fl_i, List.all_cons, List.all_nil, Bool.and_true, Bool.and_self, Bool.or_false, Bool.false_or, Bool.true_or, Bool.or_true, Bool.not_true, Bool.not_false, dForZ, oVal, oNew, oNil, gLs, fDNew, fDCopy, dDGet, dDIn, onDic, dRetDic, dDPut, dNoX, dBad, dReSet, fAddOwn, fCall, D.noL, D.noLs, dOpOO, dOpEO, dOpOE, dIsiOwn, D.isSc, onStrs, dGet2, dctC, keyOf, gTs, gNs, dAsg, cut11, cut12, cut13, fSlC, dSelf, okM, dMethO, dChk, dMake, onObj, dFld, onFld, dPutFld, onObjS, lk_given, lk_value, lk_piece, lk_staged, lk_fresh, lk_with, putI_nil, putI_given, gStr, dRaise, dTryAs, dTryO, fSl_lo2, fSl_lo3, fSl_lo4, fSl_hi1, fSl_hi2, fSl_hi3]))
local macro_rules | `(tactic| walk_at "cm") => `(tactic| first | (unfold CMul; omega) | (unfold CDiv; omega) | (unfold CPow; omega) | decide | omega)
local macro_rules | `(tactic| walk_at "dr") => `(tactic| (simp only [dNext, dSet, dRet, dDrop, dIfS, dTest, dOp, dVar, dC, dNil, dCons, dConsS, dTup, dLst, dF, dCB, dAnd, dOr, dNot, dAndV, dOrV, dNotV, dIf, dUn, dSl, dNo, dPart, dCall, dSetF, fLst, fLc, dSrc, dForR, dRetOwn, dPutIx, dIxOwn, dApp, dLenOwn, dInOwn, dJoinOwn, dJoin, dIsi, dRng1,
  onVal, onVals, onBl, onInt, onMut, onOwn, onSome_s, onArgs, refs, putS, outs, dst0, okSet, Sl.mut, Sl.toD, Sl.isObj, D.items, fIx, fEq, fNe, fNeg, okEq_str, okEq_int, deq_refl, deq_int, atI0, atI1, atI2, atI3, atI4, atI5, atI_q, fSl1, gList, gTpl, gLen, gInt, gSum, dMaxD, fI, fI0, fAdd, gN, gMax2, gMin2, gStr, D.is_int, D.is_bool, D.is_str, D.is_tuple, D.is_list,
  List.map_cons, List.map_nil, List.length_cons, List.length_nil, List.cons_append, List.nil_append, List.getElem?_cons_zero, List.getElem?_cons_succ, List.set_cons_zero, List.set_cons_succ, List.replicate, Nat.reduceAdd, Nat.reduceSub, Nat.zero_add, Nat.sub_zero, ite_dec,
  if_true, if_false, Bool.false_eq_true, true_and, and_true, decide_true, List.nodup_nil, List.getElem?_nil, Nat.reduceLeDiff, Nat.add_eq, Nat.add_zero, reduceIte, List.Nodup, List.pairwise_cons, List.not_mem_nil, false_implies, implies_true, List.Pairwise.nil, w_num_name, w_num_sum, w_num_product, w_num_less, w_num_when, w_num_let, w_num_turns, w_num_def, w_num_use, w_num_quote, w_num_hole, w_num_lift, w_num_run, w_num_number, w_num_piece, w_num_kept, w_name_num, w_name_sum, w_name_product, w_name_less, w_name_when, w_name_let, w_name_turns, w_name_def, w_name_use, w_name_quote, w_name_hole, w_name_lift, w_name_run, w_name_number, w_name_piece, w_name_kept, w_sum_num, w_sum_name, w_sum_product, w_sum_less, w_sum_when, w_sum_let, w_sum_turns, w_sum_def, w_sum_use, w_sum_quote, w_sum_hole, w_sum_lift, w_sum_run, w_sum_number, w_sum_piece, w_sum_kept, w_product_num, w_product_name, w_product_sum, w_product_less, w_product_when, w_product_let, w_product_turns, w_product_def, w_product_use, w_product_quote, w_product_hole, w_product_lift, w_product_run, w_product_number, w_product_piece, w_product_kept, w_less_num, w_less_name, w_less_sum, w_less_product, w_less_when, w_less_let, w_less_turns, w_less_def, w_less_use, w_less_quote, w_less_hole, w_less_lift, w_less_run, w_less_number, w_less_piece, w_less_kept, w_when_num, w_when_name, w_when_sum, w_when_product, w_when_less, w_when_let, w_when_turns, w_when_def, w_when_use, w_when_quote, w_when_hole, w_when_lift, w_when_run, w_when_number, w_when_piece, w_when_kept, w_let_num, w_let_name, w_let_sum, w_let_product, w_let_less, w_let_when, w_let_turns, w_let_def, w_let_use, w_let_quote, w_let_hole, w_let_lift, w_let_run, w_let_number, w_let_piece, w_let_kept, w_turns_num, w_turns_name, w_turns_sum, w_turns_product, w_turns_less, w_turns_when, w_turns_let, w_turns_def, w_turns_use, w_turns_quote, w_turns_hole, w_turns_lift, w_turns_run, w_turns_number, w_turns_piece, w_turns_kept, w_def_num, w_def_name, w_def_sum, w_def_product, w_def_less, w_def_when, w_def_let, w_def_turns, w_def_use, w_def_quote, w_def_hole, w_def_lift, w_def_run, w_def_number, w_def_piece, w_def_kept, w_use_num, w_use_name, w_use_sum, w_use_product, w_use_less, w_use_when, w_use_let, w_use_turns, w_use_def, w_use_quote, w_use_hole, w_use_lift, w_use_run, w_use_number, w_use_piece, w_use_kept, w_quote_num, w_quote_name, w_quote_sum, w_quote_product, w_quote_less, w_quote_when, w_quote_let, w_quote_turns, w_quote_def, w_quote_use, w_quote_hole, w_quote_lift, w_quote_run, w_quote_number, w_quote_piece, w_quote_kept, w_hole_num, w_hole_name, w_hole_sum, w_hole_product, w_hole_less, w_hole_when, w_hole_let, w_hole_turns, w_hole_def, w_hole_use, w_hole_quote, w_hole_lift, w_hole_run, w_hole_number, w_hole_piece, w_hole_kept, w_lift_num, w_lift_name, w_lift_sum, w_lift_product, w_lift_less, w_lift_when, w_lift_let, w_lift_turns, w_lift_def, w_lift_use, w_lift_quote, w_lift_hole, w_lift_run, w_lift_number, w_lift_piece, w_lift_kept, w_run_num, w_run_name, w_run_sum, w_run_product, w_run_less, w_run_when, w_run_let, w_run_turns, w_run_def, w_run_use, w_run_quote, w_run_hole, w_run_lift, w_run_number, w_run_piece, w_run_kept, w_number_num, w_number_name, w_number_sum, w_number_product, w_number_less, w_number_when, w_number_let, w_number_turns, w_number_def, w_number_use, w_number_quote, w_number_hole, w_number_lift, w_number_run, w_number_piece, w_number_kept, w_piece_num, w_piece_name, w_piece_sum, w_piece_product, w_piece_less, w_piece_when, w_piece_let, w_piece_turns, w_piece_def, w_piece_use, w_piece_quote, w_piece_hole, w_piece_lift, w_piece_run, w_piece_number, w_piece_kept, w_kept_num, w_kept_name, w_kept_sum, w_kept_product, w_kept_less, w_kept_when, w_kept_let, w_kept_turns, w_kept_def, w_kept_use, w_kept_quote, w_kept_hole, w_kept_lift, w_kept_run, w_kept_number, w_kept_piece, fl_num, fl_name, fl_sum, fl_product, fl_less, fl_when, fl_let, fl_turns, fl_def, fl_use, fl_quote, fl_hole, fl_lift, fl_run, fl_number, fl_piece, fl_kept, fIn_T, fIn_Tn, inD_cons, inD_nil, ixN0, fl_i, List.all_cons, List.all_nil, Bool.and_true, Bool.and_self, Bool.or_false, Bool.false_or, Bool.true_or, Bool.or_true, Bool.not_true, Bool.not_false, dForZ, oVal, oNew, oNil, gLs, fDNew, fDCopy, dDGet, dDIn, onDic, dRetDic, dDPut, dNoX, dBad, dReSet, fAddOwn, fCall, D.noL, D.noLs, dOpOO, dOpEO, dOpOE, dIsiOwn, D.isSc, onStrs, dGet2, dctC, keyOf, gTs, gNs, dAsg, cut11, cut12, cut13, fSlC, dSelf, okM, dMethO, dChk, dMake, onObj, dFld, onFld, dPutFld, onObjS, lk_given, lk_value, lk_piece, lk_staged, lk_fresh, lk_with, putI_nil, putI_given, gStr, dRaise, dTryAs, dTryO, fSl_lo2, fSl_lo3, fSl_lo4, fSl_hi1, fSl_hi2, fSl_hi3]))
section
variable {P : Program} {w : World} {K : PySem.W.Frag} {mg : Str → Option Value} {base : Heap}
theorem ok_Maker_staged {L f : Nat} (hL : 65 ≤ L) (g : G K mg)
    (h_Maker_piece : FnR P w K mg base (L) g.a_Maker_piece g.d_Maker_piece ["self", "term", "names"] (liftSp K (spPce g.C_Maker f)))
    (h_Maker_value : FnR P w K mg base (L) g.a_Maker_value g.d_Maker_value ["self", "term", "names"] (liftSp K (spValE g.C_Maker g.C_TooGreat f)))
    (h_depth_of : FnR P w K mg base (65) g.a_depth_of g.d_depth_of ["term"] (liftSp K (spDepth 64)))
    (h_size_of : FnR P w K mg base (65) g.a_size_of g.d_size_of ["term"] (liftSp K (spSize 64)))
    : FnR P w K mg base (L + 1) g.a_Maker_staged g.d_Maker_staged ["self", "term", "names"] (liftSp K (spStgE g.C_Maker g.C_TooGreat f)) := by
  refine okD g.p_Maker_staged.F sc_Maker_staged (by rintro ss E Q ⟨t, ρ, k, rfl, _⟩; rfl) fun cdv A outer s H E hr => ⟨_, _, (pss_cons (ps_if (pt_cmpR (opEq hr.un64) (pe_ix ix_seq (pv 1) pe_int (fun _ _ => rfl)) pe_str (nomark _)) (pss_cons (ps_set (i := 3) sc_Maker_staged.nd rfl (by first | exact Or.inl rfl | exact Or.inr rfl) (pe_methR (pv 0) g.cl_Maker g.m_Maker_piece h_Maker_piece (hr.mono (by omega)) g.p_Maker_piece.b passE (pa_cons (pe_ix ix_seq (pv 1) pe_int (fun _ _ => rfl)) (pa_cons (pv 2) pa_nil)))) (pss_cons (ps_if (PW.pt (pw_or (pt_cmpR op_gt (pe_callR h_size_of (hr.mono (by omega)) rfl g.p_size_of.g g.p_size_of.F.kp g.p_size_of.b passE (pa_cons (pv 3) pa_nil)) (pe_glob (v := .int 2000) rfl g.c_MOST_PARTS ⟨_, rfl⟩) (nomark _)) (pw_or1 (pt_cmpR op_gt (pe_callR h_depth_of (hr.mono (by omega)) rfl g.p_depth_of.g g.p_depth_of.F.kp g.p_depth_of.b passE (pa_cons (pv 3) pa_nil)) (pe_glob (v := .int 30) rfl g.c_MOST_DEEP ⟨_, rfl⟩) (nomark _))))) (pss_one (ps_raise rfl (takes_of rfl rfl rfl rfl) (pmk_own PySem.F.excBase_ValueError g.x_TooGreat g.g_TooGreat g.k_TooGreat (raises_own g.y_TooGreat g.z_TooGreat) rfl))) pss_nil) (pss_one (ps_ret (pv 3))))) pss_nil) (pss_cons (ps_if (pt_cmpR (opEq hr.un64) (pe_ix ix_seq (pv 1) pe_int (fun _ _ => rfl)) pe_str (nomark _)) (pss_one (ps_ret (pe_tup (pa_cons pe_str (pa_cons (pe_methR (pv 0) g.cl_Maker g.m_Maker_value h_Maker_value (hr.mono (by omega)) g.p_Maker_value.b passE (pa_cons (pe_ix ix_seq (pv 1) pe_int (fun _ _ => rfl)) (pa_cons (pv 2) pa_nil))) pa_nil))))) pss_nil) (pss_one (ps_ret (pe_methR (pv 0) g.cl_Maker g.m_Maker_value h_Maker_value (hr.mono (by omega)) g.p_Maker_value.b passE (pa_cons (pe_methR (pv 0) g.cl_Maker g.m_Maker_value h_Maker_value (hr.mono (by omega)) g.p_Maker_value.b passE (pa_cons (pe_ix ix_seq (pv 1) pe_int (fun _ _ => rfl)) (pa_cons (pv 2) pa_nil))) (pa_cons pe_dnewK pa_nil))))))), (ss_seq (ss_if (st_test (se_op sEq (se_op sIx se_var se_int) se_str)) (ss_seq (ss_set (se_meth (sa_cons (se_op sIx se_var se_int) (sa_cons se_var sa_nil)))) (ss_seq (ss_if (st_or (st_test (se_op sGt (se_call (sa_cons se_var sa_nil)) se_int)) (st_test (se_op sGt (se_call (sa_cons se_var sa_nil)) se_int))) (ss_raise (C := g.C_TooGreat)) ss_next) (ss_ret se_var))) ss_next) (ss_seq (ss_if (st_test (se_op sEq (se_op sIx se_var se_int) se_str)) (ss_ret (se_tup (sa_cons se_str (sa_cons (se_meth (sa_cons (se_op sIx se_var se_int) (sa_cons se_var sa_nil))) sa_nil)))) ss_next) (ss_ret (se_meth (sa_cons (se_meth (sa_cons (se_op sIx se_var se_int) (sa_cons se_var sa_nil))) (sa_cons (se_f sf_dnew) sa_nil)))))), ?_⟩
  rintro ss Ed Q ⟨t, ρ, k, rfl, hs, (⟨v, k2, h, hq⟩ | ⟨h, hE⟩)⟩
  · cases t <;> simp only [isSt, Bool.false_eq_true] at hs <;> simp only [evV] at h
    case quote a =>
      obtain ⟨p, hp, h⟩ := bindR_ok h
      obtain ⟨hd, h⟩ := chkR_of h
      split at h
      · cases h
      rename_i hg
      simp only [Option.some.injEq, Prod.mk.injEq] at h
      obtain ⟨rfl, rfl⟩ := h
      simp only [Tm.toD, S, vD, Vl.rp_pc] at hq ⊢
      refine x_seq fun R hR => ?_
      walk_at "dr"
      refine x_seq fun R hR => ?_
      walk_at "dr"
      refine ⟨a, ρ, k, _, _, rfl, hp, ?_⟩
      walk_at "dr"
      refine hR _ ?_
      clear hR
      refine x_seq fun R hR => ?_
      walk_at "dr"
      refine ⟨p.1, rfl, hd, ?_⟩
      walk_at "dr"
      rw [if_neg (by omega)]
      refine ⟨p.1, rfl, hd, ?_⟩
      walk_at "dr"
      rw [if_neg (by omega)]
      refine hR _ ?_
      walk_at "dr"
      exact hq
    case lift a =>
      obtain ⟨va, ha, h⟩ := bindR_ok h
      obtain ⟨i, k1, rfl, i0, i1, h⟩ := numR_of h
      simp only [Option.some.injEq, Prod.mk.injEq] at h
      obtain ⟨rfl, rfl⟩ := h
      simp only [Tm.toD, S, vD, Vl.rp_pc] at hq ⊢
      refine x_seq fun R hR => ?_
      walk_at "dr"
      refine hR _ ?_
      refine x_seq fun R hR => ?_
      walk_at "dr"
      refine ⟨a, ρ, k, rfl, .inl ⟨_, _, ha, ?_⟩⟩
      walk_at "dr"
      simp only [vD, Vl.rp_num]
      exact hq
    case run a =>
      obtain ⟨va, ha, h⟩ := bindR_ok h
      obtain ⟨p, k1, rfl, h⟩ := pcR_of h
      simp only [Tm.toD, S] at hq ⊢
      refine x_seq fun R hR => ?_
      walk_at "dr"
      refine hR _ ?_
      refine x_seq fun R hR => ?_
      walk_at "dr"
      refine hR _ ?_
      walk_at "dr"
      refine ⟨a, ρ, k, rfl, .inl ⟨_, _, ha, ?_⟩⟩
      walk_at "dr"
      refine ⟨p, [], k1, ?_, .inl ⟨_, _, h, ?_⟩⟩
      · simp only [vD, Vl.rp_pc]; rfl
      walk_at "dr"
      exact hq
  · cases t <;> simp only [isSt, Bool.false_eq_true] at hs <;> simp only [evG] at h
    case quote a =>
      obtain ⟨p, hp, hd, hg⟩ := h
      simp only [Tm.toD, S]
      refine x_seq fun R hR => ?_
      walk_at "dr"
      refine x_seq fun R hR => ?_
      walk_at "dr"
      refine ⟨a, ρ, k, _, _, rfl, hp, ?_⟩
      walk_at "dr"
      refine hR _ ?_
      clear hR
      refine x_seq fun R hR => ?_
      walk_at "dr"
      refine ⟨p.1, rfl, hd, ?_⟩
      walk_at "dr"
      by_cases h2 : 2000 < p.1.size
      · rw [if_pos (by omega)]
        exact hE
      · rw [if_neg (by omega)]
        refine ⟨p.1, rfl, hd, ?_⟩
        walk_at "dr"
        rw [if_pos (by omega)]
        exact hE
    case run a =>
      simp only [Tm.toD, S]
      refine x_seq fun R hR => ?_
      walk_at "dr"
      refine hR _ ?_
      refine x_seq fun R hR => ?_
      walk_at "dr"
      refine hR _ ?_
      walk_at "dr"
      exact ⟨a, ρ, k, rfl, .inr ⟨h, hE⟩⟩
end
end Qh

namespace Qh
open PySem PySem.Spec PyProof.Rows L2 Dq
local macro_rules | `(tactic| walk_at "dq") => `(tactic| (simp only [dSeq, dNext, dSet, dRet, dDrop, dIfS, dTest, dOp, dVar, dC, dNil, dCons, dConsS, dTup, dLst, dF, dCB, dAnd, dOr, dNot, dAndV, dOrV, dNotV, dIf, dUn, dSl, dNo, dPart, dCall, dSetF, fLst, fLc, dSrc, dForR, dRetOwn, dPutIx, dIxOwn, dApp, dLenOwn, dInOwn, dJoinOwn, dJoin, dIsi, dRng1,
  onVal, onVals, onBl, onInt, onMut, onOwn, onSome_s, onArgs, refs, putS, outs, dst0, okSet, Sl.mut, Sl.toD, Sl.isObj, D.items, fIx, fEq, fNe, fNeg, okEq_str, okEq_int, deq_refl, deq_int, atI0, atI1, atI2, atI3, atI4, atI5, atI_q, fSl1, gList, gTpl, gLen, gInt, gSum, dMaxD, fI, fI0, fAdd, gN, gMax2, gMin2, gStr, D.is_int, D.is_bool, D.is_str, D.is_tuple, D.is_list,
  List.map_cons, List.map_nil, List.length_cons, List.length_nil, List.cons_append, List.nil_append, List.getElem?_cons_zero, List.getElem?_cons_succ, List.set_cons_zero, List.set_cons_succ, List.replicate, Nat.reduceAdd, Nat.reduceSub, Nat.zero_add, Nat.sub_zero, ite_dec,
  if_true, if_false, Bool.false_eq_true, true_and, and_true, decide_true, List.nodup_nil, List.getElem?_nil, Nat.reduceLeDiff, Nat.add_eq, Nat.add_zero, reduceIte, List.Nodup, List.pairwise_cons, List.not_mem_nil, false_implies, implies_true, List.Pairwise.nil, w_num_name, w_num_sum, w_num_product, w_num_less, w_num_when, w_num_let, w_num_turns, w_num_def, w_num_use, w_num_quote, w_num_hole, w_num_lift, w_num_run, w_num_number, w_num_piece, w_num_kept, w_name_num, w_name_sum, w_name_product, w_name_less, w_name_when, w_name_let, w_name_turns, w_name_def, w_name_use, w_name_quote, w_name_hole, w_name_lift, w_name_run, w_name_number, w_name_piece, w_name_kept, w_sum_num, w_sum_name, w_sum_product, w_sum_less, w_sum_when, w_sum_let, w_sum_turns, w_sum_def, w_sum_use, w_sum_quote, w_sum_hole, w_sum_lift, w_sum_run, w_sum_number, w_sum_piece, w_sum_kept, w_product_num, w_product_name, w_product_sum, w_product_less, w_product_when, w_product_let, w_product_turns, w_product_def, w_product_use, w_product_quote, w_product_hole, w_product_lift, w_product_run, w_product_number, w_product_piece, w_product_kept, w_less_num, w_less_name, w_less_sum, w_less_product, w_less_when, w_less_let, w_less_turns, w_less_def, w_less_use, w_less_quote, w_less_hole, w_less_lift, w_less_run, w_less_number, w_less_piece, w_less_kept, w_when_num, w_when_name, w_when_sum, w_when_product, w_when_less, w_when_let, w_when_turns, w_when_def, w_when_use, w_when_quote, w_when_hole, w_when_lift, w_when_run, w_when_number, w_when_piece, w_when_kept, w_let_num, w_let_name, w_let_sum, w_let_product, w_let_less, w_let_when, w_let_turns, w_let_def, w_let_use, w_let_quote, w_let_hole, w_let_lift, w_let_run, w_let_number, w_let_piece, w_let_kept, w_turns_num, w_turns_name, w_turns_sum, w_turns_product, w_turns_less, w_turns_when, w_turns_let, w_turns_def, w_turns_use, w_turns_quote, w_turns_hole, w_turns_lift, w_turns_run, w_turns_number, w_turns_piece, w_turns_kept, w_def_num, w_def_name, w_def_sum, w_def_product, w_def_less, w_def_when, w_def_let, w_def_turns, w_def_use, w_def_quote, w_def_hole, w_def_lift, w_def_run, w_def_number, w_def_piece, w_def_kept, w_use_num, w_use_name, w_use_sum, w_use_product, w_use_less, w_use_when, w_use_let, w_use_turns, w_use_def, w_use_quote, w_use_hole, w_use_lift, w_use_run, w_use_number, w_use_piece, w_use_kept, w_quote_num, w_quote_name, w_quote_sum, w_quote_product, w_quote_less, w_quote_when, w_quote_let, w_quote_turns, w_quote_def, w_quote_use, w_quote_hole, w_quote_lift, w_quote_run, w_quote_number, w_quote_piece, w_quote_kept, w_hole_num, w_hole_name, w_hole_sum, w_hole_product, w_hole_less, w_hole_when, w_hole_let, w_hole_turns, w_hole_def, w_hole_use, w_hole_quote, w_hole_lift, w_hole_run, w_hole_number, w_hole_piece, w_hole_kept, w_lift_num, w_lift_name, w_lift_sum, w_lift_product, w_lift_less, w_lift_when, w_lift_let, w_lift_turns, w_lift_def, w_lift_use, w_lift_quote, w_lift_hole, w_lift_run, w_lift_number, w_lift_piece, w_lift_kept, w_run_num, w_run_name, w_run_sum, w_run_product, w_run_less, w_run_when, w_run_let, w_run_turns, w_run_def, w_run_use, w_run_quote, w_run_hole, w_run_lift, w_run_number, w_run_piece, w_run_kept, w_number_num, w_number_name, w_number_sum, w_number_product, w_number_less, w_number_when, w_number_let, w_number_turns, w_number_def, w_number_use, w_number_quote, w_number_hole, w_number_lift, w_number_run, w_number_piece, w_number_kept, w_piece_num, w_piece_name, w_piece_sum, w_piece_product, w_piece_less, w_piece_when, w_piece_let, w_piece_turns, w_piece_def, w_piece_use, w_piece_quote, w_piece_hole, w_piece_lift, w_piece_run, w_piece_number, w_piece_kept, w_kept_num, w_kept_name, w_kept_sum, w_kept_product, w_kept_less, w_kept_when, w_kept_let, w_kept_turns, w_kept_def, w_kept_use, w_kept_quote, w_kept_hole, w_kept_lift, w_kept_run, w_kept_number, w_kept_piece, fl_num, fl_name, fl_sum, fl_product, fl_less, fl_when, fl_let, fl_turns, fl_def, fl_use, fl_quote, fl_hole, fl_lift, fl_run, fl_number, fl_piece, fl_kept, fIn_T, fIn_Tn, inD_cons, inD_nil, ixN0, fl_i, List.all_cons, List.all_nil, Bool.and_true, Bool.and_self, Bool.or_false, Bool.false_or, Bool.true_or, Bool.or_true, Bool.not_true, Bool.not_false, dForZ, oVal, oNew, oNil, gLs, fDNew, fDCopy, dDGet, dDIn, onDic, dRetDic, dDPut, dNoX, dBad, dReSet, fAddOwn, fCall, D.noL, D.noLs, dOpOO, dOpEO, dOpOE, dIsiOwn, D.isSc, onStrs, dGet2, dctC, keyOf, gTs, gNs, dAsg, cut11, cut12, cut13, fSlC, dSelf, okM, dMethO, dChk, dMake, onObj, dFld, onFld, dPutFld, onObjS, lk_given, lk_value, lk_piece, lk_staged, lk_fresh, lk_with, putI_nil, putI_given, gStr, dRaise, dTryAs, dTryO, fSl_lo2, fSl_lo3, fSl_lo4, fSl_hi1, fSl_hi2, fSl_hi3]))
local macro_rules | `(tactic| walk_at "cm") => `(tactic| first | (unfold CMul; omega) | (unfold CDiv; omega) | (unfold CPow; omega) | decide | omega)
local macro_rules | `(tactic| walk_at "dr") => `(tactic| (simp only [dNext, dSet, dRet, dDrop, dIfS, dTest, dOp, dVar, dC, dNil, dCons, dConsS, dTup, dLst, dF, dCB, dAnd, dOr, dNot, dAndV, dOrV, dNotV, dIf, dUn, dSl, dNo, dPart, dCall, dSetF, fLst, fLc, dSrc, dForR, dRetOwn, dPutIx, dIxOwn, dApp, dLenOwn, dInOwn, dJoinOwn, dJoin, dIsi, dRng1,
  onVal, onVals, onBl, onInt, onMut, onOwn, onSome_s, onArgs, refs, putS, outs, dst0, okSet, Sl.mut, Sl.toD, Sl.isObj, D.items, fIx, fEq, fNe, fNeg, okEq_str, okEq_int, deq_refl, deq_int, atI0, atI1, atI2, atI3, atI4, atI5, atI_q, fSl1, gList, gTpl, gLen, gInt, gSum, dMaxD, fI, fI0, fAdd, gN, gMax2, gMin2, gStr, D.is_int, D.is_bool, D.is_str, D.is_tuple, D.is_list,
  List.map_cons, List.map_nil, List.length_cons, List.length_nil, List.cons_append, List.nil_append, List.getElem?_cons_zero, List.getElem?_cons_succ, List.set_cons_zero, List.set_cons_succ, List.replicate, Nat.reduceAdd, Nat.reduceSub, Nat.zero_add, Nat.sub_zero, ite_dec,
  if_true, if_false, Bool.false_eq_true, true_and, and_true, decide_true, List.nodup_nil, List.getElem?_nil, Nat.reduceLeDiff, Nat.add_eq, Nat.add_zero, reduceIte, List.Nodup, List.pairwise_cons, List.not_mem_nil, false_implies, implies_true, List.Pairwise.nil, w_num_name, w_num_sum, w_num_product, w_num_less, w_num_when, w_num_let, w_num_turns, w_num_def, w_num_use, w_num_quote, w_num_hole, w_num_lift, w_num_run, w_num_number, w_num_piece, w_num_kept, w_name_num, w_name_sum, w_name_product, w_name_less, w_name_when, w_name_let, w_name_turns, w_name_def, w_name_use, w_name_quote, w_name_hole, w_name_lift, w_name_run, w_name_number, w_name_piece, w_name_kept, w_sum_num, w_sum_name, w_sum_product, w_sum_less, w_sum_when, w_sum_let, w_sum_turns, w_sum_def, w_sum_use, w_sum_quote, w_sum_hole, w_sum_lift, w_sum_run, w_sum_number, w_sum_piece, w_sum_kept, w_product_num, w_product_name, w_product_sum, w_product_less, w_product_when, w_product_let, w_product_turns, w_product_def, w_product_use, w_product_quote, w_product_hole, w_product_lift, w_product_run, w_product_number, w_product_piece, w_product_kept, w_less_num, w_less_name, w_less_sum, w_less_product, w_less_when, w_less_let, w_less_turns, w_less_def, w_less_use, w_less_quote, w_less_hole, w_less_lift, w_less_run, w_less_number, w_less_piece, w_less_kept, w_when_num, w_when_name, w_when_sum, w_when_product, w_when_less, w_when_let, w_when_turns, w_when_def, w_when_use, w_when_quote, w_when_hole, w_when_lift, w_when_run, w_when_number, w_when_piece, w_when_kept, w_let_num, w_let_name, w_let_sum, w_let_product, w_let_less, w_let_when, w_let_turns, w_let_def, w_let_use, w_let_quote, w_let_hole, w_let_lift, w_let_run, w_let_number, w_let_piece, w_let_kept, w_turns_num, w_turns_name, w_turns_sum, w_turns_product, w_turns_less, w_turns_when, w_turns_let, w_turns_def, w_turns_use, w_turns_quote, w_turns_hole, w_turns_lift, w_turns_run, w_turns_number, w_turns_piece, w_turns_kept, w_def_num, w_def_name, w_def_sum, w_def_product, w_def_less, w_def_when, w_def_let, w_def_turns, w_def_use, w_def_quote, w_def_hole, w_def_lift, w_def_run, w_def_number, w_def_piece, w_def_kept, w_use_num, w_use_name, w_use_sum, w_use_product, w_use_less, w_use_when, w_use_let, w_use_turns, w_use_def, w_use_quote, w_use_hole, w_use_lift, w_use_run, w_use_number, w_use_piece, w_use_kept, w_quote_num, w_quote_name, w_quote_sum, w_quote_product, w_quote_less, w_quote_when, w_quote_let, w_quote_turns, w_quote_def, w_quote_use, w_quote_hole, w_quote_lift, w_quote_run, w_quote_number, w_quote_piece, w_quote_kept, w_hole_num, w_hole_name, w_hole_sum, w_hole_product, w_hole_less, w_hole_when, w_hole_let, w_hole_turns, w_hole_def, w_hole_use, w_hole_quote, w_hole_lift, w_hole_run, w_hole_number, w_hole_piece, w_hole_kept, w_lift_num, w_lift_name, w_lift_sum, w_lift_product, w_lift_less, w_lift_when, w_lift_let, w_lift_turns, w_lift_def, w_lift_use, w_lift_quote, w_lift_hole, w_lift_run, w_lift_number, w_lift_piece, w_lift_kept, w_run_num, w_run_name, w_run_sum, w_run_product, w_run_less, w_run_when, w_run_let, w_run_turns, w_run_def, w_run_use, w_run_quote, w_run_hole, w_run_lift, w_run_number, w_run_piece, w_run_kept, w_number_num, w_number_name, w_number_sum, w_number_product, w_number_less, w_number_when, w_number_let, w_number_turns, w_number_def, w_number_use, w_number_quote, w_number_hole, w_number_lift, w_number_run, w_number_piece, w_number_kept, w_piece_num, w_piece_name, w_piece_sum, w_piece_product, w_piece_less, w_piece_when, w_piece_let, w_piece_turns, w_piece_def, w_piece_use, w_piece_quote, w_piece_hole, w_piece_lift, w_piece_run, w_piece_number, w_piece_kept, w_kept_num, w_kept_name, w_kept_sum, w_kept_product, w_kept_less, w_kept_when, w_kept_let, w_kept_turns, w_kept_def, w_kept_use, w_kept_quote, w_kept_hole, w_kept_lift, w_kept_run, w_kept_number, w_kept_piece, fl_num, fl_name, fl_sum, fl_product, fl_less, fl_when, fl_let, fl_turns, fl_def, fl_use, fl_quote, fl_hole, fl_lift, fl_run, fl_number, fl_piece, fl_kept, fIn_T, fIn_Tn, inD_cons, inD_nil, ixN0, fl_i, List.all_cons, List.all_nil, Bool.and_true, Bool.and_self, Bool.or_false, Bool.false_or, Bool.true_or, Bool.or_true, Bool.not_true, Bool.not_false, dForZ, oVal, oNew, oNil, gLs, fDNew, fDCopy, dDGet, dDIn, onDic, dRetDic, dDPut, dNoX, dBad, dReSet, fAddOwn, fCall, D.noL, D.noLs, dOpOO, dOpEO, dOpOE, dIsiOwn, D.isSc, onStrs, dGet2, dctC, keyOf, gTs, gNs, dAsg, cut11, cut12, cut13, fSlC, dSelf, okM, dMethO, dChk, dMake, onObj, dFld, onFld, dPutFld, onObjS, lk_given, lk_value, lk_piece, lk_staged, lk_fresh, lk_with, putI_nil, putI_given, gStr, dRaise, dTryAs, dTryO, fSl_lo2, fSl_lo3, fSl_lo4, fSl_hi1, fSl_hi2, fSl_hi3]))
section
variable {P : Program} {w : World} {K : PySem.W.Frag} {mg : Str → Option Value} {base : Heap}
theorem ok_Maker_piece {L f : Nat} (hL : 1 ≤ L) (g : G K mg)
    (h_Maker_fresh : FnR P w K mg base (1) g.a_Maker_fresh g.d_Maker_fresh ["self"] (liftSp K (spFresh g.C_Maker)))
    (h_Maker_piece : FnR P w K mg base (L) g.a_Maker_piece g.d_Maker_piece ["self", "term", "names"] (liftSp K (spPce g.C_Maker f)))
    (h_Maker_value : FnR P w K mg base (L) g.a_Maker_value g.d_Maker_value ["self", "term", "names"] (liftSp K (spValE g.C_Maker g.C_TooGreat f)))
    (h_Maker_with_name : FnR P w K mg base (1) g.a_Maker_with_name g.d_Maker_with_name ["self", "names", "name", "value"] (liftSp K (spWith g.C_Maker)))
    : FnR P w K mg base (L + 1) g.a_Maker_piece g.d_Maker_piece ["self", "term", "names"] (liftSp K (spPce g.C_Maker (f + 1))) := by
  refine okD g.p_Maker_piece.F sc_Maker_piece (by rintro ss E Q ⟨t, ρ, k, v, k2, rfl, _⟩; rfl) fun cdv A outer s H E hr => ⟨_, _, (pss_cons (ps_set (i := 3) sc_Maker_piece.nd rfl (by first | exact Or.inl rfl | exact Or.inr rfl) (pe_ix ix_seq (pv 1) pe_int (fun _ _ => rfl))) (pss_cons (ps_if (pt_cmpR (opEq hr.un64) (pv 3) pe_str (nomark _)) (pss_one (ps_ret (pv 1))) pss_nil) (pss_cons (ps_if (pt_cmpR (opEq hr.un64) (pv 3) pe_str (nomark _)) (pss_one (ps_ret (pe_tup (pa_cons pe_str (pa_cons (pe_dget hr.un1 (pv 2) (pe_ix ix_seq (pv 1) pe_int (fun _ _ => rfl)) (fun _ _ => rfl)) pa_nil))))) pss_nil) (pss_cons (ps_if (pt_cmpR (opEq hr.un64) (pv 3) pe_str (nomark _)) (pss_one (ps_ret (pe_methR (pv 0) g.cl_Maker g.m_Maker_value h_Maker_value (hr.mono (by omega)) g.p_Maker_value.b passE (pa_cons (pe_ix ix_seq (pv 1) pe_int (fun _ _ => rfl)) (pa_cons (pv 2) pa_nil))))) pss_nil) (pss_cons (ps_if (pt_cmpR (opEq hr.un64) (pv 3) pe_str (nomark _)) (pss_cons (ps_set (i := 4) sc_Maker_piece.nd rfl (by first | exact Or.inl rfl | exact Or.inr rfl) (pe_methR0 (pv 0) g.cl_Maker g.m_Maker_fresh h_Maker_fresh (hr.mono (by omega)) g.p_Maker_fresh.b passE)) (pss_cons (ps_set (i := 5) sc_Maker_piece.nd rfl (by first | exact Or.inl rfl | exact Or.inr rfl) (pe_methR (pv 0) g.cl_Maker g.m_Maker_piece h_Maker_piece (hr.mono (by omega)) g.p_Maker_piece.b passE (pa_cons (pe_ix ix_seq (pv 1) pe_int (fun _ _ => rfl)) (pa_cons (pv 2) pa_nil)))) (pss_one (ps_ret (pe_tup (pa_cons pe_str (pa_cons (pv 4) (pa_cons (pv 5) (pa_cons (pe_methR (pv 0) g.cl_Maker g.m_Maker_piece h_Maker_piece (hr.mono (by omega)) g.p_Maker_piece.b passE (pa_cons (pe_ix ix_seq (pv 1) pe_int (fun _ _ => rfl)) (pa_cons (pe_methR (pv 0) g.cl_Maker g.m_Maker_with_name h_Maker_with_name (hr.mono (by omega)) g.p_Maker_with_name.b passE (pa_cons (pv 2) (pa_cons (pe_ix ix_seq (pv 1) pe_int (fun _ _ => rfl)) (pa_cons (pv 4) pa_nil)))) pa_nil))) pa_nil))))))))) pss_nil) (pss_cons (ps_if (pt_cmpR (opEq hr.un64) (pv 3) pe_str (nomark _)) (pss_cons (ps_set (i := 4) sc_Maker_piece.nd rfl (by first | exact Or.inl rfl | exact Or.inr rfl) (pe_methR0 (pv 0) g.cl_Maker g.m_Maker_fresh h_Maker_fresh (hr.mono (by omega)) g.p_Maker_fresh.b passE)) (pss_cons (ps_set (i := 5) sc_Maker_piece.nd rfl (by first | exact Or.inl rfl | exact Or.inr rfl) (pe_methR (pv 0) g.cl_Maker g.m_Maker_piece h_Maker_piece (hr.mono (by omega)) g.p_Maker_piece.b passE (pa_cons (pe_ix ix_seq (pv 1) pe_int (fun _ _ => rfl)) (pa_cons (pv 2) pa_nil)))) (pss_one (ps_ret (pe_tup (pa_cons pe_str (pa_cons (pe_ix ix_seq (pv 1) pe_int (fun _ _ => rfl)) (pa_cons (pv 4) (pa_cons (pv 5) (pa_cons (pe_methR (pv 0) g.cl_Maker g.m_Maker_piece h_Maker_piece (hr.mono (by omega)) g.p_Maker_piece.b passE (pa_cons (pe_ix ix_seq (pv 1) pe_int (fun _ _ => rfl)) (pa_cons (pe_methR (pv 0) g.cl_Maker g.m_Maker_with_name h_Maker_with_name (hr.mono (by omega)) g.p_Maker_with_name.b passE (pa_cons (pv 2) (pa_cons (pe_ix ix_seq (pv 1) pe_int (fun _ _ => rfl)) (pa_cons (pv 4) pa_nil)))) pa_nil))) pa_nil)))))))))) pss_nil) (pss_cons (ps_if (pt_cmpR (opEq hr.un64) (pv 3) pe_str (nomark _)) (pss_cons (ps_set (i := 6) sc_Maker_piece.nd rfl (by first | exact Or.inl rfl | exact Or.inr rfl) (pe_methR0 (pv 0) g.cl_Maker g.m_Maker_fresh h_Maker_fresh (hr.mono (by omega)) g.p_Maker_fresh.b passE)) (pss_cons (ps_set (i := 4) sc_Maker_piece.nd rfl (by first | exact Or.inl rfl | exact Or.inr rfl) (pe_methR0 (pv 0) g.cl_Maker g.m_Maker_fresh h_Maker_fresh (hr.mono (by omega)) g.p_Maker_fresh.b passE)) (pss_cons (ps_set (i := 7) sc_Maker_piece.nd rfl (by first | exact Or.inl rfl | exact Or.inr rfl) (pe_methR (pv 0) g.cl_Maker g.m_Maker_piece h_Maker_piece (hr.mono (by omega)) g.p_Maker_piece.b passE (pa_cons (pe_ix ix_seq (pv 1) pe_int (fun _ _ => rfl)) (pa_cons (pe_methR (pv 0) g.cl_Maker g.m_Maker_with_name h_Maker_with_name (hr.mono (by omega)) g.p_Maker_with_name.b passE (pa_cons (pv 2) (pa_cons (pe_ix ix_seq (pv 1) pe_int (fun _ _ => rfl)) (pa_cons (pv 4) pa_nil)))) pa_nil)))) (pss_one (ps_ret (pe_tup (pa_cons pe_str (pa_cons (pv 6) (pa_cons (pv 4) (pa_cons pe_str (pa_cons (pv 7) (pa_cons (pe_methR (pv 0) g.cl_Maker g.m_Maker_piece h_Maker_piece (hr.mono (by omega)) g.p_Maker_piece.b passE (pa_cons (pe_ix ix_seq (pv 1) pe_int (fun _ _ => rfl)) (pa_cons (pe_methR (pv 0) g.cl_Maker g.m_Maker_with_name h_Maker_with_name (hr.mono (by omega)) g.p_Maker_with_name.b passE (pa_cons (pv 2) (pa_cons (pe_ix ix_seq (pv 1) pe_int (fun _ _ => rfl)) (pa_cons (pv 6) pa_nil)))) pa_nil))) pa_nil)))))))))))) pss_nil) (pss_cons (ps_if (pt_cmpR (opEq hr.un64) (pv 3) pe_str (nomark _)) (pss_one (ps_ret (pe_tup (pa_cons pe_str (pa_cons (pe_dget hr.un1 (pv 2) (pe_ix ix_seq (pv 1) pe_int (fun _ _ => rfl)) (fun _ _ => rfl)) (pa_cons (pe_methR (pv 0) g.cl_Maker g.m_Maker_piece h_Maker_piece (hr.mono (by omega)) g.p_Maker_piece.b passE (pa_cons (pe_ix ix_seq (pv 1) pe_int (fun _ _ => rfl)) (pa_cons (pv 2) pa_nil))) pa_nil)))))) pss_nil) (pss_one (ps_ret (pe_op opAdd (pe_tup (pa_cons (pv 3) pa_nil)) (pe_callTy crTup rfl g.b_tuple (by decide +kernel) (pa_cons (pe_lc (own := [("part", 8)]) (g := gName 8) (tt := _) rfl sc_Maker_piece.nd (pi_any (pe_slice slA (pv 1) (po_some pe_int) po_none)) (blkOk_by (own := [("part", 8)]) (N := N_Maker_piece) (sc := defScope s_Maker_piece) (by decide +kernel)) (fun _ _ _ _ _ => pg_name (i := 8) sc_Maker_piece.nd rfl (Or.inl rfl)) (fun _ _ _ _ _ => pts_nil) (fun _ _ _ _ _ => (pe_methR (pv 0) g.cl_Maker g.m_Maker_piece h_Maker_piece (hr.mono (by omega)) g.p_Maker_piece.b passL (pa_cons (pv 8) (pa_cons (pv 2) pa_nil))))) pa_nil))))))))))))), (ss_seq (ss_set (se_op sIx se_var se_int)) (ss_seq (ss_if (st_test (se_op sEq se_var se_str)) (ss_ret se_var) ss_next) (ss_seq (ss_if (st_test (se_op sEq se_var se_str)) (ss_ret (se_tup (sa_cons se_str (sa_cons (se_dget se_var (se_op sIx se_var se_int)) sa_nil)))) ss_next) (ss_seq (ss_if (st_test (se_op sEq se_var se_str)) (ss_ret (se_meth (sa_cons (se_op sIx se_var se_int) (sa_cons se_var sa_nil)))) ss_next) (ss_seq (ss_if (st_test (se_op sEq se_var se_str)) (ss_seq (ss_set (se_meth sa_nil)) (ss_seq (ss_set (se_meth (sa_cons (se_op sIx se_var se_int) (sa_cons se_var sa_nil)))) (ss_ret (se_tup (sa_cons se_str (sa_cons se_var (sa_cons se_var (sa_cons (se_meth (sa_cons (se_op sIx se_var se_int) (sa_cons (se_meth (sa_cons se_var (sa_cons (se_op sIx se_var se_int) (sa_cons se_var sa_nil)))) sa_nil))) sa_nil)))))))) ss_next) (ss_seq (ss_if (st_test (se_op sEq se_var se_str)) (ss_seq (ss_set (se_meth sa_nil)) (ss_seq (ss_set (se_meth (sa_cons (se_op sIx se_var se_int) (sa_cons se_var sa_nil)))) (ss_ret (se_tup (sa_cons se_str (sa_cons (se_op sIx se_var se_int) (sa_cons se_var (sa_cons se_var (sa_cons (se_meth (sa_cons (se_op sIx se_var se_int) (sa_cons (se_meth (sa_cons se_var (sa_cons (se_op sIx se_var se_int) (sa_cons se_var sa_nil)))) sa_nil))) sa_nil))))))))) ss_next) (ss_seq (ss_if (st_test (se_op sEq se_var se_str)) (ss_seq (ss_set (se_meth sa_nil)) (ss_seq (ss_set (se_meth sa_nil)) (ss_seq (ss_set (se_meth (sa_cons (se_op sIx se_var se_int) (sa_cons (se_meth (sa_cons se_var (sa_cons (se_op sIx se_var se_int) (sa_cons se_var sa_nil)))) sa_nil)))) (ss_ret (se_tup (sa_cons se_str (sa_cons se_var (sa_cons se_var (sa_cons se_str (sa_cons se_var (sa_cons (se_meth (sa_cons (se_op sIx se_var se_int) (sa_cons (se_meth (sa_cons se_var (sa_cons (se_op sIx se_var se_int) (sa_cons se_var sa_nil)))) sa_nil))) sa_nil))))))))))) ss_next) (ss_seq (ss_if (st_test (se_op sEq se_var se_str)) (ss_ret (se_tup (sa_cons se_str (sa_cons (se_dget se_var (se_op sIx se_var se_int)) (sa_cons (se_meth (sa_cons (se_op sIx se_var se_int) (sa_cons se_var sa_nil))) sa_nil))))) ss_next) (ss_ret (se_op sAdd (se_tup (sa_cons se_var sa_nil)) (se_cb cTup (sa_cons (se_f (sf_lc (si_any (se_sl sSl se_var (so_part se_int) so_no)) st_yes (se_meth (sa_cons se_var (sa_cons se_var sa_nil))))) sa_nil)))))))))))), ?_⟩
  rintro ss Ed Q ⟨t, ρ, k, v, k2, rfl, h, hq⟩
  cases t <;> simp only [evP] at h
  case num n =>
    simp only [Option.some.injEq, Prod.mk.injEq] at h
    obtain ⟨rfl, rfl⟩ := h
    simp only [Tm.toD, S] at hq ⊢
    refine x_seq fun R hR => ?_
    walk_at "dr"
    refine hR _ ?_
    refine x_seq fun R hR => ?_
    walk_at "dr"
    exact hq
  case name x =>
    obtain ⟨u, hu, h⟩ := onR_of h
    obtain ⟨y, rfl, h⟩ : ∃ y, u = .nm y ∧ some (some (Tm.name y, k)) = some (some (v, k2)) := by
      cases u with
      | nm y => exact ⟨y, rfl, h⟩
      | num _ => cases h
      | pc _ => cases h
      | fn _ _ _ => cases h
    simp only [Option.some.injEq, Prod.mk.injEq] at h
    obtain ⟨rfl, rfl⟩ := h
    simp only [Tm.toD, S] at hq ⊢
    refine x_seq fun R hR => ?_
    walk_at "dr"
    refine hR _ ?_
    refine x_seq fun R hR => ?_
    walk_at "dr"
    refine hR _ ?_
    simp only [eD, envG] at hq ⊢
    refine x_seq fun R hR => ?_
    walk_at "dr"
    rw [valD_G, hu]
    simp only [Option.map_some, onSome_s, vD, Vl.rp_nm]
    (try walk_at "dr")
    exact hq
  case hole a =>
    obtain ⟨va, ha, h⟩ := bindR_ok h
    obtain ⟨p, k1, rfl, hh⟩ := pcR_of h
    have h := hh
    simp only [Option.some.injEq, Prod.mk.injEq] at h
    obtain ⟨rfl, rfl⟩ := h
    simp only [Tm.toD, S] at hq ⊢
    refine x_seq fun R hR => ?_
    walk_at "dr"
    refine hR _ ?_
    refine x_seq fun R hR => ?_
    walk_at "dr"
    refine hR _ ?_
    refine x_seq fun R hR => ?_
    walk_at "dr"
    refine hR _ ?_
    refine x_seq fun R hR => ?_
    walk_at "dr"
    refine ⟨a, ρ, k, rfl, .inl ⟨_, _, ha, ?_⟩⟩
    walk_at "dr"
    simp only [vD, Vl.rp_pc]
    exact hq
  case lett x a b =>
    obtain ⟨hc, h⟩ := chkR_of h
    obtain ⟨p, hp, h⟩ := bindR_ok h
    obtain ⟨q, hq2, h⟩ := bindR_ok h
    simp only [Option.some.injEq, Prod.mk.injEq] at h
    obtain ⟨rfl, rfl⟩ := h
    simp only [Tm.toD, S] at hq ⊢
    refine x_seq fun R hR => ?_
    walk_at "dr"
    refine hR _ ?_
    refine x_seq fun R hR => ?_
    walk_at "dr"
    refine hR _ ?_
    refine x_seq fun R hR => ?_
    walk_at "dr"
    refine hR _ ?_
    refine x_seq fun R hR => ?_
    walk_at "dr"
    refine hR _ ?_
    refine x_seq fun R hR => ?_
    walk_at "dr"
    refine x_seq fun R hR => ?_
    walk_at "dr"
    refine ⟨k, rfl, by omega, ?_⟩
    walk_at "dr"
    refine hR _ ?_
    refine x_seq fun R hR => ?_
    walk_at "dr"
    refine ⟨a, ρ, _, _, _, rfl, hp, ?_⟩
    walk_at "dr"
    refine hR _ ?_
    walk_at "dr"
    refine ⟨p.2, ρ, x, .nm (vN (k + 1)), by rw [vD, Vl.rp_nm], hc.2, ?_⟩
    walk_at "dr"
    refine ⟨b, _, _, _, _, rfl, hq2, ?_⟩
    walk_at "dr"
    first | exact hq | exact ⟨by decide, hq⟩
  case turns n x a b =>
    obtain ⟨hc, h⟩ := chkR_of h
    obtain ⟨p, hp, h⟩ := bindR_ok h
    obtain ⟨q, hq2, h⟩ := bindR_ok h
    simp only [Option.some.injEq, Prod.mk.injEq] at h
    obtain ⟨rfl, rfl⟩ := h
    simp only [Tm.toD, S] at hq ⊢
    refine x_seq fun R hR => ?_
    walk_at "dr"
    refine hR _ ?_
    refine x_seq fun R hR => ?_
    walk_at "dr"
    refine hR _ ?_
    refine x_seq fun R hR => ?_
    walk_at "dr"
    refine hR _ ?_
    refine x_seq fun R hR => ?_
    walk_at "dr"
    refine hR _ ?_
    refine x_seq fun R hR => ?_
    walk_at "dr"
    refine hR _ ?_
    refine x_seq fun R hR => ?_
    walk_at "dr"
    refine x_seq fun R hR => ?_
    walk_at "dr"
    refine ⟨k, rfl, by omega, ?_⟩
    walk_at "dr"
    refine hR _ ?_
    refine x_seq fun R hR => ?_
    walk_at "dr"
    refine ⟨a, ρ, _, _, _, rfl, hp, ?_⟩
    walk_at "dr"
    refine hR _ ?_
    walk_at "dr"
    refine ⟨p.2, ρ, x, .nm (vN (k + 1)), by rw [vD, Vl.rp_nm], hc.2, ?_⟩
    walk_at "dr"
    refine ⟨b, _, _, _, _, rfl, hq2, ?_⟩
    walk_at "dr"
    first | exact hq | exact ⟨by decide, hq⟩
  case defn y x m a b =>
    obtain ⟨hc, h⟩ := chkR_of h
    obtain ⟨p, hp, h⟩ := bindR_ok h
    obtain ⟨q, hq2, h⟩ := bindR_ok h
    simp only [Option.some.injEq, Prod.mk.injEq] at h
    obtain ⟨rfl, rfl⟩ := h
    simp only [Tm.toD, S] at hq ⊢
    refine x_seq fun R hR => ?_
    walk_at "dr"
    refine hR _ ?_
    refine x_seq fun R hR => ?_
    walk_at "dr"
    refine hR _ ?_
    refine x_seq fun R hR => ?_
    walk_at "dr"
    refine hR _ ?_
    refine x_seq fun R hR => ?_
    walk_at "dr"
    refine hR _ ?_
    refine x_seq fun R hR => ?_
    walk_at "dr"
    refine hR _ ?_
    refine x_seq fun R hR => ?_
    walk_at "dr"
    refine hR _ ?_
    refine x_seq fun R hR => ?_
    walk_at "dr"
    refine x_seq fun R hR => ?_
    walk_at "dr"
    refine ⟨k, rfl, by omega, ?_⟩
    walk_at "dr"
    refine hR _ ?_
    refine x_seq fun R hR => ?_
    walk_at "dr"
    refine ⟨k + 1, rfl, ?_, ?_⟩
    · omega
    walk_at "dr"
    refine hR _ ?_
    refine x_seq fun R hR => ?_
    walk_at "dr"
    refine ⟨k + 2, ρ, x, .nm (vN (k + 2)), by rw [vD, Vl.rp_nm], hc.2, ?_⟩
    walk_at "dr"
    refine ⟨a, _, _, _, _, rfl, hp, ?_⟩
    walk_at "dr"
    refine hR _ ?_
    walk_at "dr"
    refine ⟨p.2, ρ, y, .nm (vN (k + 1)), by rw [vD, Vl.rp_nm], hc.2, ?_⟩
    walk_at "dr"
    refine ⟨b, _, _, _, _, rfl, hq2, ?_⟩
    walk_at "dr"
    first | exact hq | exact ⟨by decide, hq⟩
  case use x a =>
    obtain ⟨u, hu, h⟩ := onR_of h
    obtain ⟨y, rfl, h⟩ : ∃ y, u = .nm y ∧ (bindR (evP f a ρ k) fun p => some (some (Tm.use y p.1, p.2))) = some (some (v, k2)) := by
      cases u with
      | nm y => exact ⟨y, rfl, h⟩
      | num _ => cases h
      | pc _ => cases h
      | fn _ _ _ => cases h
    obtain ⟨p, hp, h⟩ := bindR_ok h
    simp only [Option.some.injEq, Prod.mk.injEq] at h
    obtain ⟨rfl, rfl⟩ := h
    simp only [Tm.toD, S] at hq ⊢
    refine x_seq fun R hR => ?_
    walk_at "dr"
    refine hR _ ?_
    refine x_seq fun R hR => ?_
    walk_at "dr"
    refine hR _ ?_
    refine x_seq fun R hR => ?_
    walk_at "dr"
    refine hR _ ?_
    refine x_seq fun R hR => ?_
    walk_at "dr"
    refine hR _ ?_
    refine x_seq fun R hR => ?_
    walk_at "dr"
    refine hR _ ?_
    refine x_seq fun R hR => ?_
    walk_at "dr"
    refine hR _ ?_
    refine x_seq fun R hR => ?_
    walk_at "dr"
    refine hR _ ?_
    simp only [eD, envG] at hq ⊢
    refine x_seq fun R hR => ?_
    walk_at "dr"
    rw [valD_G, hu]
    simp only [Option.map_some, onSome_s, vD, Vl.rp_nm]
    (try walk_at "dr")
    refine ⟨a, ρ, _, _, _, rfl, hp, ?_⟩
    walk_at "dr"
    first | exact hq | exact ⟨by decide, hq⟩
  case sum a b =>
    obtain ⟨p, hp, h⟩ := bindR_ok h
    obtain ⟨q, hq2, h⟩ := bindR_ok h
    simp only [Option.some.injEq, Prod.mk.injEq] at h
    obtain ⟨rfl, rfl⟩ := h
    simp only [Tm.toD, S] at hq ⊢
    refine x_seq fun R hR => ?_
    walk_at "dr"
    refine hR _ ?_
    refine x_seq fun R hR => ?_
    walk_at "dr"
    refine hR _ ?_
    refine x_seq fun R hR => ?_
    walk_at "dr"
    refine hR _ ?_
    refine x_seq fun R hR => ?_
    walk_at "dr"
    refine hR _ ?_
    refine x_seq fun R hR => ?_
    walk_at "dr"
    refine hR _ ?_
    refine x_seq fun R hR => ?_
    walk_at "dr"
    refine hR _ ?_
    refine x_seq fun R hR => ?_
    walk_at "dr"
    refine hR _ ?_
    refine x_seq fun R hR => ?_
    walk_at "dr"
    refine hR _ ?_
    walk_at "dr"
    simp only [lcGo, dYes]
    walk_at "dr"
    refine ⟨a, ρ, _, _, _, rfl, hp, ?_⟩
    walk_at "dr"
    refine ⟨by decide, b, ρ, _, _, _, rfl, hq2, ?_⟩
    walk_at "dr"
    first | exact hq | exact ⟨by decide, hq⟩ | exact ⟨by decide, by decide, hq⟩ | exact ⟨by simp, by decide, by decide, hq⟩
  case product a b =>
    obtain ⟨p, hp, h⟩ := bindR_ok h
    obtain ⟨q, hq2, h⟩ := bindR_ok h
    simp only [Option.some.injEq, Prod.mk.injEq] at h
    obtain ⟨rfl, rfl⟩ := h
    simp only [Tm.toD, S] at hq ⊢
    refine x_seq fun R hR => ?_
    walk_at "dr"
    refine hR _ ?_
    refine x_seq fun R hR => ?_
    walk_at "dr"
    refine hR _ ?_
    refine x_seq fun R hR => ?_
    walk_at "dr"
    refine hR _ ?_
    refine x_seq fun R hR => ?_
    walk_at "dr"
    refine hR _ ?_
    refine x_seq fun R hR => ?_
    walk_at "dr"
    refine hR _ ?_
    refine x_seq fun R hR => ?_
    walk_at "dr"
    refine hR _ ?_
    refine x_seq fun R hR => ?_
    walk_at "dr"
    refine hR _ ?_
    refine x_seq fun R hR => ?_
    walk_at "dr"
    refine hR _ ?_
    walk_at "dr"
    simp only [lcGo, dYes]
    walk_at "dr"
    refine ⟨a, ρ, _, _, _, rfl, hp, ?_⟩
    walk_at "dr"
    refine ⟨by decide, b, ρ, _, _, _, rfl, hq2, ?_⟩
    walk_at "dr"
    first | exact hq | exact ⟨by decide, hq⟩ | exact ⟨by decide, by decide, hq⟩ | exact ⟨by simp, by decide, by decide, hq⟩
  case less a b =>
    obtain ⟨p, hp, h⟩ := bindR_ok h
    obtain ⟨q, hq2, h⟩ := bindR_ok h
    simp only [Option.some.injEq, Prod.mk.injEq] at h
    obtain ⟨rfl, rfl⟩ := h
    simp only [Tm.toD, S] at hq ⊢
    refine x_seq fun R hR => ?_
    walk_at "dr"
    refine hR _ ?_
    refine x_seq fun R hR => ?_
    walk_at "dr"
    refine hR _ ?_
    refine x_seq fun R hR => ?_
    walk_at "dr"
    refine hR _ ?_
    refine x_seq fun R hR => ?_
    walk_at "dr"
    refine hR _ ?_
    refine x_seq fun R hR => ?_
    walk_at "dr"
    refine hR _ ?_
    refine x_seq fun R hR => ?_
    walk_at "dr"
    refine hR _ ?_
    refine x_seq fun R hR => ?_
    walk_at "dr"
    refine hR _ ?_
    refine x_seq fun R hR => ?_
    walk_at "dr"
    refine hR _ ?_
    walk_at "dr"
    simp only [lcGo, dYes]
    walk_at "dr"
    refine ⟨a, ρ, _, _, _, rfl, hp, ?_⟩
    walk_at "dr"
    refine ⟨by decide, b, ρ, _, _, _, rfl, hq2, ?_⟩
    walk_at "dr"
    first | exact hq | exact ⟨by decide, hq⟩ | exact ⟨by decide, by decide, hq⟩ | exact ⟨by simp, by decide, by decide, hq⟩
  case when c a b =>
    obtain ⟨o, ho, h⟩ := bindR_ok h
    obtain ⟨p, hp, h⟩ := bindR_ok h
    obtain ⟨q, hq2, h⟩ := bindR_ok h
    simp only [Option.some.injEq, Prod.mk.injEq] at h
    obtain ⟨rfl, rfl⟩ := h
    simp only [Tm.toD, S] at hq ⊢
    refine x_seq fun R hR => ?_
    walk_at "dr"
    refine hR _ ?_
    refine x_seq fun R hR => ?_
    walk_at "dr"
    refine hR _ ?_
    refine x_seq fun R hR => ?_
    walk_at "dr"
    refine hR _ ?_
    refine x_seq fun R hR => ?_
    walk_at "dr"
    refine hR _ ?_
    refine x_seq fun R hR => ?_
    walk_at "dr"
    refine hR _ ?_
    refine x_seq fun R hR => ?_
    walk_at "dr"
    refine hR _ ?_
    refine x_seq fun R hR => ?_
    walk_at "dr"
    refine hR _ ?_
    refine x_seq fun R hR => ?_
    walk_at "dr"
    refine hR _ ?_
    walk_at "dr"
    simp only [lcGo, dYes]
    walk_at "dr"
    refine ⟨c, ρ, _, _, _, rfl, ho, ?_⟩
    walk_at "dr"
    refine ⟨by decide, a, ρ, _, _, _, rfl, hp, ?_⟩
    walk_at "dr"
    refine ⟨by decide, b, ρ, _, _, _, rfl, hq2, ?_⟩
    walk_at "dr"
    first | exact hq | exact ⟨by decide, hq⟩ | exact ⟨by decide, by decide, hq⟩ | exact ⟨by simp, by decide, by decide, hq⟩
  all_goals cases h

end
end Qh

namespace Qh
open PySem PySem.Spec PyProof.Rows L2 Dq
local macro_rules | `(tactic| walk_at "dq") => `(tactic| (simp only [dSeq, dNext, dSet, dRet, dDrop, dIfS, dTest, dOp, dVar, dC, dNil, dCons, dConsS, dTup, dLst, dF, dCB, dAnd, dOr, dNot, dAndV, dOrV, dNotV, dIf, dUn, dSl, dNo, dPart, dCall, dSetF, fLst, fLc, dSrc, dForR, dRetOwn, dPutIx, dIxOwn, dApp, dLenOwn, dInOwn, dJoinOwn, dJoin, dIsi, dRng1,
  onVal, onVals, onBl, onInt, onMut, onOwn, onSome_s, onArgs, refs, putS, outs, dst0, okSet, Sl.mut, Sl.toD, Sl.isObj, D.items, fIx, fEq, fNe, fNeg, okEq_str, okEq_int, deq_refl, deq_int, atI0, atI1, atI2, atI3, atI4, atI5, atI_q, fSl1, gList, gTpl, gLen, gInt, gSum, dMaxD, fI, fI0, fAdd, gN, gMax2, gMin2, gStr, D.is_int, D.is_bool, D.is_str, D.is_tuple, D.is_list,
  List.map_cons, List.map_nil, List.length_cons, List.length_nil, List.cons_append, List.nil_append, List.getElem?_cons_zero, List.getElem?_cons_succ, List.set_cons_zero, List.set_cons_succ, List.replicate, Nat.reduceAdd, Nat.reduceSub, Nat.zero_add, Nat.sub_zero, ite_dec,
  if_true, if_false, Bool.false_eq_true, true_and, and_true, decide_true, List.nodup_nil, List.getElem?_nil, Nat.reduceLeDiff, Nat.add_eq, Nat.add_zero, reduceIte, List.Nodup, List.pairwise_cons, List.not_mem_nil, false_implies, implies_true, List.Pairwise.nil, w_num_name, w_num_sum, w_num_product, w_num_less, w_num_when, w_num_let, w_num_turns, w_num_def, w_num_use, w_num_quote, w_num_hole, w_num_lift, w_num_run, w_num_number, w_num_piece, w_num_kept, w_name_num, w_name_sum, w_name_product, w_name_less, w_name_when, w_name_let, w_name_turns, w_name_def, w_name_use, w_name_quote, w_name_hole, w_name_lift, w_name_run, w_name_number, w_name_piece, w_name_kept, w_sum_num, w_sum_name, w_sum_product, w_sum_less, w_sum_when, w_sum_let, w_sum_turns, w_sum_def, w_sum_use, w_sum_quote, w_sum_hole, w_sum_lift, w_sum_run, w_sum_number, w_sum_piece, w_sum_kept, w_product_num, w_product_name, w_product_sum, w_product_less, w_product_when, w_product_let, w_product_turns, w_product_def, w_product_use, w_product_quote, w_product_hole, w_product_lift, w_product_run, w_product_number, w_product_piece, w_product_kept, w_less_num, w_less_name, w_less_sum, w_less_product, w_less_when, w_less_let, w_less_turns, w_less_def, w_less_use, w_less_quote, w_less_hole, w_less_lift, w_less_run, w_less_number, w_less_piece, w_less_kept, w_when_num, w_when_name, w_when_sum, w_when_product, w_when_less, w_when_let, w_when_turns, w_when_def, w_when_use, w_when_quote, w_when_hole, w_when_lift, w_when_run, w_when_number, w_when_piece, w_when_kept, w_let_num, w_let_name, w_let_sum, w_let_product, w_let_less, w_let_when, w_let_turns, w_let_def, w_let_use, w_let_quote, w_let_hole, w_let_lift, w_let_run, w_let_number, w_let_piece, w_let_kept, w_turns_num, w_turns_name, w_turns_sum, w_turns_product, w_turns_less, w_turns_when, w_turns_let, w_turns_def, w_turns_use, w_turns_quote, w_turns_hole, w_turns_lift, w_turns_run, w_turns_number, w_turns_piece, w_turns_kept, w_def_num, w_def_name, w_def_sum, w_def_product, w_def_less, w_def_when, w_def_let, w_def_turns, w_def_use, w_def_quote, w_def_hole, w_def_lift, w_def_run, w_def_number, w_def_piece, w_def_kept, w_use_num, w_use_name, w_use_sum, w_use_product, w_use_less, w_use_when, w_use_let, w_use_turns, w_use_def, w_use_quote, w_use_hole, w_use_lift, w_use_run, w_use_number, w_use_piece, w_use_kept, w_quote_num, w_quote_name, w_quote_sum, w_quote_product, w_quote_less, w_quote_when, w_quote_let, w_quote_turns, w_quote_def, w_quote_use, w_quote_hole, w_quote_lift, w_quote_run, w_quote_number, w_quote_piece, w_quote_kept, w_hole_num, w_hole_name, w_hole_sum, w_hole_product, w_hole_less, w_hole_when, w_hole_let, w_hole_turns, w_hole_def, w_hole_use, w_hole_quote, w_hole_lift, w_hole_run, w_hole_number, w_hole_piece, w_hole_kept, w_lift_num, w_lift_name, w_lift_sum, w_lift_product, w_lift_less, w_lift_when, w_lift_let, w_lift_turns, w_lift_def, w_lift_use, w_lift_quote, w_lift_hole, w_lift_run, w_lift_number, w_lift_piece, w_lift_kept, w_run_num, w_run_name, w_run_sum, w_run_product, w_run_less, w_run_when, w_run_let, w_run_turns, w_run_def, w_run_use, w_run_quote, w_run_hole, w_run_lift, w_run_number, w_run_piece, w_run_kept, w_number_num, w_number_name, w_number_sum, w_number_product, w_number_less, w_number_when, w_number_let, w_number_turns, w_number_def, w_number_use, w_number_quote, w_number_hole, w_number_lift, w_number_run, w_number_piece, w_number_kept, w_piece_num, w_piece_name, w_piece_sum, w_piece_product, w_piece_less, w_piece_when, w_piece_let, w_piece_turns, w_piece_def, w_piece_use, w_piece_quote, w_piece_hole, w_piece_lift, w_piece_run, w_piece_number, w_piece_kept, w_kept_num, w_kept_name, w_kept_sum, w_kept_product, w_kept_less, w_kept_when, w_kept_let, w_kept_turns, w_kept_def, w_kept_use, w_kept_quote, w_kept_hole, w_kept_lift, w_kept_run, w_kept_number, w_kept_piece, fl_num, fl_name, fl_sum, fl_product, fl_less, fl_when, fl_let, fl_turns, fl_def, fl_use, fl_quote, fl_hole, fl_lift, fl_run, fl_number, fl_piece, fl_kept, fIn_T, fIn_Tn, inD_cons, inD_nil, ixN0, fl_i, List.all_cons, List.all_nil, Bool.and_true, Bool.and_self, Bool.or_false, Bool.false_or, Bool.true_or, Bool.or_true, Bool.not_true, Bool.not_false, dForZ, oVal, oNew, oNil, gLs, fDNew, fDCopy, dDGet, dDIn, onDic, dRetDic, dDPut, dNoX, dBad, dReSet, fAddOwn, fCall, D.noL, D.noLs, dOpOO, dOpEO, dOpOE, dIsiOwn, D.isSc, onStrs, dGet2, dctC, keyOf, gTs, gNs, dAsg, cut11, cut12, cut13, fSlC, dSelf, okM, dMethO, dChk, dMake, onObj, dFld, onFld, dPutFld, onObjS, lk_given, lk_value, lk_piece, lk_staged, lk_fresh, lk_with, putI_nil, putI_given, gStr, dRaise, dTryAs, dTryO, fSl_lo2, fSl_lo3, fSl_lo4, fSl_hi1, fSl_hi2, fSl_hi3]))
local macro_rules | `(tactic| walk_at "cm") => `(tactic| first | (unfold CMul; omega) | (unfold CDiv; omega) | (unfold CPow; omega) | decide | omega)
local macro_rules | `(tactic| walk_at "dr") => `(tactic| (simp only [dNext, dSet, dRet, dDrop, dIfS, dTest, dOp, dVar, dC, dNil, dCons, dConsS, dTup, dLst, dF, dCB, dAnd, dOr, dNot, dAndV, dOrV, dNotV, dIf, dUn, dSl, dNo, dPart, dCall, dSetF, fLst, fLc, dSrc, dForR, dRetOwn, dPutIx, dIxOwn, dApp, dLenOwn, dInOwn, dJoinOwn, dJoin, dIsi, dRng1,
  onVal, onVals, onBl, onInt, onMut, onOwn, onSome_s, onArgs, refs, putS, outs, dst0, okSet, Sl.mut, Sl.toD, Sl.isObj, D.items, fIx, fEq, fNe, fNeg, okEq_str, okEq_int, deq_refl, deq_int, atI0, atI1, atI2, atI3, atI4, atI5, atI_q, fSl1, gList, gTpl, gLen, gInt, gSum, dMaxD, fI, fI0, fAdd, gN, gMax2, gMin2, gStr, D.is_int, D.is_bool, D.is_str, D.is_tuple, D.is_list,
  List.map_cons, List.map_nil, List.length_cons, List.length_nil, List.cons_append, List.nil_append, List.getElem?_cons_zero, List.getElem?_cons_succ, List.set_cons_zero, List.set_cons_succ, List.replicate, Nat.reduceAdd, Nat.reduceSub, Nat.zero_add, Nat.sub_zero, ite_dec,
  if_true, if_false, Bool.false_eq_true, true_and, and_true, decide_true, List.nodup_nil, List.getElem?_nil, Nat.reduceLeDiff, Nat.add_eq, Nat.add_zero, reduceIte, List.Nodup, List.pairwise_cons, List.not_mem_nil, false_implies, implies_true, List.Pairwise.nil, w_num_name, w_num_sum, w_num_product, w_num_less, w_num_when, w_num_let, w_num_turns, w_num_def, w_num_use, w_num_quote, w_num_hole, w_num_lift, w_num_run, w_num_number, w_num_piece, w_num_kept, w_name_num, w_name_sum, w_name_product, w_name_less, w_name_when, w_name_let, w_name_turns, w_name_def, w_name_use, w_name_quote, w_name_hole, w_name_lift, w_name_run, w_name_number, w_name_piece, w_name_kept, w_sum_num, w_sum_name, w_sum_product, w_sum_less, w_sum_when, w_sum_let, w_sum_turns, w_sum_def, w_sum_use, w_sum_quote, w_sum_hole, w_sum_lift, w_sum_run, w_sum_number, w_sum_piece, w_sum_kept, w_product_num, w_product_name, w_product_sum, w_product_less, w_product_when, w_product_let, w_product_turns, w_product_def, w_product_use, w_product_quote, w_product_hole, w_product_lift, w_product_run, w_product_number, w_product_piece, w_product_kept, w_less_num, w_less_name, w_less_sum, w_less_product, w_less_when, w_less_let, w_less_turns, w_less_def, w_less_use, w_less_quote, w_less_hole, w_less_lift, w_less_run, w_less_number, w_less_piece, w_less_kept, w_when_num, w_when_name, w_when_sum, w_when_product, w_when_less, w_when_let, w_when_turns, w_when_def, w_when_use, w_when_quote, w_when_hole, w_when_lift, w_when_run, w_when_number, w_when_piece, w_when_kept, w_let_num, w_let_name, w_let_sum, w_let_product, w_let_less, w_let_when, w_let_turns, w_let_def, w_let_use, w_let_quote, w_let_hole, w_let_lift, w_let_run, w_let_number, w_let_piece, w_let_kept, w_turns_num, w_turns_name, w_turns_sum, w_turns_product, w_turns_less, w_turns_when, w_turns_let, w_turns_def, w_turns_use, w_turns_quote, w_turns_hole, w_turns_lift, w_turns_run, w_turns_number, w_turns_piece, w_turns_kept, w_def_num, w_def_name, w_def_sum, w_def_product, w_def_less, w_def_when, w_def_let, w_def_turns, w_def_use, w_def_quote, w_def_hole, w_def_lift, w_def_run, w_def_number, w_def_piece, w_def_kept, w_use_num, w_use_name, w_use_sum, w_use_product, w_use_less, w_use_when, w_use_let, w_use_turns, w_use_def, w_use_quote, w_use_hole, w_use_lift, w_use_run, w_use_number, w_use_piece, w_use_kept, w_quote_num, w_quote_name, w_quote_sum, w_quote_product, w_quote_less, w_quote_when, w_quote_let, w_quote_turns, w_quote_def, w_quote_use, w_quote_hole, w_quote_lift, w_quote_run, w_quote_number, w_quote_piece, w_quote_kept, w_hole_num, w_hole_name, w_hole_sum, w_hole_product, w_hole_less, w_hole_when, w_hole_let, w_hole_turns, w_hole_def, w_hole_use, w_hole_quote, w_hole_lift, w_hole_run, w_hole_number, w_hole_piece, w_hole_kept, w_lift_num, w_lift_name, w_lift_sum, w_lift_product, w_lift_less, w_lift_when, w_lift_let, w_lift_turns, w_lift_def, w_lift_use, w_lift_quote, w_lift_hole, w_lift_run, w_lift_number, w_lift_piece, w_lift_kept, w_run_num, w_run_name, w_run_sum, w_run_product, w_run_less, w_run_when, w_run_let, w_run_turns, w_run_def, w_run_use, w_run_quote, w_run_hole, w_run_lift, w_run_number, w_run_piece, w_run_kept, w_number_num, w_number_name, w_number_sum, w_number_product, w_number_less, w_number_when, w_number_let, w_number_turns, w_number_def, w_number_use, w_number_quote, w_number_hole, w_number_lift, w_number_run, w_number_piece, w_number_kept, w_piece_num, w_piece_name, w_piece_sum, w_piece_product, w_piece_less, w_piece_when, w_piece_let, w_piece_turns, w_piece_def, w_piece_use, w_piece_quote, w_piece_hole, w_piece_lift, w_piece_run, w_piece_number, w_piece_kept, w_kept_num, w_kept_name, w_kept_sum, w_kept_product, w_kept_less, w_kept_when, w_kept_let, w_kept_turns, w_kept_def, w_kept_use, w_kept_quote, w_kept_hole, w_kept_lift, w_kept_run, w_kept_number, w_kept_piece, fl_num, fl_name, fl_sum, fl_product, fl_less, fl_when, fl_let, fl_turns, fl_def, fl_use, fl_quote, fl_hole, fl_lift, fl_run, fl_number, fl_piece, fl_kept, fIn_T, fIn_Tn, inD_cons, inD_nil, ixN0, fl_i, List.all_cons, List.all_nil, Bool.and_true, Bool.and_self, Bool.or_false, Bool.false_or, Bool.true_or, Bool.or_true, Bool.not_true, Bool.not_false, dForZ, oVal, oNew, oNil, gLs, fDNew, fDCopy, dDGet, dDIn, onDic, dRetDic, dDPut, dNoX, dBad, dReSet, fAddOwn, fCall, D.noL, D.noLs, dOpOO, dOpEO, dOpOE, dIsiOwn, D.isSc, onStrs, dGet2, dctC, keyOf, gTs, gNs, dAsg, cut11, cut12, cut13, fSlC, dSelf, okM, dMethO, dChk, dMake, onObj, dFld, onFld, dPutFld, onObjS, lk_given, lk_value, lk_piece, lk_staged, lk_fresh, lk_with, putI_nil, putI_given, gStr, dRaise, dTryAs, dTryO, fSl_lo2, fSl_lo3, fSl_lo4, fSl_hi1, fSl_hi2, fSl_hi3]))
def exK (way : Int) : Str := if way = 0 then sNum else sPiece
def spTellE (W T : Addr) (kd : Str) (f : Nat) : DSp := fun ss E Q => ∃ (t : Tm) (k : Str), ss = [.val t.toD] ∧ t.depth ≤ 60 ∧ kindT t 0 (fun _ => none) true = some k ∧ ((k = kd ∧ ∃ (v : Vl) (k2 : Nat), evV f t [] 0 = some (some (v, k2)) ∧ Q (vD v) ss) ∨ (k = kd ∧ evG f t [] 0 ∧ E T) ∨ (k ≠ kd ∧ (k = sNum ∨ k = sPiece) ∧ E W))
def spRef (f : Nat) : DSp := fun ss E Q => ∃ (t : Tm) (way : Int), ss = [.val t.toD, .val (.int way)] ∧ (way = 0 ∨ way = 1) ∧ t.depth ≤ 60 ∧ kindT t 0 (fun _ => none) true = some (exK way) ∧ evG f t [] 0 ∧ Q (.bl true) ss
def spWrg : DSp := fun ss E Q => ∃ (t : Tm) (way : Int) (k : Str), ss = [.val t.toD, .val (.int way)] ∧ (way = 0 ∨ way = 1) ∧ t.depth ≤ 60 ∧ kindT t 0 (fun _ => none) true = some k ∧ k ≠ exK way ∧ (k = sNum ∨ k = sPiece) ∧ Q (.bl true) ss
def spDone (f : Nat) : DSp := fun ss E Q => ∃ (t : Tm) (way : Int) (v : Vl) (k2 : Nat), ss = [.val t.toD, .val (.int way)] ∧ (way = 0 ∨ way = 1) ∧ t.depth ≤ 60 ∧ kindT t 0 (fun _ => none) true = some (exK way) ∧ evV f t [] 0 = some (some (v, k2)) ∧ Q (vD v) ss
theorem nm_of {δ : Dst} (h : ∀ x ∈ δ, ∀ s, x = some s → s.mut = false) : ∀ j, ¬ IsMut δ j := fun j ⟨s, e, m⟩ => by
  have := h _ (List.mem_of_getElem? e) s rfl
  rw [this] at m; cases m
section
variable {P : Program} {w : World} {K : PySem.W.Frag} {mg : Str → Option Value} {base : Heap}
theorem ok_makeN (g : G K mg) : ∀ f : Nat, Dq.FnR P w K mg base (2 * f + 70) g.a_Maker_value g.d_Maker_value ["self", "term", "names"] (liftSp K (spValE g.C_Maker g.C_TooGreat f)) ∧ Dq.FnR P w K mg base (2 * f + 70) g.a_Maker_piece g.d_Maker_piece ["self", "term", "names"] (liftSp K (spPce g.C_Maker f))
  | 0 => ⟨FnR.void (by rintro vs H Q E ⟨ss, Ed, Mx, Qd, _, _, ⟨t, ρ, k, _, (⟨v, k2, h, _⟩ | ⟨h, _⟩)⟩, _⟩; (· cases h); (· exact h.elim)), FnR.void (by rintro vs H Q E ⟨ss, Ed, Mx, Qd, _, _, ⟨t, ρ, k, v, k2, _, h, _⟩, _⟩; cases h)⟩
  | f + 1 => ⟨(ok_Maker_value (L := 2 * f + 70) (f := f) g (ok_Maker_staged (L := 2 * f + 70) (f := f) (by omega) g (ok_makeN g f).2 (ok_makeN g f).1 (ok_depthN g 64) (ok_sizeN g 64)) (ok_makeN g f).1 (ok_Maker_with_name g) (ok_joined g)).mono (by omega),
    (ok_Maker_piece (L := 2 * f + 70) (f := f) (by omega) g (ok_Maker_fresh g) (ok_makeN g f).2 (ok_makeN g f).1 (ok_Maker_with_name g)).mono (by omega)⟩
theorem ok_told {f : Nat} (g : G K mg)
    (h_Maker___init__ : FnR P w K mg base (1) g.a_Maker___init__ g.d_Maker___init__ ["self"] (liftSp K (spInit g.C_Maker)))
    (h_Maker_value : FnR P w K mg base (2 * f + 70) g.a_Maker_value g.d_Maker_value ["self", "term", "names"] (liftSp K (spValE g.C_Maker g.C_TooGreat f)))
    (h_kind_of : FnR P w K mg base (123) g.a_kind_of g.d_kind_of ["term"] (liftSp K (spKindOf)))
    : FnR P w K mg base (2 * f + 123 + 1) g.a_told g.d_told ["term"] (liftSp K (spTellE g.C_WrongKind g.C_TooGreat sNum f)) := by
  refine okD g.p_told.F sc_told (by rintro ss E Q ⟨t, k, rfl, _⟩; rfl) fun cdv A outer s H E hr => ⟨_, _, (pss_cons (ps_if (pt_cmpR (opNe hr.un64) (pe_callR h_kind_of (hr.mono (by omega)) rfl g.p_kind_of.g g.p_kind_of.F.kp g.p_kind_of.b passE (pa_cons (pv 0) pa_nil)) pe_str (nomark _)) (pss_one (ps_raise rfl (takes_of rfl rfl rfl rfl) (pmk_own PySem.F.excBase_ValueError g.x_WrongKind g.g_WrongKind g.k_WrongKind (raises_own g.y_WrongKind g.z_WrongKind) rfl))) pss_nil) (pss_one (ps_ret (pe_methR (pe_makeR0 g.mk_Maker h_Maker___init__ (hr.mono (by omega)) rfl g.g_Maker g.p_Maker___init__.b passE) g.cl_Maker g.m_Maker_value h_Maker_value (hr.mono (by omega)) g.p_Maker_value.b passE (pa_cons (pv 0) (pa_cons pe_dnewK pa_nil)))))), (ss_seq (ss_if (st_test (se_op sNe (se_call (sa_cons se_var sa_nil)) se_str)) (ss_raise (C := g.C_WrongKind)) ss_next) (ss_ret (se_methO sf_make (so_val se_var (so_val (se_f sf_dnew) so_nil))))), ?_⟩
  rintro ss Ed Q ⟨t, k, rfl, hd, hk, h⟩
  refine x_seq fun R hR => ?_
  walk_at "dr"
  refine ⟨t, k, rfl, hd, hk, ?_⟩
  rcases h with ⟨rfl, v, k2, h, hq⟩ | ⟨rfl, h, hE⟩ | ⟨hne, hk2, hE⟩
  · simp only [sNum]
    walk_at "dr"
    refine hR _ ?_
    walk_at "dr"
    refine ⟨rfl, ?_⟩
    walk_at "dr"
    refine ⟨t, [], 0, rfl, .inl ⟨v, k2, h, ?_⟩⟩
    walk_at "dr"
    exact hq
  · simp only [sNum]
    walk_at "dr"
    refine hR _ ?_
    walk_at "dr"
    refine ⟨rfl, ?_⟩
    walk_at "dr"
    exact ⟨t, [], 0, rfl, .inr ⟨h, hE⟩⟩
  · obtain rfl : k = sPiece := by rcases hk2 with z | z <;> first | exact z | exact absurd z hne
    simp only [sPiece]
    walk_at "dr"
    exact hE
theorem ok_made {f : Nat} (g : G K mg)
    (h_Maker___init__ : FnR P w K mg base (1) g.a_Maker___init__ g.d_Maker___init__ ["self"] (liftSp K (spInit g.C_Maker)))
    (h_Maker_value : FnR P w K mg base (2 * f + 70) g.a_Maker_value g.d_Maker_value ["self", "term", "names"] (liftSp K (spValE g.C_Maker g.C_TooGreat f)))
    (h_kind_of : FnR P w K mg base (123) g.a_kind_of g.d_kind_of ["term"] (liftSp K (spKindOf)))
    : FnR P w K mg base (2 * f + 123 + 1) g.a_made g.d_made ["term"] (liftSp K (spTellE g.C_WrongKind g.C_TooGreat sPiece f)) := by
  refine okD g.p_made.F sc_made (by rintro ss E Q ⟨t, k, rfl, _⟩; rfl) fun cdv A outer s H E hr => ⟨_, _, (pss_cons (ps_if (pt_cmpR (opNe hr.un64) (pe_callR h_kind_of (hr.mono (by omega)) rfl g.p_kind_of.g g.p_kind_of.F.kp g.p_kind_of.b passE (pa_cons (pv 0) pa_nil)) pe_str (nomark _)) (pss_one (ps_raise rfl (takes_of rfl rfl rfl rfl) (pmk_own PySem.F.excBase_ValueError g.x_WrongKind g.g_WrongKind g.k_WrongKind (raises_own g.y_WrongKind g.z_WrongKind) rfl))) pss_nil) (pss_one (ps_ret (pe_methR (pe_makeR0 g.mk_Maker h_Maker___init__ (hr.mono (by omega)) rfl g.g_Maker g.p_Maker___init__.b passE) g.cl_Maker g.m_Maker_value h_Maker_value (hr.mono (by omega)) g.p_Maker_value.b passE (pa_cons (pv 0) (pa_cons pe_dnewK pa_nil)))))), (ss_seq (ss_if (st_test (se_op sNe (se_call (sa_cons se_var sa_nil)) se_str)) (ss_raise (C := g.C_WrongKind)) ss_next) (ss_ret (se_methO sf_make (so_val se_var (so_val (se_f sf_dnew) so_nil))))), ?_⟩
  rintro ss Ed Q ⟨t, k, rfl, hd, hk, h⟩
  refine x_seq fun R hR => ?_
  walk_at "dr"
  refine ⟨t, k, rfl, hd, hk, ?_⟩
  rcases h with ⟨rfl, v, k2, h, hq⟩ | ⟨rfl, h, hE⟩ | ⟨hne, hk2, hE⟩
  · simp only [sPiece]
    walk_at "dr"
    refine hR _ ?_
    walk_at "dr"
    refine ⟨rfl, ?_⟩
    walk_at "dr"
    refine ⟨t, [], 0, rfl, .inl ⟨v, k2, h, ?_⟩⟩
    walk_at "dr"
    exact hq
  · simp only [sPiece]
    walk_at "dr"
    refine hR _ ?_
    walk_at "dr"
    refine ⟨rfl, ?_⟩
    walk_at "dr"
    exact ⟨t, [], 0, rfl, .inr ⟨h, hE⟩⟩
  · obtain rfl : k = sNum := by rcases hk2 with z | z <;> first | exact z | exact absurd z hne
    simp only [sNum]
    walk_at "dr"
    exact hE

end
end Qh

namespace Qh
open PySem PySem.Spec PyProof.Rows L2 Dq
local macro_rules | `(tactic| walk_at "dq") => `(tactic| (simp only [dSeq, dNext, dSet, dRet, dDrop, dIfS, dTest, dOp, dVar, dC, dNil, dCons, dConsS, dTup, dLst, dF, dCB, dAnd, dOr, dNot, dAndV, dOrV, dNotV, dIf, dUn, dSl, dNo, dPart, dCall, dSetF, fLst, fLc, dSrc, dForR, dRetOwn, dPutIx, dIxOwn, dApp, dLenOwn, dInOwn, dJoinOwn, dJoin, dIsi, dRng1,
  onVal, onVals, onBl, onInt, onMut, onOwn, onSome_s, onArgs, refs, putS, outs, dst0, okSet, Sl.mut, Sl.toD, Sl.isObj, D.items, fIx, fEq, fNe, fNeg, okEq_str, okEq_int, deq_refl, deq_int, atI0, atI1, atI2, atI3, atI4, atI5, atI_q, fSl1, gList, gTpl, gLen, gInt, gSum, dMaxD, fI, fI0, fAdd, gN, gMax2, gMin2, gStr, D.is_int, D.is_bool, D.is_str, D.is_tuple, D.is_list,
  List.map_cons, List.map_nil, List.length_cons, List.length_nil, List.cons_append, List.nil_append, List.getElem?_cons_zero, List.getElem?_cons_succ, List.set_cons_zero, List.set_cons_succ, List.replicate, Nat.reduceAdd, Nat.reduceSub, Nat.zero_add, Nat.sub_zero, ite_dec,
  if_true, if_false, Bool.false_eq_true, true_and, and_true, decide_true, List.nodup_nil, List.getElem?_nil, Nat.reduceLeDiff, Nat.add_eq, Nat.add_zero, reduceIte, List.Nodup, List.pairwise_cons, List.not_mem_nil, false_implies, implies_true, List.Pairwise.nil, w_num_name, w_num_sum, w_num_product, w_num_less, w_num_when, w_num_let, w_num_turns, w_num_def, w_num_use, w_num_quote, w_num_hole, w_num_lift, w_num_run, w_num_number, w_num_piece, w_num_kept, w_name_num, w_name_sum, w_name_product, w_name_less, w_name_when, w_name_let, w_name_turns, w_name_def, w_name_use, w_name_quote, w_name_hole, w_name_lift, w_name_run, w_name_number, w_name_piece, w_name_kept, w_sum_num, w_sum_name, w_sum_product, w_sum_less, w_sum_when, w_sum_let, w_sum_turns, w_sum_def, w_sum_use, w_sum_quote, w_sum_hole, w_sum_lift, w_sum_run, w_sum_number, w_sum_piece, w_sum_kept, w_product_num, w_product_name, w_product_sum, w_product_less, w_product_when, w_product_let, w_product_turns, w_product_def, w_product_use, w_product_quote, w_product_hole, w_product_lift, w_product_run, w_product_number, w_product_piece, w_product_kept, w_less_num, w_less_name, w_less_sum, w_less_product, w_less_when, w_less_let, w_less_turns, w_less_def, w_less_use, w_less_quote, w_less_hole, w_less_lift, w_less_run, w_less_number, w_less_piece, w_less_kept, w_when_num, w_when_name, w_when_sum, w_when_product, w_when_less, w_when_let, w_when_turns, w_when_def, w_when_use, w_when_quote, w_when_hole, w_when_lift, w_when_run, w_when_number, w_when_piece, w_when_kept, w_let_num, w_let_name, w_let_sum, w_let_product, w_let_less, w_let_when, w_let_turns, w_let_def, w_let_use, w_let_quote, w_let_hole, w_let_lift, w_let_run, w_let_number, w_let_piece, w_let_kept, w_turns_num, w_turns_name, w_turns_sum, w_turns_product, w_turns_less, w_turns_when, w_turns_let, w_turns_def, w_turns_use, w_turns_quote, w_turns_hole, w_turns_lift, w_turns_run, w_turns_number, w_turns_piece, w_turns_kept, w_def_num, w_def_name, w_def_sum, w_def_product, w_def_less, w_def_when, w_def_let, w_def_turns, w_def_use, w_def_quote, w_def_hole, w_def_lift, w_def_run, w_def_number, w_def_piece, w_def_kept, w_use_num, w_use_name, w_use_sum, w_use_product, w_use_less, w_use_when, w_use_let, w_use_turns, w_use_def, w_use_quote, w_use_hole, w_use_lift, w_use_run, w_use_number, w_use_piece, w_use_kept, w_quote_num, w_quote_name, w_quote_sum, w_quote_product, w_quote_less, w_quote_when, w_quote_let, w_quote_turns, w_quote_def, w_quote_use, w_quote_hole, w_quote_lift, w_quote_run, w_quote_number, w_quote_piece, w_quote_kept, w_hole_num, w_hole_name, w_hole_sum, w_hole_product, w_hole_less, w_hole_when, w_hole_let, w_hole_turns, w_hole_def, w_hole_use, w_hole_quote, w_hole_lift, w_hole_run, w_hole_number, w_hole_piece, w_hole_kept, w_lift_num, w_lift_name, w_lift_sum, w_lift_product, w_lift_less, w_lift_when, w_lift_let, w_lift_turns, w_lift_def, w_lift_use, w_lift_quote, w_lift_hole, w_lift_run, w_lift_number, w_lift_piece, w_lift_kept, w_run_num, w_run_name, w_run_sum, w_run_product, w_run_less, w_run_when, w_run_let, w_run_turns, w_run_def, w_run_use, w_run_quote, w_run_hole, w_run_lift, w_run_number, w_run_piece, w_run_kept, w_number_num, w_number_name, w_number_sum, w_number_product, w_number_less, w_number_when, w_number_let, w_number_turns, w_number_def, w_number_use, w_number_quote, w_number_hole, w_number_lift, w_number_run, w_number_piece, w_number_kept, w_piece_num, w_piece_name, w_piece_sum, w_piece_product, w_piece_less, w_piece_when, w_piece_let, w_piece_turns, w_piece_def, w_piece_use, w_piece_quote, w_piece_hole, w_piece_lift, w_piece_run, w_piece_number, w_piece_kept, w_kept_num, w_kept_name, w_kept_sum, w_kept_product, w_kept_less, w_kept_when, w_kept_let, w_kept_turns, w_kept_def, w_kept_use, w_kept_quote, w_kept_hole, w_kept_lift, w_kept_run, w_kept_number, w_kept_piece, fl_num, fl_name, fl_sum, fl_product, fl_less, fl_when, fl_let, fl_turns, fl_def, fl_use, fl_quote, fl_hole, fl_lift, fl_run, fl_number, fl_piece, fl_kept, fIn_T, fIn_Tn, inD_cons, inD_nil, ixN0, fl_i, List.all_cons, List.all_nil, Bool.and_true, Bool.and_self, Bool.or_false, Bool.false_or, Bool.true_or, Bool.or_true, Bool.not_true, Bool.not_false, dForZ, oVal, oNew, oNil, gLs, fDNew, fDCopy, dDGet, dDIn, onDic, dRetDic, dDPut, dNoX, dBad, dReSet, fAddOwn, fCall, D.noL, D.noLs, dOpOO, dOpEO, dOpOE, dIsiOwn, D.isSc, onStrs, dGet2, dctC, keyOf, gTs, gNs, dAsg, cut11, cut12, cut13, fSlC, dSelf, okM, dMethO, dChk, dMake, onObj, dFld, onFld, dPutFld, onObjS, lk_given, lk_value, lk_piece, lk_staged, lk_fresh, lk_with, putI_nil, putI_given, gStr, dRaise, dTryAs, dTryO, fSl_lo2, fSl_lo3, fSl_lo4, fSl_hi1, fSl_hi2, fSl_hi3]))
local macro_rules | `(tactic| walk_at "cm") => `(tactic| first | (unfold CMul; omega) | (unfold CDiv; omega) | (unfold CPow; omega) | decide | omega)
local macro_rules | `(tactic| walk_at "dr") => `(tactic| (simp only [dNext, dSet, dRet, dDrop, dIfS, dTest, dOp, dVar, dC, dNil, dCons, dConsS, dTup, dLst, dF, dCB, dAnd, dOr, dNot, dAndV, dOrV, dNotV, dIf, dUn, dSl, dNo, dPart, dCall, dSetF, fLst, fLc, dSrc, dForR, dRetOwn, dPutIx, dIxOwn, dApp, dLenOwn, dInOwn, dJoinOwn, dJoin, dIsi, dRng1,
  onVal, onVals, onBl, onInt, onMut, onOwn, onSome_s, onArgs, refs, putS, outs, dst0, okSet, Sl.mut, Sl.toD, Sl.isObj, D.items, fIx, fEq, fNe, fNeg, okEq_str, okEq_int, deq_refl, deq_int, atI0, atI1, atI2, atI3, atI4, atI5, atI_q, fSl1, gList, gTpl, gLen, gInt, gSum, dMaxD, fI, fI0, fAdd, gN, gMax2, gMin2, gStr, D.is_int, D.is_bool, D.is_str, D.is_tuple, D.is_list,
  List.map_cons, List.map_nil, List.length_cons, List.length_nil, List.cons_append, List.nil_append, List.getElem?_cons_zero, List.getElem?_cons_succ, List.set_cons_zero, List.set_cons_succ, List.replicate, Nat.reduceAdd, Nat.reduceSub, Nat.zero_add, Nat.sub_zero, ite_dec,
  if_true, if_false, Bool.false_eq_true, true_and, and_true, decide_true, List.nodup_nil, List.getElem?_nil, Nat.reduceLeDiff, Nat.add_eq, Nat.add_zero, reduceIte, List.Nodup, List.pairwise_cons, List.not_mem_nil, false_implies, implies_true, List.Pairwise.nil, w_num_name, w_num_sum, w_num_product, w_num_less, w_num_when, w_num_let, w_num_turns, w_num_def, w_num_use, w_num_quote, w_num_hole, w_num_lift, w_num_run, w_num_number, w_num_piece, w_num_kept, w_name_num, w_name_sum, w_name_product, w_name_less, w_name_when, w_name_let, w_name_turns, w_name_def, w_name_use, w_name_quote, w_name_hole, w_name_lift, w_name_run, w_name_number, w_name_piece, w_name_kept, w_sum_num, w_sum_name, w_sum_product, w_sum_less, w_sum_when, w_sum_let, w_sum_turns, w_sum_def, w_sum_use, w_sum_quote, w_sum_hole, w_sum_lift, w_sum_run, w_sum_number, w_sum_piece, w_sum_kept, w_product_num, w_product_name, w_product_sum, w_product_less, w_product_when, w_product_let, w_product_turns, w_product_def, w_product_use, w_product_quote, w_product_hole, w_product_lift, w_product_run, w_product_number, w_product_piece, w_product_kept, w_less_num, w_less_name, w_less_sum, w_less_product, w_less_when, w_less_let, w_less_turns, w_less_def, w_less_use, w_less_quote, w_less_hole, w_less_lift, w_less_run, w_less_number, w_less_piece, w_less_kept, w_when_num, w_when_name, w_when_sum, w_when_product, w_when_less, w_when_let, w_when_turns, w_when_def, w_when_use, w_when_quote, w_when_hole, w_when_lift, w_when_run, w_when_number, w_when_piece, w_when_kept, w_let_num, w_let_name, w_let_sum, w_let_product, w_let_less, w_let_when, w_let_turns, w_let_def, w_let_use, w_let_quote, w_let_hole, w_let_lift, w_let_run, w_let_number, w_let_piece, w_let_kept, w_turns_num, w_turns_name, w_turns_sum, w_turns_product, w_turns_less, w_turns_when, w_turns_let, w_turns_def, w_turns_use, w_turns_quote, w_turns_hole, w_turns_lift, w_turns_run, w_turns_number, w_turns_piece, w_turns_kept, w_def_num, w_def_name, w_def_sum, w_def_product, w_def_less, w_def_when, w_def_let, w_def_turns, w_def_use, w_def_quote, w_def_hole, w_def_lift, w_def_run, w_def_number, w_def_piece, w_def_kept, w_use_num, w_use_name, w_use_sum, w_use_product, w_use_less, w_use_when, w_use_let, w_use_turns, w_use_def, w_use_quote, w_use_hole, w_use_lift, w_use_run, w_use_number, w_use_piece, w_use_kept, w_quote_num, w_quote_name, w_quote_sum, w_quote_product, w_quote_less, w_quote_when, w_quote_let, w_quote_turns, w_quote_def, w_quote_use, w_quote_hole, w_quote_lift, w_quote_run, w_quote_number, w_quote_piece, w_quote_kept, w_hole_num, w_hole_name, w_hole_sum, w_hole_product, w_hole_less, w_hole_when, w_hole_let, w_hole_turns, w_hole_def, w_hole_use, w_hole_quote, w_hole_lift, w_hole_run, w_hole_number, w_hole_piece, w_hole_kept, w_lift_num, w_lift_name, w_lift_sum, w_lift_product, w_lift_less, w_lift_when, w_lift_let, w_lift_turns, w_lift_def, w_lift_use, w_lift_quote, w_lift_hole, w_lift_run, w_lift_number, w_lift_piece, w_lift_kept, w_run_num, w_run_name, w_run_sum, w_run_product, w_run_less, w_run_when, w_run_let, w_run_turns, w_run_def, w_run_use, w_run_quote, w_run_hole, w_run_lift, w_run_number, w_run_piece, w_run_kept, w_number_num, w_number_name, w_number_sum, w_number_product, w_number_less, w_number_when, w_number_let, w_number_turns, w_number_def, w_number_use, w_number_quote, w_number_hole, w_number_lift, w_number_run, w_number_piece, w_number_kept, w_piece_num, w_piece_name, w_piece_sum, w_piece_product, w_piece_less, w_piece_when, w_piece_let, w_piece_turns, w_piece_def, w_piece_use, w_piece_quote, w_piece_hole, w_piece_lift, w_piece_run, w_piece_number, w_piece_kept, w_kept_num, w_kept_name, w_kept_sum, w_kept_product, w_kept_less, w_kept_when, w_kept_let, w_kept_turns, w_kept_def, w_kept_use, w_kept_quote, w_kept_hole, w_kept_lift, w_kept_run, w_kept_number, w_kept_piece, fl_num, fl_name, fl_sum, fl_product, fl_less, fl_when, fl_let, fl_turns, fl_def, fl_use, fl_quote, fl_hole, fl_lift, fl_run, fl_number, fl_piece, fl_kept, fIn_T, fIn_Tn, inD_cons, inD_nil, ixN0, fl_i, List.all_cons, List.all_nil, Bool.and_true, Bool.and_self, Bool.or_false, Bool.false_or, Bool.true_or, Bool.or_true, Bool.not_true, Bool.not_false, dForZ, oVal, oNew, oNil, gLs, fDNew, fDCopy, dDGet, dDIn, onDic, dRetDic, dDPut, dNoX, dBad, dReSet, fAddOwn, fCall, D.noL, D.noLs, dOpOO, dOpEO, dOpOE, dIsiOwn, D.isSc, onStrs, dGet2, dctC, keyOf, gTs, gNs, dAsg, cut11, cut12, cut13, fSlC, dSelf, okM, dMethO, dChk, dMake, onObj, dFld, onFld, dPutFld, onObjS, lk_given, lk_value, lk_piece, lk_staged, lk_fresh, lk_with, putI_nil, putI_given, gStr, dRaise, dTryAs, dTryO, fSl_lo2, fSl_lo3, fSl_lo4, fSl_hi1, fSl_hi2, fSl_hi3]))
section
variable {P : Program} {w : World} {K : PySem.W.Frag} {mg : Str → Option Value} {base : Heap}
theorem ok__law_refused {f : Nat} (g : G K mg)
    (h_made : FnR P w K mg base (2 * f + 124) g.a_made g.d_made ["term"] (liftSp K (spTellE g.C_WrongKind g.C_TooGreat sPiece f)))
    (h_told : FnR P w K mg base (2 * f + 124) g.a_told g.d_told ["term"] (liftSp K (spTellE g.C_WrongKind g.C_TooGreat sNum f)))
    : FnR P w K mg base (2 * f + 124 + 1) g.a__law_refused g.d__law_refused ["_law_program", "_law_way"] (liftSp K (spRef f)) := by
  refine okD g.p__law_refused.F sc__law_refused (by rintro ss E Q ⟨t, w, rfl, _⟩; rfl) fun cdv A outer s H E hr => ⟨_, _, (pss_cons (ps_tryAs (i := 2) rfl rfl sc__law_refused.nd rfl rfl ⟨rfl, by decide, .inl g.g_HallError⟩ (takes_of rfl rfl rfl rfl) (fun W pn xe tk _ => (pss_one (ps_if (pt_cmpR (opEq hr.un64) (pv 1) pe_int (nomark _)) (pss_one (ps_expr (pe_callRS h_told (hr.mono (by omega)) rfl g.p_told.g g.p_told.F.kp g.p_told.b (fun σ => passAt tk σ) (pa_cons (pv 0) pa_nil)))) (pss_one (ps_expr (pe_callRS h_made (hr.mono (by omega)) rfl g.p_made.g g.p_made.F.kp g.p_made.b (fun σ => passAt tk σ) (pa_cons (pv 0) pa_nil))))))) (fun a oe cls d pn hz hf => (pss_cons (ps_set (i := 3) sc__law_refused.nd rfl (by first | exact Or.inl rfl | exact Or.inr rfl) (pe_or (pe_isE hz hf rfl g.b_isinstance (pa_cons (pv 2) (pa_cons (pe_glob (v := .ref g.C_NoName) rfl g.g_NoName rfl) pa_nil))) (pe_or (pe_isE hz hf rfl g.b_isinstance (pa_cons (pv 2) (pa_cons (pe_glob (v := .ref g.C_WrongKind) rfl g.g_WrongKind rfl) pa_nil))) (pe_one (pe_isE hz hf rfl g.b_isinstance (pa_cons (pv 2) (pa_cons (pe_glob (v := .ref g.C_WrongLevel) rfl g.g_WrongLevel rfl) pa_nil))))))) (pss_one (ps_ret (pe_and (pe_isE hz hf rfl g.b_isinstance (pa_cons (pv 2) (pa_cons (pe_glob (v := .ref g.C_TooGreat) rfl g.g_TooGreat rfl) pa_nil))) (pe_and (pe_isE hz hf rfl g.b_isinstance (pa_cons (pv 2) (pa_cons (pe_bltn (v := .ty "ValueError") rfl g.b_ValueError (by decide +kernel) rfl) pa_nil))) (pe_one (pe_not (pv 3)))))))))) (pss_one (ps_ret pe_bl))), (ss_seq (ss_tryAs (fun _ _ _ _ => rfl) (fun xw => (ss_if (st_test (se_op sEq se_var se_int)) (ss_drop (se_callW (sa_cons se_var sa_nil))) (ss_drop (se_callW (sa_cons se_var sa_nil))))) (fun a c => (ss_seq (ss_set (se_or (se_isE rel_ref) (se_or (se_isE rel_ref) (se_isE rel_ref)))) (ss_ret (se_and (se_isE rel_ref) (se_and (se_isE rel_ty) (se_not se_var))))))) (ss_ret se_bl)), ?_⟩
  rintro ss Ed Q ⟨t, way, rfl, hw, hd, hk, hg, hq⟩
  refine x_seq fun R hR => ?_
  refine ⟨nm_of (by simp [dst0, Sl.mut]), rfl, (fun c => c = g.C_TooGreat), ?_, ?_⟩
  · rcases hw with rfl | rfl
    · walk_at "dr"
      exact ⟨t, sNum, rfl, hd, hk, .inr (.inl ⟨rfl, hg, rfl⟩)⟩
    · walk_at "dr"
      exact ⟨t, sPiece, rfl, hd, hk, .inr (.inl ⟨rfl, hg, rfl⟩)⟩
  · rintro c rfl
    refine ⟨true, g.m_TooGreat_HallError, fun _ a => ?_, fun h => by cases h⟩
    refine x_seq fun R hR => ?_
    walk_at "dr"
    refine ⟨rfl, g.e_TooGreat, false, g.i_TooGreat_NoName, ?_⟩
    walk_at "dr"
    refine ⟨rfl, g.e_TooGreat, false, g.i_TooGreat_WrongKind, ?_⟩
    walk_at "dr"
    refine ⟨rfl, g.e_TooGreat, false, g.i_TooGreat_WrongLevel, ?_⟩
    walk_at "dr"
    refine hR _ ?_
    walk_at "dr"
    refine ⟨rfl, g.e_TooGreat, true, g.i_TooGreat_TooGreat, ?_⟩
    walk_at "dr"
    refine ⟨rfl, g.e_TooGreat, true, g.i_TooGreat_ValueError, ?_⟩
    walk_at "dr"
    exact hq
theorem ok__law_wrong_kind {f : Nat} (g : G K mg)
    (h_made : FnR P w K mg base (2 * f + 124) g.a_made g.d_made ["term"] (liftSp K (spTellE g.C_WrongKind g.C_TooGreat sPiece f)))
    (h_told : FnR P w K mg base (2 * f + 124) g.a_told g.d_told ["term"] (liftSp K (spTellE g.C_WrongKind g.C_TooGreat sNum f)))
    : FnR P w K mg base (2 * f + 124 + 1) g.a__law_wrong_kind g.d__law_wrong_kind ["_law_program", "_law_way"] (liftSp K (spWrg)) := by
  refine okD g.p__law_wrong_kind.F sc__law_wrong_kind (by rintro ss E Q ⟨t, w, k, rfl, _⟩; rfl) fun cdv A outer s H E hr => ⟨_, _, (pss_cons (ps_tryAs (i := 2) rfl rfl sc__law_wrong_kind.nd rfl rfl ⟨rfl, by decide, .inl g.g_HallError⟩ (takes_of rfl rfl rfl rfl) (fun W pn xe tk _ => (pss_one (ps_if (pt_cmpR (opEq hr.un64) (pv 1) pe_int (nomark _)) (pss_one (ps_expr (pe_callRS h_told (hr.mono (by omega)) rfl g.p_told.g g.p_told.F.kp g.p_told.b (fun σ => passAt tk σ) (pa_cons (pv 0) pa_nil)))) (pss_one (ps_expr (pe_callRS h_made (hr.mono (by omega)) rfl g.p_made.g g.p_made.F.kp g.p_made.b (fun σ => passAt tk σ) (pa_cons (pv 0) pa_nil))))))) (fun a oe cls d pn hz hf => (pss_one (ps_ret (pe_and (pe_isE hz hf rfl g.b_isinstance (pa_cons (pv 2) (pa_cons (pe_glob (v := .ref g.C_WrongKind) rfl g.g_WrongKind rfl) pa_nil))) (pe_one (pe_not (pe_isE hz hf rfl g.b_isinstance (pa_cons (pv 2) (pa_cons (pe_glob (v := .ref g.C_TooGreat) rfl g.g_TooGreat rfl) pa_nil)))))))))) (pss_one (ps_ret pe_bl))), (ss_seq (ss_tryAs (fun _ _ _ _ => rfl) (fun xw => (ss_if (st_test (se_op sEq se_var se_int)) (ss_drop (se_callW (sa_cons se_var sa_nil))) (ss_drop (se_callW (sa_cons se_var sa_nil))))) (fun a c => (ss_ret (se_and (se_isE rel_ref) (se_not (se_isE rel_ref)))))) (ss_ret se_bl)), ?_⟩
  rintro ss Ed Q ⟨t, way, k, rfl, hw, hd, hk, hne, hk2, hq⟩
  refine x_seq fun R hR => ?_
  refine ⟨nm_of (by simp [dst0, Sl.mut]), rfl, (fun c => c = g.C_WrongKind), ?_, ?_⟩
  · rcases hw with rfl | rfl
    · walk_at "dr"
      exact ⟨t, k, rfl, hd, hk, .inr (.inr ⟨hne, hk2, rfl⟩)⟩
    · walk_at "dr"
      exact ⟨t, k, rfl, hd, hk, .inr (.inr ⟨hne, hk2, rfl⟩)⟩
  · rintro c rfl
    refine ⟨true, g.m_WrongKind_HallError, fun _ a => ?_, fun h => by cases h⟩
    walk_at "dr"
    refine ⟨rfl, g.e_WrongKind, true, g.i_WrongKind_WrongKind, ?_⟩
    walk_at "dr"
    refine ⟨rfl, g.e_WrongKind, false, g.i_WrongKind_TooGreat, ?_⟩
    walk_at "dr"
    exact hq
theorem ok__law_done {f : Nat} (g : G K mg)
    (h_made : FnR P w K mg base (2 * f + 124) g.a_made g.d_made ["term"] (liftSp K (spTellE g.C_WrongKind g.C_TooGreat sPiece f)))
    (h_told : FnR P w K mg base (2 * f + 124) g.a_told g.d_told ["term"] (liftSp K (spTellE g.C_WrongKind g.C_TooGreat sNum f)))
    : FnR P w K mg base (2 * f + 124 + 1) g.a__law_done g.d__law_done ["_law_program", "_law_way"] (liftSp K (spDone f)) := by
  refine okD g.p__law_done.F sc__law_done (by rintro ss E Q ⟨t, w, v, k, rfl, _⟩; rfl) fun cdv A outer s H E hr => ⟨_, _, (pss_one (ps_tryO rfl rfl ⟨rfl, by decide, .inl g.g_TooGreat⟩ (takes_of rfl rfl rfl rfl) (fun W pn xe tk _ => (pss_cons (ps_if (pt_cmpR (opEq hr.un64) (pv 1) pe_int (nomark _)) (pss_one (ps_ret (pe_callRS h_told (hr.mono (by omega)) rfl g.p_told.g g.p_told.F.kp g.p_told.b (fun σ => passAt tk σ) (pa_cons (pv 0) pa_nil)))) pss_nil) (pss_one (ps_ret (pe_callRS h_made (hr.mono (by omega)) rfl g.p_made.g g.p_made.F.kp g.p_made.b (fun σ => passAt tk σ) (pa_cons (pv 0) pa_nil)))))) (fun a oe cls d pn hz hf => (pss_one (ps_ret (pe_tup (pa_cons pe_str (pa_cons pe_int pa_nil)))))))), (ss_tryO (fun _ _ _ _ => rfl) (fun xw => (ss_seq (ss_if (st_test (se_op sEq se_var se_int)) (ss_ret (se_callW (sa_cons se_var sa_nil))) ss_next) (ss_ret (se_callW (sa_cons se_var sa_nil))))) (fun a c => (ss_ret (se_tup (sa_cons se_str (sa_cons se_int sa_nil)))))), ?_⟩
  rintro ss Ed Q ⟨t, way, v, k2, rfl, hw, hd, hk, h, hq⟩
  refine ⟨nm_of (by simp [dst0, Sl.mut]), (fun _ => False), ?_, fun c h => h.elim⟩
  refine x_seq fun R hR => ?_
  rcases hw with rfl | rfl
  · walk_at "dr"
    refine ⟨t, sNum, rfl, hd, hk, .inl ⟨rfl, v, k2, h, ?_⟩⟩
    walk_at "dr"
    exact hq
  · walk_at "dr"
    refine hR _ ?_
    walk_at "dr"
    refine ⟨t, sPiece, rfl, hd, hk, .inl ⟨rfl, v, k2, h, ?_⟩⟩
    walk_at "dr"
    exact hq

end
end Qh

namespace Qh
open PySem PySem.Spec PyProof.Rows L2 Dq
local macro_rules | `(tactic| walk_at "dq") => `(tactic| (simp only [dSeq, dNext, dSet, dRet, dDrop, dIfS, dTest, dOp, dVar, dC, dNil, dCons, dConsS, dTup, dLst, dF, dCB, dAnd, dOr, dNot, dAndV, dOrV, dNotV, dIf, dUn, dSl, dNo, dPart, dCall, dSetF, fLst, fLc, dSrc, dForR, dRetOwn, dPutIx, dIxOwn, dApp, dLenOwn, dInOwn, dJoinOwn, dJoin, dIsi, dRng1,
  onVal, onVals, onBl, onInt, onMut, onOwn, onSome_s, onArgs, refs, putS, outs, dst0, okSet, Sl.mut, Sl.toD, Sl.isObj, D.items, fIx, fEq, fNe, fNeg, okEq_str, okEq_int, deq_refl, deq_int, atI0, atI1, atI2, atI3, atI4, atI5, atI_q, fSl1, gList, gTpl, gLen, gInt, gSum, dMaxD, fI, fI0, fAdd, gN, gMax2, gMin2, gStr, D.is_int, D.is_bool, D.is_str, D.is_tuple, D.is_list,
  List.map_cons, List.map_nil, List.length_cons, List.length_nil, List.cons_append, List.nil_append, List.getElem?_cons_zero, List.getElem?_cons_succ, List.set_cons_zero, List.set_cons_succ, List.replicate, Nat.reduceAdd, Nat.reduceSub, Nat.zero_add, Nat.sub_zero, ite_dec,
  if_true, if_false, Bool.false_eq_true, true_and, and_true, decide_true, List.nodup_nil, List.getElem?_nil, Nat.reduceLeDiff, Nat.add_eq, Nat.add_zero, reduceIte, List.Nodup, List.pairwise_cons, List.not_mem_nil, false_implies, implies_true, List.Pairwise.nil, w_num_name, w_num_sum, w_num_product, w_num_less, w_num_when, w_num_let, w_num_turns, w_num_def, w_num_use, w_num_quote, w_num_hole, w_num_lift, w_num_run, w_num_number, w_num_piece, w_num_kept, w_name_num, w_name_sum, w_name_product, w_name_less, w_name_when, w_name_let, w_name_turns, w_name_def, w_name_use, w_name_quote, w_name_hole, w_name_lift, w_name_run, w_name_number, w_name_piece, w_name_kept, w_sum_num, w_sum_name, w_sum_product, w_sum_less, w_sum_when, w_sum_let, w_sum_turns, w_sum_def, w_sum_use, w_sum_quote, w_sum_hole, w_sum_lift, w_sum_run, w_sum_number, w_sum_piece, w_sum_kept, w_product_num, w_product_name, w_product_sum, w_product_less, w_product_when, w_product_let, w_product_turns, w_product_def, w_product_use, w_product_quote, w_product_hole, w_product_lift, w_product_run, w_product_number, w_product_piece, w_product_kept, w_less_num, w_less_name, w_less_sum, w_less_product, w_less_when, w_less_let, w_less_turns, w_less_def, w_less_use, w_less_quote, w_less_hole, w_less_lift, w_less_run, w_less_number, w_less_piece, w_less_kept, w_when_num, w_when_name, w_when_sum, w_when_product, w_when_less, w_when_let, w_when_turns, w_when_def, w_when_use, w_when_quote, w_when_hole, w_when_lift, w_when_run, w_when_number, w_when_piece, w_when_kept, w_let_num, w_let_name, w_let_sum, w_let_product, w_let_less, w_let_when, w_let_turns, w_let_def, w_let_use, w_let_quote, w_let_hole, w_let_lift, w_let_run, w_let_number, w_let_piece, w_let_kept, w_turns_num, w_turns_name, w_turns_sum, w_turns_product, w_turns_less, w_turns_when, w_turns_let, w_turns_def, w_turns_use, w_turns_quote, w_turns_hole, w_turns_lift, w_turns_run, w_turns_number, w_turns_piece, w_turns_kept, w_def_num, w_def_name, w_def_sum, w_def_product, w_def_less, w_def_when, w_def_let, w_def_turns, w_def_use, w_def_quote, w_def_hole, w_def_lift, w_def_run, w_def_number, w_def_piece, w_def_kept, w_use_num, w_use_name, w_use_sum, w_use_product, w_use_less, w_use_when, w_use_let, w_use_turns, w_use_def, w_use_quote, w_use_hole, w_use_lift, w_use_run, w_use_number, w_use_piece, w_use_kept, w_quote_num, w_quote_name, w_quote_sum, w_quote_product, w_quote_less, w_quote_when, w_quote_let, w_quote_turns, w_quote_def, w_quote_use, w_quote_hole, w_quote_lift, w_quote_run, w_quote_number, w_quote_piece, w_quote_kept, w_hole_num, w_hole_name, w_hole_sum, w_hole_product, w_hole_less, w_hole_when, w_hole_let, w_hole_turns, w_hole_def, w_hole_use, w_hole_quote, w_hole_lift, w_hole_run, w_hole_number, w_hole_piece, w_hole_kept, w_lift_num, w_lift_name, w_lift_sum, w_lift_product, w_lift_less, w_lift_when, w_lift_let, w_lift_turns, w_lift_def, w_lift_use, w_lift_quote, w_lift_hole, w_lift_run, w_lift_number, w_lift_piece, w_lift_kept, w_run_num, w_run_name, w_run_sum, w_run_product, w_run_less, w_run_when, w_run_let, w_run_turns, w_run_def, w_run_use, w_run_quote, w_run_hole, w_run_lift, w_run_number, w_run_piece, w_run_kept, w_number_num, w_number_name, w_number_sum, w_number_product, w_number_less, w_number_when, w_number_let, w_number_turns, w_number_def, w_number_use, w_number_quote, w_number_hole, w_number_lift, w_number_run, w_number_piece, w_number_kept, w_piece_num, w_piece_name, w_piece_sum, w_piece_product, w_piece_less, w_piece_when, w_piece_let, w_piece_turns, w_piece_def, w_piece_use, w_piece_quote, w_piece_hole, w_piece_lift, w_piece_run, w_piece_number, w_piece_kept, w_kept_num, w_kept_name, w_kept_sum, w_kept_product, w_kept_less, w_kept_when, w_kept_let, w_kept_turns, w_kept_def, w_kept_use, w_kept_quote, w_kept_hole, w_kept_lift, w_kept_run, w_kept_number, w_kept_piece, fl_num, fl_name, fl_sum, fl_product, fl_less, fl_when, fl_let, fl_turns, fl_def, fl_use, fl_quote, fl_hole, fl_lift, fl_run, fl_number, fl_piece, fl_kept, fIn_T, fIn_Tn, inD_cons, inD_nil, ixN0, fl_i, List.all_cons, List.all_nil, Bool.and_true, Bool.and_self, Bool.or_false, Bool.false_or, Bool.true_or, Bool.or_true, Bool.not_true, Bool.not_false, dForZ, oVal, oNew, oNil, gLs, fDNew, fDCopy, dDGet, dDIn, onDic, dRetDic, dDPut, dNoX, dBad, dReSet, fAddOwn, fCall, D.noL, D.noLs, dOpOO, dOpEO, dOpOE, dIsiOwn, D.isSc, onStrs, dGet2, dctC, keyOf, gTs, gNs, dAsg, cut11, cut12, cut13, fSlC, dSelf, okM, dMethO, dChk, dMake, onObj, dFld, onFld, dPutFld, onObjS, lk_given, lk_value, lk_piece, lk_staged, lk_fresh, lk_with, putI_nil, putI_given, gStr, dRaise, dTryAs, dTryO, fSl_lo2, fSl_lo3, fSl_lo4, fSl_hi1, fSl_hi2, fSl_hi3]))
local macro_rules | `(tactic| walk_at "cm") => `(tactic| first | (unfold CMul; omega) | (unfold CDiv; omega) | (unfold CPow; omega) | decide | omega)
local macro_rules | `(tactic| walk_at "dr") => `(tactic| (simp only [dNext, dSet, dRet, dDrop, dIfS, dTest, dOp, dVar, dC, dNil, dCons, dConsS, dTup, dLst, dF, dCB, dAnd, dOr, dNot, dAndV, dOrV, dNotV, dIf, dUn, dSl, dNo, dPart, dCall, dSetF, fLst, fLc, dSrc, dForR, dRetOwn, dPutIx, dIxOwn, dApp, dLenOwn, dInOwn, dJoinOwn, dJoin, dIsi, dRng1,
  onVal, onVals, onBl, onInt, onMut, onOwn, onSome_s, onArgs, refs, putS, outs, dst0, okSet, Sl.mut, Sl.toD, Sl.isObj, D.items, fIx, fEq, fNe, fNeg, okEq_str, okEq_int, deq_refl, deq_int, atI0, atI1, atI2, atI3, atI4, atI5, atI_q, fSl1, gList, gTpl, gLen, gInt, gSum, dMaxD, fI, fI0, fAdd, gN, gMax2, gMin2, gStr, D.is_int, D.is_bool, D.is_str, D.is_tuple, D.is_list,
  List.map_cons, List.map_nil, List.length_cons, List.length_nil, List.cons_append, List.nil_append, List.getElem?_cons_zero, List.getElem?_cons_succ, List.set_cons_zero, List.set_cons_succ, List.replicate, Nat.reduceAdd, Nat.reduceSub, Nat.zero_add, Nat.sub_zero, ite_dec,
  if_true, if_false, Bool.false_eq_true, true_and, and_true, decide_true, List.nodup_nil, List.getElem?_nil, Nat.reduceLeDiff, Nat.add_eq, Nat.add_zero, reduceIte, List.Nodup, List.pairwise_cons, List.not_mem_nil, false_implies, implies_true, List.Pairwise.nil, w_num_name, w_num_sum, w_num_product, w_num_less, w_num_when, w_num_let, w_num_turns, w_num_def, w_num_use, w_num_quote, w_num_hole, w_num_lift, w_num_run, w_num_number, w_num_piece, w_num_kept, w_name_num, w_name_sum, w_name_product, w_name_less, w_name_when, w_name_let, w_name_turns, w_name_def, w_name_use, w_name_quote, w_name_hole, w_name_lift, w_name_run, w_name_number, w_name_piece, w_name_kept, w_sum_num, w_sum_name, w_sum_product, w_sum_less, w_sum_when, w_sum_let, w_sum_turns, w_sum_def, w_sum_use, w_sum_quote, w_sum_hole, w_sum_lift, w_sum_run, w_sum_number, w_sum_piece, w_sum_kept, w_product_num, w_product_name, w_product_sum, w_product_less, w_product_when, w_product_let, w_product_turns, w_product_def, w_product_use, w_product_quote, w_product_hole, w_product_lift, w_product_run, w_product_number, w_product_piece, w_product_kept, w_less_num, w_less_name, w_less_sum, w_less_product, w_less_when, w_less_let, w_less_turns, w_less_def, w_less_use, w_less_quote, w_less_hole, w_less_lift, w_less_run, w_less_number, w_less_piece, w_less_kept, w_when_num, w_when_name, w_when_sum, w_when_product, w_when_less, w_when_let, w_when_turns, w_when_def, w_when_use, w_when_quote, w_when_hole, w_when_lift, w_when_run, w_when_number, w_when_piece, w_when_kept, w_let_num, w_let_name, w_let_sum, w_let_product, w_let_less, w_let_when, w_let_turns, w_let_def, w_let_use, w_let_quote, w_let_hole, w_let_lift, w_let_run, w_let_number, w_let_piece, w_let_kept, w_turns_num, w_turns_name, w_turns_sum, w_turns_product, w_turns_less, w_turns_when, w_turns_let, w_turns_def, w_turns_use, w_turns_quote, w_turns_hole, w_turns_lift, w_turns_run, w_turns_number, w_turns_piece, w_turns_kept, w_def_num, w_def_name, w_def_sum, w_def_product, w_def_less, w_def_when, w_def_let, w_def_turns, w_def_use, w_def_quote, w_def_hole, w_def_lift, w_def_run, w_def_number, w_def_piece, w_def_kept, w_use_num, w_use_name, w_use_sum, w_use_product, w_use_less, w_use_when, w_use_let, w_use_turns, w_use_def, w_use_quote, w_use_hole, w_use_lift, w_use_run, w_use_number, w_use_piece, w_use_kept, w_quote_num, w_quote_name, w_quote_sum, w_quote_product, w_quote_less, w_quote_when, w_quote_let, w_quote_turns, w_quote_def, w_quote_use, w_quote_hole, w_quote_lift, w_quote_run, w_quote_number, w_quote_piece, w_quote_kept, w_hole_num, w_hole_name, w_hole_sum, w_hole_product, w_hole_less, w_hole_when, w_hole_let, w_hole_turns, w_hole_def, w_hole_use, w_hole_quote, w_hole_lift, w_hole_run, w_hole_number, w_hole_piece, w_hole_kept, w_lift_num, w_lift_name, w_lift_sum, w_lift_product, w_lift_less, w_lift_when, w_lift_let, w_lift_turns, w_lift_def, w_lift_use, w_lift_quote, w_lift_hole, w_lift_run, w_lift_number, w_lift_piece, w_lift_kept, w_run_num, w_run_name, w_run_sum, w_run_product, w_run_less, w_run_when, w_run_let, w_run_turns, w_run_def, w_run_use, w_run_quote, w_run_hole, w_run_lift, w_run_number, w_run_piece, w_run_kept, w_number_num, w_number_name, w_number_sum, w_number_product, w_number_less, w_number_when, w_number_let, w_number_turns, w_number_def, w_number_use, w_number_quote, w_number_hole, w_number_lift, w_number_run, w_number_piece, w_number_kept, w_piece_num, w_piece_name, w_piece_sum, w_piece_product, w_piece_less, w_piece_when, w_piece_let, w_piece_turns, w_piece_def, w_piece_use, w_piece_quote, w_piece_hole, w_piece_lift, w_piece_run, w_piece_number, w_piece_kept, w_kept_num, w_kept_name, w_kept_sum, w_kept_product, w_kept_less, w_kept_when, w_kept_let, w_kept_turns, w_kept_def, w_kept_use, w_kept_quote, w_kept_hole, w_kept_lift, w_kept_run, w_kept_number, w_kept_piece, fl_num, fl_name, fl_sum, fl_product, fl_less, fl_when, fl_let, fl_turns, fl_def, fl_use, fl_quote, fl_hole, fl_lift, fl_run, fl_number, fl_piece, fl_kept, fIn_T, fIn_Tn, inD_cons, inD_nil, ixN0, fl_i, List.all_cons, List.all_nil, Bool.and_true, Bool.and_self, Bool.or_false, Bool.false_or, Bool.true_or, Bool.or_true, Bool.not_true, Bool.not_false, dForZ, oVal, oNew, oNil, gLs, fDNew, fDCopy, dDGet, dDIn, onDic, dRetDic, dDPut, dNoX, dBad, dReSet, fAddOwn, fCall, D.noL, D.noLs, dOpOO, dOpEO, dOpOE, dIsiOwn, D.isSc, onStrs, dGet2, dctC, keyOf, gTs, gNs, dAsg, cut11, cut12, cut13, fSlC, dSelf, okM, dMethO, dChk, dMake, onObj, dFld, onFld, dPutFld, onObjS, lk_given, lk_value, lk_piece, lk_staged, lk_fresh, lk_with, putI_nil, putI_given, gStr, dRaise, dTryAs, dTryO, fSl_lo2, fSl_lo3, fSl_lo4, fSl_hi1, fSl_hi2, fSl_hi3]))
def spWide (F : Nat) : DSp := fun ss E Q => ∃ m : Nat, ss = [.val (.int m)] ∧ 1 ≤ m ∧ 2 * m ≤ 2 ^ F ∧ Q (wideT (F - 1) m).toD ss
def evenZ (z : Nat) : Bool := decide (z % 2 = 0)
def moreZ (z : Nat) : Nat := (z - (if evenZ z then 1026 else 1023)) / 2
def spGreat : DSp := fun ss E Q => ∃ (x : Str) (z : Nat), ss = [.val (.str x), .val (.int z)] ∧ 1997 ≤ z ∧ z ≤ 2003 ∧ Q (.lst [(greatT x (evenZ z) (wideT 9 (moreZ z))).toD, .int (512 + moreZ z)]) ss
def spStep : DSp := fun ss E Q => ∃ (way : Int) (x y : Str), ss = [.val (.int way), .val (.str x), .val (.str y)] ∧ Q (stepD way x y).toD ss
def spDeep : DSp := fun ss E Q => ∃ (x y : Str) (d : Nat) (way : Int), ss = [.val (.str x), .val (.str y), .val (.int d), .val (.int way)] ∧ 24 ≤ d ∧ d ≤ 33 ∧ ∀ ms : List Nat, ms.sum = d - 2 → (∀ m ∈ ms, m ≤ 9) → ms.length ≤ ms.sum → Q (.lst [(chainD way x y ms).toD, .int (1 + 2 * ((d : Int) - 2) * (if way = 0 then 1 else 0))]) ss
section
variable {P : Program} {w : World} {K : PySem.W.Frag} {mg : Str → Option Value} {base : Heap}
theorem ok__law_wide {F : Nat} (g : G K mg)
    (h__law_wide : FnR P w K mg base (F + 1) g.a__law_wide g.d__law_wide ["_law_many"] (liftSp K (spWide F)))
    : FnR P w K mg base (F + 1 + 1) g.a__law_wide g.d__law_wide ["_law_many"] (liftSp K (spWide (F + 1))) := by
  refine okD g.p__law_wide.F sc__law_wide (by rintro ss E Q ⟨m, rfl, _⟩; rfl) fun cdv A outer s H E hr => ⟨_, _, (pss_cons (ps_if (pt_cmpR (opEq hr.un64) (pv 0) pe_int (nomark _)) (pss_one (ps_ret (pe_tup (pa_cons pe_str (pa_cons pe_int pa_nil))))) pss_nil) (pss_cons (ps_set (i := 1) sc__law_wide.nd rfl (by first | exact Or.inl rfl | exact Or.inr rfl) (pe_op op_fdiv (pv 0) pe_int)) (pss_one (ps_ret (pe_tup (pa_cons pe_str (pa_cons (pe_callR h__law_wide (hr.mono (by omega)) rfl g.p__law_wide.g g.p__law_wide.F.kp g.p__law_wide.b passE (pa_cons (pv 1) pa_nil)) (pa_cons (pe_callR h__law_wide (hr.mono (by omega)) rfl g.p__law_wide.g g.p__law_wide.F.kp g.p__law_wide.b passE (pa_cons (pe_op op_sub (pv 0) (pv 1)) pa_nil)) pa_nil)))))))), (ss_seq (ss_if (st_test (se_op sEq se_var se_int)) (ss_ret (se_tup (sa_cons se_str (sa_cons se_int sa_nil)))) ss_next) (ss_seq (ss_set (se_op sDiv se_var se_int)) (ss_ret (se_tup (sa_cons se_str (sa_cons (se_call (sa_cons se_var sa_nil)) (sa_cons (se_call (sa_cons (se_op sSub se_var se_var) sa_nil)) sa_nil))))))), ?_⟩
  rintro ss Ed Q ⟨m, rfl, h1, h2, hq⟩
  refine x_seq fun R hR => ?_
  walk_at "dr"
  by_cases e : m = 1
  · subst e
    rw [if_pos (by decide)]
    have : wideT (F + 1 - 1) 1 = .num 1 := by cases F <;> simp [wideT]
    rw [this] at hq
    exact hq
  · rw [if_neg (by omega)]
    rw [Nat.pow_succ] at h2
    obtain ⟨G, rfl⟩ : ∃ G, F = G + 1 := ⟨F - 1, by cases F with | zero => simp at h2; omega | succ n => rfl⟩
    rw [Nat.pow_succ] at h2
    refine hR _ ?_
    clear hR
    refine x_seq fun R hR => ?_
    walk_at "dr"
    refine ⟨by walk_at "cm", ?_⟩
    rw [show (m : Int) / 2 = ((m / 2 : Nat) : Int) by omega]
    refine hR _ ?_
    clear hR
    walk_at "dr"
    refine ⟨m / 2, rfl, by omega, by rw [Nat.pow_succ]; omega, ?_⟩
    walk_at "dr"
    rw [show (m : Int) - ((m / 2 : Nat) : Int) = ((m - m / 2 : Nat) : Int) by omega]
    refine ⟨m - m / 2, rfl, by omega, by rw [Nat.pow_succ]; omega, ?_⟩
    walk_at "dr"
    simp only [Nat.add_sub_cancel] at hq ⊢
    rw [wideT, if_neg e] at hq
    exact hq
theorem ok_wideN (g : G K mg) : ∀ F : Nat, Dq.FnR P w K mg base (F + 1) g.a__law_wide g.d__law_wide ["_law_many"] (liftSp K (spWide F))
  | 0 => FnR.void (by rintro vs H Q E ⟨ss, Ed, Mx, Qd, _, _, ⟨m, _, h, h2, _⟩, _⟩; simp at h2; omega)
  | F + 1 => ok__law_wide g (ok_wideN g F)
theorem ok__law_great (g : G K mg)
    (h__law_wide : FnR P w K mg base (11) g.a__law_wide g.d__law_wide ["_law_many"] (liftSp K (spWide 10)))
    : FnR P w K mg base (11 + 1) g.a__law_great g.d__law_great ["_law_x", "_law_size"] (liftSp K (spGreat)) := by
  refine okD g.p__law_great.F sc__law_great (by rintro ss E Q ⟨x, z, rfl, _⟩; rfl) fun cdv A outer s H E hr => ⟨_, _, (pss_cons (ps_set (i := 2) sc__law_great.nd rfl (by first | exact Or.inl rfl | exact Or.inr rfl) (pe_tup (pa_cons pe_str (pa_cons (pe_tup (pa_cons pe_str (pa_cons (pe_tup (pa_cons pe_str (pa_cons (pe_tup (pa_cons pe_str (pa_cons (pv 0) pa_nil))) pa_nil))) (pa_cons (pe_tup (pa_cons pe_str (pa_cons (pe_tup (pa_cons pe_str (pa_cons (pv 0) pa_nil))) pa_nil))) pa_nil)))) pa_nil)))) (pss_cons (ps_set (i := 3) sc__law_great.nd rfl (by first | exact Or.inl rfl | exact Or.inr rfl) (pe_tup (pa_cons pe_str (pa_cons pe_int (pa_cons (pv 0) (pa_cons (pe_tup (pa_cons pe_str (pa_cons (pe_tup (pa_cons pe_str (pa_cons pe_int pa_nil))) pa_nil))) (pa_cons (pv 2) pa_nil))))))) (pss_cons (ps_set (i := 4) sc__law_great.nd rfl (by first | exact Or.inl rfl | exact Or.inr rfl) pe_int) (pss_cons (ps_set (i := 5) sc__law_great.nd rfl (by first | exact Or.inl rfl | exact Or.inr rfl) pe_int) (pss_cons (ps_if (pt_cmpR (opEq hr.un64) (pe_op op_mod (pv 1) pe_int) pe_int (nomark _)) (pss_cons (ps_set (i := 3) sc__law_great.nd rfl (by first | exact Or.inl rfl | exact Or.inr rfl) (pe_tup (pa_cons pe_str (pa_cons (pv 0) (pa_cons (pv 3) (pa_cons (pe_tup (pa_cons pe_str (pa_cons (pe_tup (pa_cons pe_str (pa_cons (pe_tup (pa_cons pe_str (pa_cons pe_int pa_nil))) (pa_cons (pe_tup (pa_cons pe_str (pa_cons (pe_tup (pa_cons pe_str (pa_cons (pv 0) pa_nil))) pa_nil))) (pa_cons (pe_tup (pa_cons pe_str (pa_cons pe_int pa_nil))) pa_nil))))) pa_nil))) pa_nil)))))) (pss_one (ps_set (i := 5) sc__law_great.nd rfl (by first | exact Or.inl rfl | exact Or.inr rfl) pe_int))) pss_nil) (pss_cons (ps_set (i := 6) sc__law_great.nd rfl (by first | exact Or.inl rfl | exact Or.inr rfl) (pe_op op_fdiv (pe_op op_sub (pv 1) (pv 5)) pe_int)) (pss_one (ps_ret (pe_lst (pa_cons (pe_tup (pa_cons pe_str (pa_cons (pv 0) (pa_cons (pv 3) (pa_cons (pe_tup (pa_cons pe_str (pa_cons (pe_tup (pa_cons pe_str (pa_cons (pe_tup (pa_cons pe_str (pa_cons (pe_tup (pa_cons pe_str (pa_cons (pv 0) pa_nil))) pa_nil))) (pa_cons (pe_callR h__law_wide (hr.mono (by omega)) rfl g.p__law_wide.g g.p__law_wide.F.kp g.p__law_wide.b passE (pa_cons (pv 6) pa_nil)) pa_nil)))) pa_nil))) pa_nil))))) (pa_cons (pe_op opAdd (pv 4) (pv 6)) pa_nil))))))))))), (ss_seq (ss_set (se_tup (sa_cons se_str (sa_cons (se_tup (sa_cons se_str (sa_cons (se_tup (sa_cons se_str (sa_cons (se_tup (sa_cons se_str (sa_cons se_var sa_nil))) sa_nil))) (sa_cons (se_tup (sa_cons se_str (sa_cons (se_tup (sa_cons se_str (sa_cons se_var sa_nil))) sa_nil))) sa_nil)))) sa_nil)))) (ss_seq (ss_set (se_tup (sa_cons se_str (sa_cons se_int (sa_cons se_var (sa_cons (se_tup (sa_cons se_str (sa_cons (se_tup (sa_cons se_str (sa_cons se_int sa_nil))) sa_nil))) (sa_cons se_var sa_nil))))))) (ss_seq (ss_set se_int) (ss_seq (ss_set se_int) (ss_seq (ss_if (st_test (se_op sEq (se_op sMod se_var se_int) se_int)) (ss_seq (ss_set (se_tup (sa_cons se_str (sa_cons se_var (sa_cons se_var (sa_cons (se_tup (sa_cons se_str (sa_cons (se_tup (sa_cons se_str (sa_cons (se_tup (sa_cons se_str (sa_cons se_int sa_nil))) (sa_cons (se_tup (sa_cons se_str (sa_cons (se_tup (sa_cons se_str (sa_cons se_var sa_nil))) sa_nil))) (sa_cons (se_tup (sa_cons se_str (sa_cons se_int sa_nil))) sa_nil))))) sa_nil))) sa_nil)))))) (ss_set se_int)) ss_next) (ss_seq (ss_set (se_op sDiv (se_op sSub se_var se_var) se_int)) (ss_ret (se_lst (sa_cons (se_tup (sa_cons se_str (sa_cons se_var (sa_cons se_var (sa_cons (se_tup (sa_cons se_str (sa_cons (se_tup (sa_cons se_str (sa_cons (se_tup (sa_cons se_str (sa_cons (se_tup (sa_cons se_str (sa_cons se_var sa_nil))) sa_nil))) (sa_cons (se_call (sa_cons se_var sa_nil)) sa_nil)))) sa_nil))) sa_nil))))) (sa_cons (se_op sAdd se_var se_var) sa_nil)))))))))), ?_⟩
  rintro ss Ed Q ⟨x, z, rfl, h1, h2, hq⟩
  have hm : 1 ≤ moreZ z ∧ moreZ z ≤ 512 := by unfold moreZ evenZ; split <;> omega
  refine x_seq fun R hR => ?_
  walk_at "dr"
  refine hR _ ?_
  clear hR
  refine x_seq fun R hR => ?_
  walk_at "dr"
  refine hR _ ?_
  clear hR
  refine x_seq fun R hR => ?_
  walk_at "dr"
  refine hR _ ?_
  clear hR
  refine x_seq fun R hR => ?_
  walk_at "dr"
  refine hR _ ?_
  clear hR
  refine x_seq fun R hR => ?_
  have key : R [some (.val (.str x)), some (.val (.int z)), some (.val (twT x).toD), some (.val (startT x (evenZ z)).toD), some (.val (.int 512)), some (.val (.int (if evenZ z then 1026 else 1023))), none] := by
    refine hR _ ?_
    clear hR
    refine x_seq fun R hR => ?_
    walk_at "dr"
    refine ⟨by walk_at "cm", ?_⟩
    rw [show ((z : Int) - (if evenZ z = true then 1026 else 1023)) / 2 = (moreZ z : Int) by unfold moreZ; split <;> omega]
    refine hR _ ?_
    clear hR
    walk_at "dr"
    refine ⟨moreZ z, rfl, by omega, by show 2 * moreZ z ≤ 2 ^ 10; omega, ?_⟩
    walk_at "dr"
    exact hq
  clear hR
  walk_at "dr"
  refine ⟨by decide, ?_⟩
  by_cases e : z % 2 = 0
  · rw [if_pos (by omega)]
    have ev : evenZ z = true := by unfold evenZ; simp [e]
    rw [ev] at key
    refine x_seq fun R hR => ?_
    walk_at "dr"
    refine hR _ ?_
    walk_at "dr"
    exact key
  · rw [if_neg (by omega)]
    have ev : evenZ z = false := by unfold evenZ; simp [e]
    rw [ev] at key
    exact key
theorem ok__law_step (g : G K mg)
    : FnR P w K mg base (0 + 1) g.a__law_step g.d__law_step ["_law_way", "_law_x", "_law_y"] (liftSp K (spStep)) := by
  refine okD g.p__law_step.F sc__law_step (by rintro ss E Q ⟨w, x, z, rfl, _⟩; rfl) fun cdv A outer s H E hr => ⟨_, _, (pss_cons (ps_set (i := 3) sc__law_step.nd rfl (by first | exact Or.inl rfl | exact Or.inr rfl) (pe_tup (pa_cons pe_str (pa_cons (pe_tup (pa_cons pe_str (pa_cons (pv 1) pa_nil))) pa_nil)))) (pss_cons (ps_if (pt_cmpR (opEq hr.un64) (pv 0) pe_int (nomark _)) (pss_one (ps_ret (pe_tup (pa_cons pe_str (pa_cons (pe_tup (pa_cons pe_str (pa_cons pe_int pa_nil))) (pa_cons (pv 3) pa_nil)))))) pss_nil) (pss_cons (ps_if (pt_cmpR (opEq hr.un64) (pv 0) pe_int (nomark _)) (pss_one (ps_ret (pe_tup (pa_cons pe_str (pa_cons (pv 2) (pa_cons (pv 3) (pa_cons (pe_tup (pa_cons pe_str (pa_cons (pv 2) pa_nil))) pa_nil))))))) pss_nil) (pss_cons (ps_if (pt_cmpR (opEq hr.un64) (pv 0) pe_int (nomark _)) (pss_one (ps_ret (pe_tup (pa_cons pe_str (pa_cons (pe_tup (pa_cons pe_str (pa_cons pe_int pa_nil))) (pa_cons (pe_tup (pa_cons pe_str (pa_cons pe_int pa_nil))) (pa_cons (pv 3) pa_nil))))))) pss_nil) (pss_cons (ps_if (pt_cmpR (opEq hr.un64) (pv 0) pe_int (nomark _)) (pss_one (ps_ret (pe_tup (pa_cons pe_str (pa_cons (pe_tup (pa_cons pe_str (pa_cons pe_int pa_nil))) (pa_cons (pv 3) pa_nil)))))) pss_nil) (pss_cons (ps_if (pt_cmpR (opEq hr.un64) (pv 0) pe_int (nomark _)) (pss_one (ps_ret (pe_tup (pa_cons pe_str (pa_cons pe_int (pa_cons (pv 2) (pa_cons (pe_tup (pa_cons pe_str (pa_cons pe_int pa_nil))) (pa_cons (pv 3) pa_nil)))))))) pss_nil) (pss_one (ps_ret (pe_tup (pa_cons pe_str (pa_cons (pv 2) (pa_cons (pv 2) (pa_cons pe_str (pa_cons (pv 3) (pa_cons (pe_tup (pa_cons pe_str (pa_cons (pv 2) (pa_cons (pe_tup (pa_cons pe_str (pa_cons pe_int pa_nil))) pa_nil)))) pa_nil))))))))))))))), (ss_seq (ss_set (se_tup (sa_cons se_str (sa_cons (se_tup (sa_cons se_str (sa_cons se_var sa_nil))) sa_nil)))) (ss_seq (ss_if (st_test (se_op sEq se_var se_int)) (ss_ret (se_tup (sa_cons se_str (sa_cons (se_tup (sa_cons se_str (sa_cons se_int sa_nil))) (sa_cons se_var sa_nil))))) ss_next) (ss_seq (ss_if (st_test (se_op sEq se_var se_int)) (ss_ret (se_tup (sa_cons se_str (sa_cons se_var (sa_cons se_var (sa_cons (se_tup (sa_cons se_str (sa_cons se_var sa_nil))) sa_nil)))))) ss_next) (ss_seq (ss_if (st_test (se_op sEq se_var se_int)) (ss_ret (se_tup (sa_cons se_str (sa_cons (se_tup (sa_cons se_str (sa_cons se_int sa_nil))) (sa_cons (se_tup (sa_cons se_str (sa_cons se_int sa_nil))) (sa_cons se_var sa_nil)))))) ss_next) (ss_seq (ss_if (st_test (se_op sEq se_var se_int)) (ss_ret (se_tup (sa_cons se_str (sa_cons (se_tup (sa_cons se_str (sa_cons se_int sa_nil))) (sa_cons se_var sa_nil))))) ss_next) (ss_seq (ss_if (st_test (se_op sEq se_var se_int)) (ss_ret (se_tup (sa_cons se_str (sa_cons se_int (sa_cons se_var (sa_cons (se_tup (sa_cons se_str (sa_cons se_int sa_nil))) (sa_cons se_var sa_nil))))))) ss_next) (ss_ret (se_tup (sa_cons se_str (sa_cons se_var (sa_cons se_var (sa_cons se_str (sa_cons se_var (sa_cons (se_tup (sa_cons se_str (sa_cons se_var (sa_cons (se_tup (sa_cons se_str (sa_cons se_int sa_nil))) sa_nil)))) sa_nil)))))))))))))), ?_⟩
  rintro ss Ed Q ⟨way, x, y, rfl, hq⟩
  unfold stepD at hq
  refine x_seq fun R hR => ?_
  walk_at "dr"
  refine hR _ ?_
  clear hR
  refine x_seq fun R hR => ?_
  walk_at "dr"
  by_cases c0 : way = 0
  · rw [if_pos c0]
    rw [if_pos c0] at hq
    exact hq
  rw [if_neg c0]
  rw [if_neg c0] at hq
  refine hR _ ?_
  clear hR
  refine x_seq fun R hR => ?_
  walk_at "dr"
  by_cases c1 : way = 1
  · rw [if_pos c1]
    rw [if_pos c1] at hq
    exact hq
  rw [if_neg c1]
  rw [if_neg c1] at hq
  refine hR _ ?_
  clear hR
  refine x_seq fun R hR => ?_
  walk_at "dr"
  by_cases c2 : way = 2
  · rw [if_pos c2]
    rw [if_pos c2] at hq
    exact hq
  rw [if_neg c2]
  rw [if_neg c2] at hq
  refine hR _ ?_
  clear hR
  refine x_seq fun R hR => ?_
  walk_at "dr"
  by_cases c3 : way = 3
  · rw [if_pos c3]
    rw [if_pos c3] at hq
    exact hq
  rw [if_neg c3]
  rw [if_neg c3] at hq
  refine hR _ ?_
  clear hR
  refine x_seq fun R hR => ?_
  walk_at "dr"
  by_cases c4 : way = 4
  · rw [if_pos c4]
    rw [if_pos c4] at hq
    exact hq
  rw [if_neg c4]
  rw [if_neg c4] at hq
  refine hR _ ?_
  clear hR
  walk_at "dr"
  exact hq

end
end Qh

namespace Qh
open PySem PySem.Spec PyProof.Rows L2 Dq
local macro_rules | `(tactic| walk_at "dq") => `(tactic| (simp only [dSeq, dNext, dSet, dRet, dDrop, dIfS, dTest, dOp, dVar, dC, dNil, dCons, dConsS, dTup, dLst, dF, dCB, dAnd, dOr, dNot, dAndV, dOrV, dNotV, dIf, dUn, dSl, dNo, dPart, dCall, dSetF, fLst, fLc, dSrc, dForR, dRetOwn, dPutIx, dIxOwn, dApp, dLenOwn, dInOwn, dJoinOwn, dJoin, dIsi, dRng1,
  onVal, onVals, onBl, onInt, onMut, onOwn, onSome_s, onArgs, refs, putS, outs, dst0, okSet, Sl.mut, Sl.toD, Sl.isObj, D.items, fIx, fEq, fNe, fNeg, okEq_str, okEq_int, deq_refl, deq_int, atI0, atI1, atI2, atI3, atI4, atI5, atI_q, fSl1, gList, gTpl, gLen, gInt, gSum, dMaxD, fI, fI0, fAdd, gN, gMax2, gMin2, gStr, D.is_int, D.is_bool, D.is_str, D.is_tuple, D.is_list,
  List.map_cons, List.map_nil, List.length_cons, List.length_nil, List.cons_append, List.nil_append, List.getElem?_cons_zero, List.getElem?_cons_succ, List.set_cons_zero, List.set_cons_succ, List.replicate, Nat.reduceAdd, Nat.reduceSub, Nat.zero_add, Nat.sub_zero, ite_dec,
  if_true, if_false, Bool.false_eq_true, true_and, and_true, decide_true, List.nodup_nil, List.getElem?_nil, Nat.reduceLeDiff, Nat.add_eq, Nat.add_zero, reduceIte, List.Nodup, List.pairwise_cons, List.not_mem_nil, false_implies, implies_true, List.Pairwise.nil, w_num_name, w_num_sum, w_num_product, w_num_less, w_num_when, w_num_let, w_num_turns, w_num_def, w_num_use, w_num_quote, w_num_hole, w_num_lift, w_num_run, w_num_number, w_num_piece, w_num_kept, w_name_num, w_name_sum, w_name_product, w_name_less, w_name_when, w_name_let, w_name_turns, w_name_def, w_name_use, w_name_quote, w_name_hole, w_name_lift, w_name_run, w_name_number, w_name_piece, w_name_kept, w_sum_num, w_sum_name, w_sum_product, w_sum_less, w_sum_when, w_sum_let, w_sum_turns, w_sum_def, w_sum_use, w_sum_quote, w_sum_hole, w_sum_lift, w_sum_run, w_sum_number, w_sum_piece, w_sum_kept, w_product_num, w_product_name, w_product_sum, w_product_less, w_product_when, w_product_let, w_product_turns, w_product_def, w_product_use, w_product_quote, w_product_hole, w_product_lift, w_product_run, w_product_number, w_product_piece, w_product_kept, w_less_num, w_less_name, w_less_sum, w_less_product, w_less_when, w_less_let, w_less_turns, w_less_def, w_less_use, w_less_quote, w_less_hole, w_less_lift, w_less_run, w_less_number, w_less_piece, w_less_kept, w_when_num, w_when_name, w_when_sum, w_when_product, w_when_less, w_when_let, w_when_turns, w_when_def, w_when_use, w_when_quote, w_when_hole, w_when_lift, w_when_run, w_when_number, w_when_piece, w_when_kept, w_let_num, w_let_name, w_let_sum, w_let_product, w_let_less, w_let_when, w_let_turns, w_let_def, w_let_use, w_let_quote, w_let_hole, w_let_lift, w_let_run, w_let_number, w_let_piece, w_let_kept, w_turns_num, w_turns_name, w_turns_sum, w_turns_product, w_turns_less, w_turns_when, w_turns_let, w_turns_def, w_turns_use, w_turns_quote, w_turns_hole, w_turns_lift, w_turns_run, w_turns_number, w_turns_piece, w_turns_kept, w_def_num, w_def_name, w_def_sum, w_def_product, w_def_less, w_def_when, w_def_let, w_def_turns, w_def_use, w_def_quote, w_def_hole, w_def_lift, w_def_run, w_def_number, w_def_piece, w_def_kept, w_use_num, w_use_name, w_use_sum, w_use_product, w_use_less, w_use_when, w_use_let, w_use_turns, w_use_def, w_use_quote, w_use_hole, w_use_lift, w_use_run, w_use_number, w_use_piece, w_use_kept, w_quote_num, w_quote_name, w_quote_sum, w_quote_product, w_quote_less, w_quote_when, w_quote_let, w_quote_turns, w_quote_def, w_quote_use, w_quote_hole, w_quote_lift, w_quote_run, w_quote_number, w_quote_piece, w_quote_kept, w_hole_num, w_hole_name, w_hole_sum, w_hole_product, w_hole_less, w_hole_when, w_hole_let, w_hole_turns, w_hole_def, w_hole_use, w_hole_quote, w_hole_lift, w_hole_run, w_hole_number, w_hole_piece, w_hole_kept, w_lift_num, w_lift_name, w_lift_sum, w_lift_product, w_lift_less, w_lift_when, w_lift_let, w_lift_turns, w_lift_def, w_lift_use, w_lift_quote, w_lift_hole, w_lift_run, w_lift_number, w_lift_piece, w_lift_kept, w_run_num, w_run_name, w_run_sum, w_run_product, w_run_less, w_run_when, w_run_let, w_run_turns, w_run_def, w_run_use, w_run_quote, w_run_hole, w_run_lift, w_run_number, w_run_piece, w_run_kept, w_number_num, w_number_name, w_number_sum, w_number_product, w_number_less, w_number_when, w_number_let, w_number_turns, w_number_def, w_number_use, w_number_quote, w_number_hole, w_number_lift, w_number_run, w_number_piece, w_number_kept, w_piece_num, w_piece_name, w_piece_sum, w_piece_product, w_piece_less, w_piece_when, w_piece_let, w_piece_turns, w_piece_def, w_piece_use, w_piece_quote, w_piece_hole, w_piece_lift, w_piece_run, w_piece_number, w_piece_kept, w_kept_num, w_kept_name, w_kept_sum, w_kept_product, w_kept_less, w_kept_when, w_kept_let, w_kept_turns, w_kept_def, w_kept_use, w_kept_quote, w_kept_hole, w_kept_lift, w_kept_run, w_kept_number, w_kept_piece, fl_num, fl_name, fl_sum, fl_product, fl_less, fl_when, fl_let, fl_turns, fl_def, fl_use, fl_quote, fl_hole, fl_lift, fl_run, fl_number, fl_piece, fl_kept, fIn_T, fIn_Tn, inD_cons, inD_nil, ixN0, fl_i, List.all_cons, List.all_nil, Bool.and_true, Bool.and_self, Bool.or_false, Bool.false_or, Bool.true_or, Bool.or_true, Bool.not_true, Bool.not_false, dForZ, oVal, oNew, oNil, gLs, fDNew, fDCopy, dDGet, dDIn, onDic, dRetDic, dDPut, dNoX, dBad, dReSet, fAddOwn, fCall, D.noL, D.noLs, dOpOO, dOpEO, dOpOE, dIsiOwn, D.isSc, onStrs, dGet2, dctC, keyOf, gTs, gNs, dAsg, cut11, cut12, cut13, fSlC, dSelf, okM, dMethO, dChk, dMake, onObj, dFld, onFld, dPutFld, onObjS, lk_given, lk_value, lk_piece, lk_staged, lk_fresh, lk_with, putI_nil, putI_given, gStr, dRaise, dTryAs, dTryO, fSl_lo2, fSl_lo3, fSl_lo4, fSl_hi1, fSl_hi2, fSl_hi3]))
local macro_rules | `(tactic| walk_at "cm") => `(tactic| first | (unfold CMul; omega) | (unfold CDiv; omega) | (unfold CPow; omega) | decide | omega)
local macro_rules | `(tactic| walk_at "dr") => `(tactic| (simp only [dNext, dSet, dRet, dDrop, dIfS, dTest, dOp, dVar, dC, dNil, dCons, dConsS, dTup, dLst, dF, dCB, dAnd, dOr, dNot, dAndV, dOrV, dNotV, dIf, dUn, dSl, dNo, dPart, dCall, dSetF, fLst, fLc, dSrc, dForR, dRetOwn, dPutIx, dIxOwn, dApp, dLenOwn, dInOwn, dJoinOwn, dJoin, dIsi, dRng1,
  onVal, onVals, onBl, onInt, onMut, onOwn, onSome_s, onArgs, refs, putS, outs, dst0, okSet, Sl.mut, Sl.toD, Sl.isObj, D.items, fIx, fEq, fNe, fNeg, okEq_str, okEq_int, deq_refl, deq_int, atI0, atI1, atI2, atI3, atI4, atI5, atI_q, fSl1, gList, gTpl, gLen, gInt, gSum, dMaxD, fI, fI0, fAdd, gN, gMax2, gMin2, gStr, D.is_int, D.is_bool, D.is_str, D.is_tuple, D.is_list,
  List.map_cons, List.map_nil, List.length_cons, List.length_nil, List.cons_append, List.nil_append, List.getElem?_cons_zero, List.getElem?_cons_succ, List.set_cons_zero, List.set_cons_succ, List.replicate, Nat.reduceAdd, Nat.reduceSub, Nat.zero_add, Nat.sub_zero, ite_dec,
  if_true, if_false, Bool.false_eq_true, true_and, and_true, decide_true, List.nodup_nil, List.getElem?_nil, Nat.reduceLeDiff, Nat.add_eq, Nat.add_zero, reduceIte, List.Nodup, List.pairwise_cons, List.not_mem_nil, false_implies, implies_true, List.Pairwise.nil, w_num_name, w_num_sum, w_num_product, w_num_less, w_num_when, w_num_let, w_num_turns, w_num_def, w_num_use, w_num_quote, w_num_hole, w_num_lift, w_num_run, w_num_number, w_num_piece, w_num_kept, w_name_num, w_name_sum, w_name_product, w_name_less, w_name_when, w_name_let, w_name_turns, w_name_def, w_name_use, w_name_quote, w_name_hole, w_name_lift, w_name_run, w_name_number, w_name_piece, w_name_kept, w_sum_num, w_sum_name, w_sum_product, w_sum_less, w_sum_when, w_sum_let, w_sum_turns, w_sum_def, w_sum_use, w_sum_quote, w_sum_hole, w_sum_lift, w_sum_run, w_sum_number, w_sum_piece, w_sum_kept, w_product_num, w_product_name, w_product_sum, w_product_less, w_product_when, w_product_let, w_product_turns, w_product_def, w_product_use, w_product_quote, w_product_hole, w_product_lift, w_product_run, w_product_number, w_product_piece, w_product_kept, w_less_num, w_less_name, w_less_sum, w_less_product, w_less_when, w_less_let, w_less_turns, w_less_def, w_less_use, w_less_quote, w_less_hole, w_less_lift, w_less_run, w_less_number, w_less_piece, w_less_kept, w_when_num, w_when_name, w_when_sum, w_when_product, w_when_less, w_when_let, w_when_turns, w_when_def, w_when_use, w_when_quote, w_when_hole, w_when_lift, w_when_run, w_when_number, w_when_piece, w_when_kept, w_let_num, w_let_name, w_let_sum, w_let_product, w_let_less, w_let_when, w_let_turns, w_let_def, w_let_use, w_let_quote, w_let_hole, w_let_lift, w_let_run, w_let_number, w_let_piece, w_let_kept, w_turns_num, w_turns_name, w_turns_sum, w_turns_product, w_turns_less, w_turns_when, w_turns_let, w_turns_def, w_turns_use, w_turns_quote, w_turns_hole, w_turns_lift, w_turns_run, w_turns_number, w_turns_piece, w_turns_kept, w_def_num, w_def_name, w_def_sum, w_def_product, w_def_less, w_def_when, w_def_let, w_def_turns, w_def_use, w_def_quote, w_def_hole, w_def_lift, w_def_run, w_def_number, w_def_piece, w_def_kept, w_use_num, w_use_name, w_use_sum, w_use_product, w_use_less, w_use_when, w_use_let, w_use_turns, w_use_def, w_use_quote, w_use_hole, w_use_lift, w_use_run, w_use_number, w_use_piece, w_use_kept, w_quote_num, w_quote_name, w_quote_sum, w_quote_product, w_quote_less, w_quote_when, w_quote_let, w_quote_turns, w_quote_def, w_quote_use, w_quote_hole, w_quote_lift, w_quote_run, w_quote_number, w_quote_piece, w_quote_kept, w_hole_num, w_hole_name, w_hole_sum, w_hole_product, w_hole_less, w_hole_when, w_hole_let, w_hole_turns, w_hole_def, w_hole_use, w_hole_quote, w_hole_lift, w_hole_run, w_hole_number, w_hole_piece, w_hole_kept, w_lift_num, w_lift_name, w_lift_sum, w_lift_product, w_lift_less, w_lift_when, w_lift_let, w_lift_turns, w_lift_def, w_lift_use, w_lift_quote, w_lift_hole, w_lift_run, w_lift_number, w_lift_piece, w_lift_kept, w_run_num, w_run_name, w_run_sum, w_run_product, w_run_less, w_run_when, w_run_let, w_run_turns, w_run_def, w_run_use, w_run_quote, w_run_hole, w_run_lift, w_run_number, w_run_piece, w_run_kept, w_number_num, w_number_name, w_number_sum, w_number_product, w_number_less, w_number_when, w_number_let, w_number_turns, w_number_def, w_number_use, w_number_quote, w_number_hole, w_number_lift, w_number_run, w_number_piece, w_number_kept, w_piece_num, w_piece_name, w_piece_sum, w_piece_product, w_piece_less, w_piece_when, w_piece_let, w_piece_turns, w_piece_def, w_piece_use, w_piece_quote, w_piece_hole, w_piece_lift, w_piece_run, w_piece_number, w_piece_kept, w_kept_num, w_kept_name, w_kept_sum, w_kept_product, w_kept_less, w_kept_when, w_kept_let, w_kept_turns, w_kept_def, w_kept_use, w_kept_quote, w_kept_hole, w_kept_lift, w_kept_run, w_kept_number, w_kept_piece, fl_num, fl_name, fl_sum, fl_product, fl_less, fl_when, fl_let, fl_turns, fl_def, fl_use, fl_quote, fl_hole, fl_lift, fl_run, fl_number, fl_piece, fl_kept, fIn_T, fIn_Tn, inD_cons, inD_nil, ixN0, fl_i, List.all_cons, List.all_nil, Bool.and_true, Bool.and_self, Bool.or_false, Bool.false_or, Bool.true_or, Bool.or_true, Bool.not_true, Bool.not_false, dForZ, oVal, oNew, oNil, gLs, fDNew, fDCopy, dDGet, dDIn, onDic, dRetDic, dDPut, dNoX, dBad, dReSet, fAddOwn, fCall, D.noL, D.noLs, dOpOO, dOpEO, dOpOE, dIsiOwn, D.isSc, onStrs, dGet2, dctC, keyOf, gTs, gNs, dAsg, cut11, cut12, cut13, fSlC, dSelf, okM, dMethO, dChk, dMake, onObj, dFld, onFld, dPutFld, onObjS, lk_given, lk_value, lk_piece, lk_staged, lk_fresh, lk_with, putI_nil, putI_given, gStr, dRaise, dTryAs, dTryO, fSl_lo2, fSl_lo3, fSl_lo4, fSl_hi1, fSl_hi2, fSl_hi3]))
section
variable {P : Program} {w : World} {K : PySem.W.Frag} {mg : Str → Option Value} {base : Heap}
theorem ok__law_deep (g : G K mg)
    (h__law_step : FnR P w K mg base (1) g.a__law_step g.d__law_step ["_law_way", "_law_x", "_law_y"] (liftSp K (spStep)))
    : FnR P w K mg base (1 + 1) g.a__law_deep g.d__law_deep ["_law_x", "_law_y", "_law_deep_here", "_law_way"] (liftSp K (spDeep)) := by
  refine okD g.p__law_deep.F sc__law_deep (by rintro ss E Q ⟨x, y, d, w, rfl, _⟩; rfl) fun cdv A outer s H E hr => ⟨_, _, (pss_cons (ps_set (i := 4) sc__law_deep.nd rfl (by first | exact Or.inl rfl | exact Or.inr rfl) (pe_tup (pa_cons pe_str (pa_cons (pe_tup (pa_cons pe_str (pa_cons (pe_tup (pa_cons pe_str (pa_cons pe_int pa_nil))) (pa_cons (pe_tup (pa_cons pe_str (pa_cons pe_int pa_nil))) pa_nil)))) pa_nil)))) (pss_cons (ps_set (i := 5) sc__law_deep.nd rfl (by first | exact Or.inl rfl | exact Or.inr rfl) (pe_op op_sub (pv 2) pe_int)) (pss_cons (ps_while passOwn (pt_cmpR op_gt (pv 5) pe_int (nomark _)) (pss_cons (ps_set (i := 4) sc__law_deep.nd rfl (by first | exact Or.inl rfl | exact Or.inr rfl) (pe_tup (pa_cons pe_str (pa_cons (pe_callB (crMin2 rfl) rfl g.b_min boot_min (pa_cons (pv 5) (pa_cons pe_int pa_nil))) (pa_cons (pv 0) (pa_cons (pv 4) (pa_cons (pe_tup (pa_cons pe_str (pa_cons (pe_callR h__law_step (hr.mono (by omega)) rfl g.p__law_step.g g.p__law_step.F.kp g.p__law_step.b passE (pa_cons (pv 3) (pa_cons (pv 0) (pa_cons (pv 1) pa_nil)))) pa_nil))) pa_nil))))))) (pss_one (ps_set (i := 5) sc__law_deep.nd rfl (by first | exact Or.inl rfl | exact Or.inr rfl) (pe_op op_sub (pv 5) (pe_callB (crMin2 rfl) rfl g.b_min boot_min (pa_cons (pv 5) (pa_cons pe_int pa_nil)))))))) (pss_one (ps_ret (pe_lst (pa_cons (pv 4) (pa_cons (pe_op opAdd pe_int (pe_op op_mul (pe_op op_mul pe_int (pe_op op_sub (pv 2) pe_int)) (pe_callTy crInt rfl g.b_int (by decide +kernel) (pa_cons (pe_cmpR (opEq hr.un64) (pv 3) pe_int (nomark _)) pa_nil)))) pa_nil)))))))), (ss_seq (ss_set (se_tup (sa_cons se_str (sa_cons (se_tup (sa_cons se_str (sa_cons (se_tup (sa_cons se_str (sa_cons se_int sa_nil))) (sa_cons (se_tup (sa_cons se_str (sa_cons se_int sa_nil))) sa_nil)))) sa_nil)))) (ss_seq (ss_set (se_op sSub se_var se_int)) (ss_seq (ss_while (st_test (se_op sGt se_var se_int)) (ss_seq (ss_set (se_tup (sa_cons se_str (sa_cons (se_cb cMin2 (sa_cons se_var (sa_cons se_int sa_nil))) (sa_cons se_var (sa_cons se_var (sa_cons (se_tup (sa_cons se_str (sa_cons (se_call (sa_cons se_var (sa_cons se_var (sa_cons se_var sa_nil)))) sa_nil))) sa_nil))))))) (ss_set (se_op sSub se_var (se_cb cMin2 (sa_cons se_var (sa_cons se_int sa_nil))))))) (ss_ret (se_lst (sa_cons se_var (sa_cons (se_op sAdd se_int (se_op sMul (se_op sMul se_int (se_op sSub se_var se_int)) (se_cb cInt (sa_cons (se_op sEq se_var se_int) sa_nil)))) sa_nil))))))), ?_⟩
  rintro ss Ed Q ⟨x, y, d, way, rfl, h1, h2, hq⟩
  refine x_seq fun R hR => ?_
  walk_at "dr"
  refine hR _ ?_
  clear hR
  refine x_seq fun R hR => ?_
  walk_at "dr"
  refine hR _ ?_
  clear hR
  refine x_seq fun R hR => ?_
  refine ⟨d, dWh_inv (I := fun n δ => ∃ ms : List Nat, ms.sum + 2 ≤ d ∧ d ≤ ms.sum + n + 1 ∧ (∀ m ∈ ms, m ≤ 9) ∧ ms.length ≤ ms.sum ∧ δ = [some (.val (.str x)), some (.val (.str y)), some (.val (.int d)), some (.val (.int way)), some (.val (chainD way x y ms).toD), some (.val (.int ((d : Int) - 2 - (ms.sum : Int))))]) ?_ ?_ ⟨[], by simp; omega, by simp, by simp, by simp, by simp [chainD, Tm.toD]⟩⟩
  · rintro δ ⟨ms, i1, i2, _⟩
    omega
  · rintro n δ N ⟨ms, i1, i2, i3, i4, rfl⟩ hN
    walk_at "dr"
    by_cases c : 0 < (d : Int) - 2 - (ms.sum : Int)
    · rw [if_pos c]
      obtain ⟨m, hm⟩ : ∃ m : Nat, m = min (d - 2 - ms.sum) 9 := ⟨_, rfl⟩
      refine x_seq fun R hR => ?_
      walk_at "dr"
      refine ⟨way, x, y, rfl, ?_⟩
      walk_at "dr"
      refine hR _ ?_
      clear hR
      walk_at "dr"
      have := hN _ ⟨m :: ms, by simp; omega, by simp; omega, by intro z hz; rcases List.mem_cons.mp hz with rfl | hz; (· omega); (· exact i3 z hz), by simp; omega, rfl⟩
      rw [show (if 9 < (d : Int) - 2 - (ms.sum : Int) then (9 : Int) else (d : Int) - 2 - (ms.sum : Int)) = (m : Int) by split <;> omega]
      rw [show (d : Int) - 2 - (ms.sum : Int) - (m : Int) = (d : Int) - 2 - ((m :: ms).sum : Int) by simp; omega]
      exact this
    · rw [if_neg c]
      refine hR _ ?_
      walk_at "dr"
      have hs : ms.sum = d - 2 := by omega
      have := hq ms hs i3 i4
      refine ⟨by unfold CMul; left; omega, by unfold CMul; left; omega, ?_⟩
      simp only [decide_eq_true_eq]
      exact this

end
end Qh

namespace Qh
open PySem PySem.Spec PyProof.Rows L2 Dq
local macro_rules | `(tactic| walk_at "dq") => `(tactic| (simp only [dSeq, dNext, dSet, dRet, dDrop, dIfS, dTest, dOp, dVar, dC, dNil, dCons, dConsS, dTup, dLst, dF, dCB, dAnd, dOr, dNot, dAndV, dOrV, dNotV, dIf, dUn, dSl, dNo, dPart, dCall, dSetF, fLst, fLc, dSrc, dForR, dRetOwn, dPutIx, dIxOwn, dApp, dLenOwn, dInOwn, dJoinOwn, dJoin, dIsi, dRng1,
  onVal, onVals, onBl, onInt, onMut, onOwn, onSome_s, onArgs, refs, putS, outs, dst0, okSet, Sl.mut, Sl.toD, Sl.isObj, D.items, fIx, fEq, fNe, fNeg, okEq_str, okEq_int, deq_refl, deq_int, atI0, atI1, atI2, atI3, atI4, atI5, atI_q, fSl1, gList, gTpl, gLen, gInt, gSum, dMaxD, fI, fI0, fAdd, gN, gMax2, gMin2, gStr, D.is_int, D.is_bool, D.is_str, D.is_tuple, D.is_list,
  List.map_cons, List.map_nil, List.length_cons, List.length_nil, List.cons_append, List.nil_append, List.getElem?_cons_zero, List.getElem?_cons_succ, List.set_cons_zero, List.set_cons_succ, List.replicate, Nat.reduceAdd, Nat.reduceSub, Nat.zero_add, Nat.sub_zero, ite_dec,
  if_true, if_false, Bool.false_eq_true, true_and, and_true, decide_true, List.nodup_nil, List.getElem?_nil, Nat.reduceLeDiff, Nat.add_eq, Nat.add_zero, reduceIte, List.Nodup, List.pairwise_cons, List.not_mem_nil, false_implies, implies_true, List.Pairwise.nil, w_num_name, w_num_sum, w_num_product, w_num_less, w_num_when, w_num_let, w_num_turns, w_num_def, w_num_use, w_num_quote, w_num_hole, w_num_lift, w_num_run, w_num_number, w_num_piece, w_num_kept, w_name_num, w_name_sum, w_name_product, w_name_less, w_name_when, w_name_let, w_name_turns, w_name_def, w_name_use, w_name_quote, w_name_hole, w_name_lift, w_name_run, w_name_number, w_name_piece, w_name_kept, w_sum_num, w_sum_name, w_sum_product, w_sum_less, w_sum_when, w_sum_let, w_sum_turns, w_sum_def, w_sum_use, w_sum_quote, w_sum_hole, w_sum_lift, w_sum_run, w_sum_number, w_sum_piece, w_sum_kept, w_product_num, w_product_name, w_product_sum, w_product_less, w_product_when, w_product_let, w_product_turns, w_product_def, w_product_use, w_product_quote, w_product_hole, w_product_lift, w_product_run, w_product_number, w_product_piece, w_product_kept, w_less_num, w_less_name, w_less_sum, w_less_product, w_less_when, w_less_let, w_less_turns, w_less_def, w_less_use, w_less_quote, w_less_hole, w_less_lift, w_less_run, w_less_number, w_less_piece, w_less_kept, w_when_num, w_when_name, w_when_sum, w_when_product, w_when_less, w_when_let, w_when_turns, w_when_def, w_when_use, w_when_quote, w_when_hole, w_when_lift, w_when_run, w_when_number, w_when_piece, w_when_kept, w_let_num, w_let_name, w_let_sum, w_let_product, w_let_less, w_let_when, w_let_turns, w_let_def, w_let_use, w_let_quote, w_let_hole, w_let_lift, w_let_run, w_let_number, w_let_piece, w_let_kept, w_turns_num, w_turns_name, w_turns_sum, w_turns_product, w_turns_less, w_turns_when, w_turns_let, w_turns_def, w_turns_use, w_turns_quote, w_turns_hole, w_turns_lift, w_turns_run, w_turns_number, w_turns_piece, w_turns_kept, w_def_num, w_def_name, w_def_sum, w_def_product, w_def_less, w_def_when, w_def_let, w_def_turns, w_def_use, w_def_quote, w_def_hole, w_def_lift, w_def_run, w_def_number, w_def_piece, w_def_kept, w_use_num, w_use_name, w_use_sum, w_use_product, w_use_less, w_use_when, w_use_let, w_use_turns, w_use_def, w_use_quote, w_use_hole, w_use_lift, w_use_run, w_use_number, w_use_piece, w_use_kept, w_quote_num, w_quote_name, w_quote_sum, w_quote_product, w_quote_less, w_quote_when, w_quote_let, w_quote_turns, w_quote_def, w_quote_use, w_quote_hole, w_quote_lift, w_quote_run, w_quote_number, w_quote_piece, w_quote_kept, w_hole_num, w_hole_name, w_hole_sum, w_hole_product, w_hole_less, w_hole_when, w_hole_let, w_hole_turns, w_hole_def, w_hole_use, w_hole_quote, w_hole_lift, w_hole_run, w_hole_number, w_hole_piece, w_hole_kept, w_lift_num, w_lift_name, w_lift_sum, w_lift_product, w_lift_less, w_lift_when, w_lift_let, w_lift_turns, w_lift_def, w_lift_use, w_lift_quote, w_lift_hole, w_lift_run, w_lift_number, w_lift_piece, w_lift_kept, w_run_num, w_run_name, w_run_sum, w_run_product, w_run_less, w_run_when, w_run_let, w_run_turns, w_run_def, w_run_use, w_run_quote, w_run_hole, w_run_lift, w_run_number, w_run_piece, w_run_kept, w_number_num, w_number_name, w_number_sum, w_number_product, w_number_less, w_number_when, w_number_let, w_number_turns, w_number_def, w_number_use, w_number_quote, w_number_hole, w_number_lift, w_number_run, w_number_piece, w_number_kept, w_piece_num, w_piece_name, w_piece_sum, w_piece_product, w_piece_less, w_piece_when, w_piece_let, w_piece_turns, w_piece_def, w_piece_use, w_piece_quote, w_piece_hole, w_piece_lift, w_piece_run, w_piece_number, w_piece_kept, w_kept_num, w_kept_name, w_kept_sum, w_kept_product, w_kept_less, w_kept_when, w_kept_let, w_kept_turns, w_kept_def, w_kept_use, w_kept_quote, w_kept_hole, w_kept_lift, w_kept_run, w_kept_number, w_kept_piece, fl_num, fl_name, fl_sum, fl_product, fl_less, fl_when, fl_let, fl_turns, fl_def, fl_use, fl_quote, fl_hole, fl_lift, fl_run, fl_number, fl_piece, fl_kept, fIn_T, fIn_Tn, inD_cons, inD_nil, ixN0, fl_i, List.all_cons, List.all_nil, Bool.and_true, Bool.and_self, Bool.or_false, Bool.false_or, Bool.true_or, Bool.or_true, Bool.not_true, Bool.not_false, dForZ, oVal, oNew, oNil, gLs, fDNew, fDCopy, dDGet, dDIn, onDic, dRetDic, dDPut, dNoX, dBad, dReSet, fAddOwn, fCall, D.noL, D.noLs, dOpOO, dOpEO, dOpOE, dIsiOwn, D.isSc, onStrs, dGet2, dctC, keyOf, gTs, gNs, dAsg, cut11, cut12, cut13, fSlC, dSelf, okM, dMethO, dChk, dMake, onObj, dFld, onFld, dPutFld, onObjS, lk_given, lk_value, lk_piece, lk_staged, lk_fresh, lk_with, putI_nil, putI_given, gStr, dRaise, dTryAs, dTryO, fSl_lo2, fSl_lo3, fSl_lo4, fSl_hi1, fSl_hi2, fSl_hi3]))
local macro_rules | `(tactic| walk_at "cm") => `(tactic| first | (unfold CMul; omega) | (unfold CDiv; omega) | (unfold CPow; omega) | decide | omega)
local macro_rules | `(tactic| walk_at "dr") => `(tactic| (simp only [dNext, dSet, dRet, dDrop, dIfS, dTest, dOp, dVar, dC, dNil, dCons, dConsS, dTup, dLst, dF, dCB, dAnd, dOr, dNot, dAndV, dOrV, dNotV, dIf, dUn, dSl, dNo, dPart, dCall, dSetF, fLst, fLc, dSrc, dForR, dRetOwn, dPutIx, dIxOwn, dApp, dLenOwn, dInOwn, dJoinOwn, dJoin, dIsi, dRng1,
  onVal, onVals, onBl, onInt, onMut, onOwn, onSome_s, onArgs, refs, putS, outs, dst0, okSet, Sl.mut, Sl.toD, Sl.isObj, D.items, fIx, fEq, fNe, fNeg, okEq_str, okEq_int, deq_refl, deq_int, atI0, atI1, atI2, atI3, atI4, atI5, atI_q, fSl1, gList, gTpl, gLen, gInt, gSum, dMaxD, fI, fI0, fAdd, gN, gMax2, gMin2, gStr, D.is_int, D.is_bool, D.is_str, D.is_tuple, D.is_list,
  List.map_cons, List.map_nil, List.length_cons, List.length_nil, List.cons_append, List.nil_append, List.getElem?_cons_zero, List.getElem?_cons_succ, List.set_cons_zero, List.set_cons_succ, List.replicate, Nat.reduceAdd, Nat.reduceSub, Nat.zero_add, Nat.sub_zero, ite_dec,
  if_true, if_false, Bool.false_eq_true, true_and, and_true, decide_true, List.nodup_nil, List.getElem?_nil, Nat.reduceLeDiff, Nat.add_eq, Nat.add_zero, reduceIte, List.Nodup, List.pairwise_cons, List.not_mem_nil, false_implies, implies_true, List.Pairwise.nil, w_num_name, w_num_sum, w_num_product, w_num_less, w_num_when, w_num_let, w_num_turns, w_num_def, w_num_use, w_num_quote, w_num_hole, w_num_lift, w_num_run, w_num_number, w_num_piece, w_num_kept, w_name_num, w_name_sum, w_name_product, w_name_less, w_name_when, w_name_let, w_name_turns, w_name_def, w_name_use, w_name_quote, w_name_hole, w_name_lift, w_name_run, w_name_number, w_name_piece, w_name_kept, w_sum_num, w_sum_name, w_sum_product, w_sum_less, w_sum_when, w_sum_let, w_sum_turns, w_sum_def, w_sum_use, w_sum_quote, w_sum_hole, w_sum_lift, w_sum_run, w_sum_number, w_sum_piece, w_sum_kept, w_product_num, w_product_name, w_product_sum, w_product_less, w_product_when, w_product_let, w_product_turns, w_product_def, w_product_use, w_product_quote, w_product_hole, w_product_lift, w_product_run, w_product_number, w_product_piece, w_product_kept, w_less_num, w_less_name, w_less_sum, w_less_product, w_less_when, w_less_let, w_less_turns, w_less_def, w_less_use, w_less_quote, w_less_hole, w_less_lift, w_less_run, w_less_number, w_less_piece, w_less_kept, w_when_num, w_when_name, w_when_sum, w_when_product, w_when_less, w_when_let, w_when_turns, w_when_def, w_when_use, w_when_quote, w_when_hole, w_when_lift, w_when_run, w_when_number, w_when_piece, w_when_kept, w_let_num, w_let_name, w_let_sum, w_let_product, w_let_less, w_let_when, w_let_turns, w_let_def, w_let_use, w_let_quote, w_let_hole, w_let_lift, w_let_run, w_let_number, w_let_piece, w_let_kept, w_turns_num, w_turns_name, w_turns_sum, w_turns_product, w_turns_less, w_turns_when, w_turns_let, w_turns_def, w_turns_use, w_turns_quote, w_turns_hole, w_turns_lift, w_turns_run, w_turns_number, w_turns_piece, w_turns_kept, w_def_num, w_def_name, w_def_sum, w_def_product, w_def_less, w_def_when, w_def_let, w_def_turns, w_def_use, w_def_quote, w_def_hole, w_def_lift, w_def_run, w_def_number, w_def_piece, w_def_kept, w_use_num, w_use_name, w_use_sum, w_use_product, w_use_less, w_use_when, w_use_let, w_use_turns, w_use_def, w_use_quote, w_use_hole, w_use_lift, w_use_run, w_use_number, w_use_piece, w_use_kept, w_quote_num, w_quote_name, w_quote_sum, w_quote_product, w_quote_less, w_quote_when, w_quote_let, w_quote_turns, w_quote_def, w_quote_use, w_quote_hole, w_quote_lift, w_quote_run, w_quote_number, w_quote_piece, w_quote_kept, w_hole_num, w_hole_name, w_hole_sum, w_hole_product, w_hole_less, w_hole_when, w_hole_let, w_hole_turns, w_hole_def, w_hole_use, w_hole_quote, w_hole_lift, w_hole_run, w_hole_number, w_hole_piece, w_hole_kept, w_lift_num, w_lift_name, w_lift_sum, w_lift_product, w_lift_less, w_lift_when, w_lift_let, w_lift_turns, w_lift_def, w_lift_use, w_lift_quote, w_lift_hole, w_lift_run, w_lift_number, w_lift_piece, w_lift_kept, w_run_num, w_run_name, w_run_sum, w_run_product, w_run_less, w_run_when, w_run_let, w_run_turns, w_run_def, w_run_use, w_run_quote, w_run_hole, w_run_lift, w_run_number, w_run_piece, w_run_kept, w_number_num, w_number_name, w_number_sum, w_number_product, w_number_less, w_number_when, w_number_let, w_number_turns, w_number_def, w_number_use, w_number_quote, w_number_hole, w_number_lift, w_number_run, w_number_piece, w_number_kept, w_piece_num, w_piece_name, w_piece_sum, w_piece_product, w_piece_less, w_piece_when, w_piece_let, w_piece_turns, w_piece_def, w_piece_use, w_piece_quote, w_piece_hole, w_piece_lift, w_piece_run, w_piece_number, w_piece_kept, w_kept_num, w_kept_name, w_kept_sum, w_kept_product, w_kept_less, w_kept_when, w_kept_let, w_kept_turns, w_kept_def, w_kept_use, w_kept_quote, w_kept_hole, w_kept_lift, w_kept_run, w_kept_number, w_kept_piece, fl_num, fl_name, fl_sum, fl_product, fl_less, fl_when, fl_let, fl_turns, fl_def, fl_use, fl_quote, fl_hole, fl_lift, fl_run, fl_number, fl_piece, fl_kept, fIn_T, fIn_Tn, inD_cons, inD_nil, ixN0, fl_i, List.all_cons, List.all_nil, Bool.and_true, Bool.and_self, Bool.or_false, Bool.false_or, Bool.true_or, Bool.or_true, Bool.not_true, Bool.not_false, dForZ, oVal, oNew, oNil, gLs, fDNew, fDCopy, dDGet, dDIn, onDic, dRetDic, dDPut, dNoX, dBad, dReSet, fAddOwn, fCall, D.noL, D.noLs, dOpOO, dOpEO, dOpOE, dIsiOwn, D.isSc, onStrs, dGet2, dctC, keyOf, gTs, gNs, dAsg, cut11, cut12, cut13, fSlC, dSelf, okM, dMethO, dChk, dMake, onObj, dFld, onFld, dPutFld, onObjS, lk_given, lk_value, lk_piece, lk_staged, lk_fresh, lk_with, putI_nil, putI_given, gStr, dRaise, dTryAs, dTryO, fSl_lo2, fSl_lo3, fSl_lo4, fSl_hi1, fSl_hi2, fSl_hi3]))
def spLaw : DSp := fun ss E Q => ∃ s : List Int, ss = [.val (.scr s)] ∧ Q (.bl true) ss
section
variable {P : Program} {w : World} {K : PySem.W.Frag} {mg : Str → Option Value} {base : Heap}
theorem ok_law (g : G K mg)
    (h__law_deep : FnR P w K mg base (2) g.a__law_deep g.d__law_deep ["_law_x", "_law_y", "_law_deep_here", "_law_way"] (liftSp K (spDeep)))
    (h__law_done : FnR P w K mg base (325) g.a__law_done g.d__law_done ["_law_program", "_law_way"] (liftSp K (spDone 100)))
    (h__law_drawn : FnR P w K mg base (1) g.a__law_drawn g.d__law_drawn ["_law_number_here", "_law_sizes"] (liftSp K (spDrawn)))
    (h__law_great : FnR P w K mg base (12) g.a__law_great g.d__law_great ["_law_x", "_law_size"] (liftSp K (spGreat)))
    (h__law_mixed : FnR P w K mg base (2) g.a__law_mixed g.d__law_mixed ["_law_script", "_law_k"] (liftSp K (spMixed)))
    (h__law_name : FnR P w K mg base (3) g.a__law_name g.d__law_name ["_law_script", "_law_which"] (liftSp K (spName)))
    (h__law_refused : FnR P w K mg base (325) g.a__law_refused g.d__law_refused ["_law_program", "_law_way"] (liftSp K (spRef 100)))
    (h__law_wrong_kind : FnR P w K mg base (325) g.a__law_wrong_kind g.d__law_wrong_kind ["_law_program", "_law_way"] (liftSp K (spWrg)))
    (h_depth_of : FnR P w K mg base (65) g.a_depth_of g.d_depth_of ["term"] (liftSp K (spDepth 64)))
    (h_size_of : FnR P w K mg base (65) g.a_size_of g.d_size_of ["term"] (liftSp K (spSize 64)))
    : FnR P w K mg base (325 + 1) g.a_law g.d_law ["_law_script"] (liftSp K (spLaw)) := by
  refine okD g.p_law.F sc_law (by rintro ss E Q ⟨s, rfl, _⟩; rfl) fun cdv A outer s H E hr => ⟨_, _, (pss_cons (ps_set (i := 1) sc_law.nd rfl (by first | exact Or.inl rfl | exact Or.inr rfl) (pe_callR h__law_drawn (hr.mono (by omega)) rfl g.p__law_drawn.g g.p__law_drawn.F.kp g.p__law_drawn.b passE (pa_cons (pe_callR h__law_mixed (hr.mono (by omega)) rfl g.p__law_mixed.g g.p__law_mixed.F.kp g.p__law_mixed.b passE (pa_cons (pv 0) (pa_cons pe_int pa_nil))) (pa_cons (pe_lst (pa_cons pe_int (pa_cons pe_int (pa_cons pe_int (pa_cons pe_int pa_nil))))) pa_nil)))) (pss_cons (ps_set (i := 2) sc_law.nd rfl (by first | exact Or.inl rfl | exact Or.inr rfl) (pe_callR h__law_name (hr.mono (by omega)) rfl g.p__law_name.g g.p__law_name.F.kp g.p__law_name.b passE (pa_cons (pv 0) (pa_cons pe_int pa_nil)))) (pss_cons (ps_set (i := 3) sc_law.nd rfl (by first | exact Or.inl rfl | exact Or.inr rfl) (pe_op opAdd pe_int (pe_ix ix_seq (pv 1) pe_int (fun _ _ => rfl)))) (pss_cons (ps_set (i := 4) sc_law.nd rfl (by first | exact Or.inl rfl | exact Or.inr rfl) (pe_op opAdd pe_int (pe_ix ix_seq (pv 1) pe_int (fun _ _ => rfl)))) (pss_cons (ps_set (i := 5) sc_law.nd rfl (by first | exact Or.inl rfl | exact Or.inr rfl) (pe_ix ix_seq (pe_lst (pa_cons (pe_callR h__law_great (hr.mono (by omega)) rfl g.p__law_great.g g.p__law_great.F.kp g.p__law_great.b passE (pa_cons (pv 2) (pa_cons (pv 3) pa_nil))) (pa_cons (pe_callR h__law_deep (hr.mono (by omega)) rfl g.p__law_deep.g g.p__law_deep.F.kp g.p__law_deep.b passE (pa_cons (pv 2) (pa_cons (pe_callR h__law_name (hr.mono (by omega)) rfl g.p__law_name.g g.p__law_name.F.kp g.p__law_name.b passE (pa_cons (pv 0) (pa_cons pe_int pa_nil))) (pa_cons (pv 4) (pa_cons (pe_ix ix_seq (pv 1) pe_int (fun _ _ => rfl)) pa_nil))))) pa_nil))) (pe_ix ix_seq (pv 1) pe_int (fun _ _ => rfl)) (fun _ _ => rfl))) (pss_cons (ps_set (i := 6) sc_law.nd rfl (by first | exact Or.inl rfl | exact Or.inr rfl) (pe_tup (pa_cons pe_str (pa_cons (pv 2) (pa_cons (pe_ix ix_seq (pv 5) pe_int (fun _ _ => rfl)) (pa_cons (pe_tup (pa_cons pe_str (pa_cons pe_int pa_nil))) pa_nil)))))) (pss_cons (ps_if (pt_val (pe_ix ix_seq (pe_lst (pa_cons (pe_cmpR op_gt (pv 3) pe_int (nomark _)) (pa_cons (pe_cmpR op_gt (pv 4) pe_int (nomark _)) pa_nil))) (pe_ix ix_seq (pv 1) pe_int (fun _ _ => rfl)) (fun _ _ => rfl))) (pss_cons (ps_if (PW.pt (pw_or (pt_not (pt_val (pe_callR h__law_refused (hr.mono (by omega)) rfl g.p__law_refused.g g.p__law_refused.F.kp g.p__law_refused.b passE (pa_cons (pe_ix ix_seq (pv 5) pe_int (fun _ _ => rfl)) (pa_cons pe_int pa_nil))))) (pw_or1 (pt_not (pt_val (pe_callR h__law_refused (hr.mono (by omega)) rfl g.p__law_refused.g g.p__law_refused.F.kp g.p__law_refused.b passE (pa_cons (pe_tup (pa_cons pe_str (pa_cons (pe_ix ix_seq (pv 5) pe_int (fun _ _ => rfl)) pa_nil))) (pa_cons pe_int pa_nil)))))))) (pss_one (ps_ret pe_bl)) pss_nil) (pss_cons (ps_if (PW.pt (pw_or (pt_not (pt_val (pe_callR h__law_wrong_kind (hr.mono (by omega)) rfl g.p__law_wrong_kind.g g.p__law_wrong_kind.F.kp g.p__law_wrong_kind.b passE (pa_cons (pe_ix ix_seq (pv 5) pe_int (fun _ _ => rfl)) (pa_cons pe_int pa_nil))))) (pw_or1 (pt_not (pt_val (pe_callR h__law_wrong_kind (hr.mono (by omega)) rfl g.p__law_wrong_kind.g g.p__law_wrong_kind.F.kp g.p__law_wrong_kind.b passE (pa_cons (pe_tup (pa_cons pe_str (pa_cons (pe_ix ix_seq (pv 5) pe_int (fun _ _ => rfl)) pa_nil))) (pa_cons pe_int pa_nil)))))))) (pss_one (ps_ret pe_bl)) pss_nil) (pss_one (ps_ret (pe_callR h__law_refused (hr.mono (by omega)) rfl g.p__law_refused.g g.p__law_refused.F.kp g.p__law_refused.b passE (pa_cons (pv 6) (pa_cons pe_int pa_nil))))))) pss_nil) (pss_cons (ps_set (i := 7) sc_law.nd rfl (by first | exact Or.inl rfl | exact Or.inr rfl) (pe_callR h__law_done (hr.mono (by omega)) rfl g.p__law_done.g g.p__law_done.F.kp g.p__law_done.b passE (pa_cons (pe_ix ix_seq (pv 5) pe_int (fun _ _ => rfl)) (pa_cons pe_int pa_nil)))) (pss_cons (ps_if (pt_val (pe_ix ix_seq (pe_lst (pa_cons (pe_cmpR (opNe hr.un64) (pe_callR h_size_of (hr.mono (by omega)) rfl g.p_size_of.g g.p_size_of.F.kp g.p_size_of.b passE (pa_cons (pv 7) pa_nil)) (pv 3) (nomark _)) (pa_cons (pe_cmpR (opNe hr.un64) (pe_callR h_depth_of (hr.mono (by omega)) rfl g.p_depth_of.g g.p_depth_of.F.kp g.p_depth_of.b passE (pa_cons (pv 7) pa_nil)) (pv 4) (nomark _)) pa_nil))) (pe_ix ix_seq (pv 1) pe_int (fun _ _ => rfl)) (fun _ _ => rfl))) (pss_one (ps_ret pe_bl)) pss_nil) (pss_one (ps_ret (pe_and (pe_cmpR (opEq hr.un64) (pe_callR h__law_done (hr.mono (by omega)) rfl g.p__law_done.g g.p__law_done.F.kp g.p__law_done.b passE (pa_cons (pe_tup (pa_cons pe_str (pa_cons (pe_ix ix_seq (pv 5) pe_int (fun _ _ => rfl)) pa_nil))) (pa_cons pe_int pa_nil))) (pe_ix ix_seq (pv 5) pe_int (fun _ _ => rfl)) (nomark _)) (pe_one (pe_cmpR (opEq hr.un64) (pe_callR h__law_done (hr.mono (by omega)) rfl g.p__law_done.g g.p__law_done.F.kp g.p__law_done.b passE (pa_cons (pv 6) (pa_cons pe_int pa_nil))) pe_int (nomark _))))))))))))))), (ss_seq (ss_set (se_call (sa_cons (se_call (sa_cons se_var (sa_cons se_int sa_nil))) (sa_cons (se_lst (sa_cons se_int (sa_cons se_int (sa_cons se_int (sa_cons se_int sa_nil))))) sa_nil)))) (ss_seq (ss_set (se_call (sa_cons se_var (sa_cons se_int sa_nil)))) (ss_seq (ss_set (se_op sAdd se_int (se_op sIx se_var se_int))) (ss_seq (ss_set (se_op sAdd se_int (se_op sIx se_var se_int))) (ss_seq (ss_set (se_op sIx (se_lst (sa_cons (se_call (sa_cons se_var (sa_cons se_var sa_nil))) (sa_cons (se_call (sa_cons se_var (sa_cons (se_call (sa_cons se_var (sa_cons se_int sa_nil))) (sa_cons se_var (sa_cons (se_op sIx se_var se_int) sa_nil))))) sa_nil))) (se_op sIx se_var se_int))) (ss_seq (ss_set (se_tup (sa_cons se_str (sa_cons se_var (sa_cons (se_op sIx se_var se_int) (sa_cons (se_tup (sa_cons se_str (sa_cons se_int sa_nil))) sa_nil)))))) (ss_seq (ss_if (st_B (se_op sIx (se_lst (sa_cons (se_op sGt se_var se_int) (sa_cons (se_op sGt se_var se_int) sa_nil))) (se_op sIx se_var se_int))) (ss_seq (ss_if (st_or (st_not (st_B (se_call (sa_cons (se_op sIx se_var se_int) (sa_cons se_int sa_nil))))) (st_not (st_B (se_call (sa_cons (se_tup (sa_cons se_str (sa_cons (se_op sIx se_var se_int) sa_nil))) (sa_cons se_int sa_nil)))))) (ss_ret se_bl) ss_next) (ss_seq (ss_if (st_or (st_not (st_B (se_call (sa_cons (se_op sIx se_var se_int) (sa_cons se_int sa_nil))))) (st_not (st_B (se_call (sa_cons (se_tup (sa_cons se_str (sa_cons (se_op sIx se_var se_int) sa_nil))) (sa_cons se_int sa_nil)))))) (ss_ret se_bl) ss_next) (ss_ret (se_call (sa_cons se_var (sa_cons se_int sa_nil)))))) ss_next) (ss_seq (ss_set (se_call (sa_cons (se_op sIx se_var se_int) (sa_cons se_int sa_nil)))) (ss_seq (ss_if (st_B (se_op sIx (se_lst (sa_cons (se_op sNe (se_call (sa_cons se_var sa_nil)) se_var) (sa_cons (se_op sNe (se_call (sa_cons se_var sa_nil)) se_var) sa_nil))) (se_op sIx se_var se_int))) (ss_ret se_bl) ss_next) (ss_ret (se_and (se_op sEq (se_call (sa_cons (se_tup (sa_cons se_str (sa_cons (se_op sIx se_var se_int) sa_nil))) (sa_cons se_int sa_nil))) (se_op sIx se_var se_int)) (se_op sEq (se_call (sa_cons se_var (sa_cons se_int sa_nil))) se_int)))))))))))), ?_⟩
  rintro ss Ed Q ⟨s, rfl, hq⟩
  have m0 := mixed_lo s 1
  have nax := name_apart s
  refine x_seq fun R hR => ?_
  walk_at "dr"
  refine ⟨s, 1, rfl, ?_⟩
  walk_at "dr"
  refine ⟨mixed s 1, [2, 7, 10, 6], rfl, by simp, by decide, ?_⟩
  simp only [drawn]
  walk_at "dr"
  obtain ⟨e0, r0, h0⟩ : ∃ e : Int, mixed s 1 % 2 = e ∧ (e = 0 ∨ e = 1) := ⟨_, rfl, by omega⟩
  obtain ⟨z, r1, h1⟩ : ∃ z : Nat, mixed s 1 / 2 % 7 = (z : Int) - 1997 ∧ 1997 ≤ z ∧ z ≤ 2003 := ⟨(1997 + mixed s 1 / 2 % 7).toNat, by omega, by omega, by omega⟩
  obtain ⟨d, r2, h2⟩ : ∃ d : Nat, mixed s 1 / 2 / 7 % 10 = (d : Int) - 24 ∧ 24 ≤ d ∧ d ≤ 33 := ⟨(24 + mixed s 1 / 2 / 7 % 10).toNat, by omega, by omega, by omega⟩
  generalize mixed s 1 / 2 / 7 / 10 % 6 = way
  rw [r0, r1, r2]
  clear r0 r1 r2
  refine hR _ ?_
  clear hR
  refine x_seq fun R hR => ?_
  walk_at "dr"
  refine ⟨s, 0, rfl, by decide, ?_⟩
  walk_at "dr"
  refine hR _ ?_
  clear hR
  revert nax
  generalize nameOf s 0 = x
  refine fun nax => ?_
  refine x_seq fun R hR => ?_
  walk_at "dr"
  rw [show (1997 : Int) + ((z : Int) - 1997) = (z : Int) by omega]
  refine hR _ ?_
  clear hR
  refine x_seq fun R hR => ?_
  walk_at "dr"
  rw [show (24 : Int) + ((d : Int) - 24) = (d : Int) by omega]
  refine hR _ ?_
  clear hR
  refine x_seq fun R hR => ?_
  walk_at "dr"
  refine ⟨x, z, rfl, h1.1, h1.2, ?_⟩
  walk_at "dr"
  refine ⟨s, 1, rfl, by decide, ?_⟩
  walk_at "dr"
  revert nax
  generalize nameOf s 1 = y
  intro nax
  refine ⟨x, y, d, way, rfl, h2.1, h2.2, fun ms sm m9 ml => ?_⟩
  walk_at "dr"
  have hm : 1 ≤ moreZ z ∧ moreZ z ≤ 512 := by unfold moreZ evenZ; split <;> omega
  have hz : (if evenZ z then 1026 else 1023) + 2 * moreZ z = z := by unfold moreZ evenZ; split <;> simp_all <;> omega
  have w9 := wide_is 9 (moreZ z) hm.1 hm.2
  rcases h0 with rfl | rfl
  · have kT : ∀ fr, kindT (greatT x (evenZ z) (wideT 9 (moreZ z))) 0 (fun _ => none) fr = some sPiece := fun fr => kind_great w9.1
    have dT : (greatT x (evenZ z) (wideT 9 (moreZ z))).depth ≤ 40 := Nat.le_trans (great_dep x _ _ (by omega)) (by decide)
    have gT : 2000 < z → ∀ f, 45 ≤ f → evG f (greatT x (evenZ z) (wideT 9 (moreZ z))) [] 0 := fun h f hf => great_gr hm.1 hm.2 (by rw [hz]; exact h) f (by omega)
    have oT : ¬ (2000 < z) → ∃ P k, (∀ f, 45 ≤ f → evV f (greatT x (evenZ z) (wideT 9 (moreZ z))) [] 0 = some (some (.pc P, k))) ∧ (∀ f, 95 ≤ f → ∀ j, evV f P [] j = some (some (.num (512 + (moreZ z : Int)), j))) ∧ P.depth ≤ 60 ∧ P.size = z := fun h => ⟨_, _, fun f hf => great_ok hm.1 hm.2 (by rw [hz]; omega) f (by omega), fun f hf j => (flat_ev f _ [] _ (great_piece hm.1 hm.2).2.2.1 (by rw [Vl.flats]; trivial) ((great_piece hm.1 hm.2).2.2.2 [] f (by omega))).2 j, by have := (great_piece (even := evenZ z) hm.1 hm.2).2.1; omega, by rw [(great_piece hm.1 hm.2).1, hz]⟩
    simp only [show atI [D.lst [(greatT x (evenZ z) (wideT 9 (moreZ z))).toD, D.int (512 + (moreZ z : Int))], D.lst [(chainD way x y ms).toD, D.int (1 + 2 * ((d : Int) - 2) * (if way = 0 then 1 else 0))]] 0 = some (D.lst [(greatT x (evenZ z) (wideT 9 (moreZ z))).toD, D.int (512 + (moreZ z : Int))]) from rfl, onSome_s]
    refine hR _ ?_
    clear hR
    generalize greatT x (evenZ z) (wideT 9 (moreZ z)) = T at kT dT gT oT
    generalize 512 + (moreZ z : Int) = V at oT
    refine x_seq fun R hR => ?_
    walk_at "dr"
    refine hR _ ?_
    clear hR
    refine x_seq fun R hR => ?_
    walk_at "dr"
    by_cases hb : 2000 < z
    · rw [if_pos (by omega)]
      refine x_seq fun R hR => ?_
      walk_at "dr"
      refine ⟨T, 1, rfl, .inr rfl, by omega, kT true, gT hb 100 (by decide), ?_⟩
      walk_at "dr"
      refine ⟨.run T, 0, rfl, .inl rfl, by simp only [Tm.depth]; omega, kT_run (kT true), by rw [evG]; exact gT hb 99 (by decide), ?_⟩
      walk_at "dr"
      refine hR _ ?_
      clear hR
      refine x_seq fun R hR => ?_
      walk_at "dr"
      refine ⟨T, 0, sPiece, rfl, .inl rfl, by omega, kT true, np.symm, .inr rfl, ?_⟩
      walk_at "dr"
      refine ⟨.run T, 1, sNum, rfl, .inr rfl, by simp only [Tm.depth]; omega, kT_run (kT true), np, .inl rfl, ?_⟩
      walk_at "dr"
      refine hR _ ?_
      clear hR
      walk_at "dr"
      refine ⟨.lett x T (.num 3), 0, rfl, .inl rfl, by simp only [Tm.depth]; omega, kT_let (k1 := sPiece) (kT true) rfl, by rw [evG]; exact .inl (gT hb 99 (by decide)), ?_⟩
      walk_at "dr"
      exact hq
    · rw [if_neg (by omega)]
      refine hR _ ?_
      clear hR
      obtain ⟨P, kP, oP, vP, dP, sz⟩ := oT hb
      refine x_seq fun R hR => ?_
      walk_at "dr"
      refine ⟨T, 1, .pc P, kP, rfl, .inr rfl, by omega, kT true, oP 100 (by decide), ?_⟩
      simp only [vD, Vl.rp_pc]
      walk_at "dr"
      refine hR _ ?_
      clear hR
      refine x_seq fun R hR => ?_
      walk_at "dr"
      refine ⟨P, rfl, by omega, ?_⟩
      walk_at "dr"
      refine ⟨P, rfl, by omega, ?_⟩
      walk_at "dr"
      rw [if_neg (by rw [sz]; simp)]
      refine hR _ ?_
      clear hR
      walk_at "dr"
      refine ⟨.run T, 0, .num V, kP, rfl, .inl rfl, by simp only [Tm.depth]; omega, kT_run (kT true), ?_, ?_⟩
      · rw [evV]
        (try simp only)
        rw [oP 99 (by decide), bindR_some]
        exact vP 99 (by decide) kP
      simp only [vD, Vl.rp_num]
      walk_at "dr"
      refine ⟨.lett x T (.num 3), 0, .num 3, kP, rfl, .inl rfl, by simp only [Tm.depth]; omega, kT_let (k1 := sPiece) (kT true) rfl, ?_, ?_⟩
      · rw [evV]
        (try simp only)
        rw [oP 99 (by decide), bindR_some, chkR_some (by simp), evV]
        rfl
      simp only [vD, Vl.rp_num]
      walk_at "dr"
      exact hq
  · have kT : ∀ fr, kindT (chainD way x y ms) 0 (fun _ => none) fr = some sPiece := fun fr => kind_chain nax ms _
    have dT : (chainD way x y ms).depth ≤ 40 := by have := chain_dep way x y ms; omega
    have gT : 30 < d → ∀ f, 45 ≤ f → evG f (chainD way x y ms) [] 0 := fun h f hf => chain_gr nax ms m9 (by omega) f (by omega)
    have oT : ¬ (30 < d) → ∃ P k, (∀ f, 45 ≤ f → evV f (chainD way x y ms) [] 0 = some (some (.pc P, k))) ∧ (∀ f, 95 ≤ f → ∀ j, evV f P [] j = some (some (.num (1 + 2 * ((d : Int) - 2) * (if way = 0 then 1 else 0)), j))) ∧ P.depth ≤ 60 ∧ P.depth = d := fun h => ⟨_, _, fun f hf => chain_ok nax ms m9 (by omega) f (by omega), fun f hf j => (flat_ev f _ [] _ (it_flat way ms.sum) (by rw [Vl.flats]; trivial) (by rw [it_val way ms.sum (by omega) [] (by simp; omega) f (by omega)]; exact congrArg (fun v => some (Vl.num v)) (by unfold valD; split <;> simp_all <;> omega))).2 j, by have := it_dep way ms.sum; omega, by have := it_dep way ms.sum; omega⟩
    simp only [show atI [D.lst [(greatT x (evenZ z) (wideT 9 (moreZ z))).toD, D.int (512 + (moreZ z : Int))], D.lst [(chainD way x y ms).toD, D.int (1 + 2 * ((d : Int) - 2) * (if way = 0 then 1 else 0))]] 1 = some (D.lst [(chainD way x y ms).toD, D.int (1 + 2 * ((d : Int) - 2) * (if way = 0 then 1 else 0))]) from rfl, onSome_s]
    refine hR _ ?_
    clear hR
    generalize chainD way x y ms = T at kT dT gT oT
    generalize 1 + 2 * ((d : Int) - 2) * (if way = 0 then 1 else 0) = V at oT
    refine x_seq fun R hR => ?_
    walk_at "dr"
    refine hR _ ?_
    clear hR
    refine x_seq fun R hR => ?_
    walk_at "dr"
    by_cases hb : 30 < d
    · rw [if_pos (by omega)]
      refine x_seq fun R hR => ?_
      walk_at "dr"
      refine ⟨T, 1, rfl, .inr rfl, by omega, kT true, gT hb 100 (by decide), ?_⟩
      walk_at "dr"
      refine ⟨.run T, 0, rfl, .inl rfl, by simp only [Tm.depth]; omega, kT_run (kT true), by rw [evG]; exact gT hb 99 (by decide), ?_⟩
      walk_at "dr"
      refine hR _ ?_
      clear hR
      refine x_seq fun R hR => ?_
      walk_at "dr"
      refine ⟨T, 0, sPiece, rfl, .inl rfl, by omega, kT true, np.symm, .inr rfl, ?_⟩
      walk_at "dr"
      refine ⟨.run T, 1, sNum, rfl, .inr rfl, by simp only [Tm.depth]; omega, kT_run (kT true), np, .inl rfl, ?_⟩
      walk_at "dr"
      refine hR _ ?_
      clear hR
      walk_at "dr"
      refine ⟨.lett x T (.num 3), 0, rfl, .inl rfl, by simp only [Tm.depth]; omega, kT_let (k1 := sPiece) (kT true) rfl, by rw [evG]; exact .inl (gT hb 99 (by decide)), ?_⟩
      walk_at "dr"
      exact hq
    · rw [if_neg (by omega)]
      refine hR _ ?_
      clear hR
      obtain ⟨P, kP, oP, vP, dP, sz⟩ := oT hb
      refine x_seq fun R hR => ?_
      walk_at "dr"
      refine ⟨T, 1, .pc P, kP, rfl, .inr rfl, by omega, kT true, oP 100 (by decide), ?_⟩
      simp only [vD, Vl.rp_pc]
      walk_at "dr"
      refine hR _ ?_
      clear hR
      refine x_seq fun R hR => ?_
      walk_at "dr"
      refine ⟨P, rfl, by omega, ?_⟩
      walk_at "dr"
      refine ⟨P, rfl, by omega, ?_⟩
      walk_at "dr"
      rw [if_neg (by rw [sz]; simp)]
      refine hR _ ?_
      clear hR
      walk_at "dr"
      refine ⟨.run T, 0, .num V, kP, rfl, .inl rfl, by simp only [Tm.depth]; omega, kT_run (kT true), ?_, ?_⟩
      · rw [evV]
        (try simp only)
        rw [oP 99 (by decide), bindR_some]
        exact vP 99 (by decide) kP
      simp only [vD, Vl.rp_num]
      walk_at "dr"
      refine ⟨.lett x T (.num 3), 0, .num 3, kP, rfl, .inl rfl, by simp only [Tm.depth]; omega, kT_let (k1 := sPiece) (kT true) rfl, ?_, ?_⟩
      · rw [evV]
        (try simp only)
        rw [oP 99 (by decide), bindR_some, chkR_some (by simp), evV]
        rfl
      simp only [vD, Vl.rp_num]
      walk_at "dr"
      exact hq

theorem ok_toldT (g : G K mg) : Dq.FnR P w K mg base (2 * 100 + 124) g.a_told g.d_told ["term"] (liftSp K (spTellE g.C_WrongKind g.C_TooGreat sNum 100)) := ok_told (f := 100) g (ok_Maker___init__ g) (ok_makeN g 100).1 (ok_kind_of g (ok_kindN g 60))
theorem ok_madeT (g : G K mg) : Dq.FnR P w K mg base (2 * 100 + 124) g.a_made g.d_made ["term"] (liftSp K (spTellE g.C_WrongKind g.C_TooGreat sPiece 100)) := ok_made (f := 100) g (ok_Maker___init__ g) (ok_makeN g 100).1 (ok_kind_of g (ok_kindN g 60))
theorem ok_all (g : G K mg) : Dq.FnR P w K mg base 326 g.a_law g.d_law ["_law_script"] (liftSp K spLaw) :=
  ok_law g (ok__law_deep g (ok__law_step g)) (ok__law_done (f := 100) g (ok_madeT g) (ok_toldT g)) (ok__law_drawn g) (ok__law_great g (ok_wideN g 10)) (ok__law_mixed g (ok__law_cell_at g)) (ok__law_name g (ok__law_mixed g (ok__law_cell_at g)))
    (ok__law_refused (f := 100) g (ok_madeT g) (ok_toldT g)) (ok__law_wrong_kind (f := 100) g (ok_madeT g) (ok_toldT g)) (ok_depthN g 64) (ok_sizeN g 64)

end
theorem law_in {K : PySem.W.Frag} {H : Hp} {a : Addr} {ns : List Int} (hl : ns.length ≤ 63) (hO : Only H) (hS : SqL K H a (ns.map V.int)) : liftSp K spLaw [.ref a] H (fun v _ => v = .bl true) fun _ _ _ => False := by
  have nm : ∀ δ : Dst, δ = [some (Sl.val (D.scr ns))] → ∀ i, ¬ IsMut δ i := by
    rintro δ rfl i ⟨s, e, m⟩
    match i, e with
    | 0, e => injection e with e; injection e with e; subst e; cases m
    | i + 1, e => cases e
  refine ⟨[.val (.scr ns)], fun _ => False, fun _ => False, fun d _ => d = .bl true, ⟨?_, ?_, fun _ h => h.elim, fun _ h => h.elim, rfl⟩, XL.no, ⟨ns, rfl, rfl⟩, ?_⟩
  · intro i s e
    match i, e with
    | 0, e =>
      injection e with e
      injection e with e
      subst e
      refine ⟨.ref a, rfl, ?_⟩
      show At K _ H (.scr ns) (.ref a)
      rw [At]
      refine ⟨a, rfl, ?_⟩
      rcases hS with hS | hS
      · refine .inl ⟨?_, ?_⟩
        · rintro (⟨i, m, _⟩ | m)
          · exact nm _ rfl i m
          · exact m
        · rcases hO a with h | ⟨o, xs, h⟩
          · rcases hS with q | ⟨o, q⟩ <;> rw [h] at q <;> cases q
          · rcases hS with q | ⟨o2, q⟩ <;> rw [h] at q <;> cases q
            exact ⟨o, h⟩
      · exact .inr hS
    | i + 1, e => cases e
  · exact fun i j a mi => (nm _ rfl i mi).elim
  · rintro d ss' v H' rfl r t at'
    rw [At] at at'
    exact at'
theorem all_mk {l : PySem.W.OpenLaw} {w : World} {K : PySem.W.Frag} {h : Heap} {mg : Str → Option Value} {fa : Addr} (X : K.In h) (Gn : h.Ns mainGlobals mg) (hfa : mg "law" = some (.ref fa))
    {CMaker : Addr} (xMaker : PySem.W.nsIn K mainGlobals "Maker" = some (some (.ref CMaker)))
    {f1 : Addr} {od1 an1 : Option Addr} {sl1 : Array (Option Value)} {oc1 kV1 dc1 pm1 cd1 ct1 : Value}
    (a1 : PySem.W.nsIn K mainGlobals "meaning" = some (some (.ref f1)))
    (l1 : K.lookup f1 = some ⟨oc1, od1, .func (PySem.W.fnOf "meaning" "meaning" (defArgs s_meaning) (defBody s_meaning) (defScope s_meaning) .none kV1 dc1 pm1 an1 cd1 ct1), sl1⟩) (c1 : PySem.W.codeIn K cd1 "meaning" = true) (k1 : PySem.W.keepIn K (.ref f1) = true)
    {f2 : Addr} {od2 an2 : Option Addr} {sl2 : Array (Option Value)} {oc2 kV2 dc2 pm2 cd2 ct2 : Value}
    (a2 : PySem.W.nsIn K mainGlobals "bound" = some (some (.ref f2)))
    (l2 : K.lookup f2 = some ⟨oc2, od2, .func (PySem.W.fnOf "bound" "bound" (defArgs s_bound) (defBody s_bound) (defScope s_bound) .none kV2 dc2 pm2 an2 cd2 ct2), sl2⟩) (c2 : PySem.W.codeIn K cd2 "bound" = true) (k2 : PySem.W.keepIn K (.ref f2) = true)
    {f3 : Addr} {od3 an3 : Option Addr} {sl3 : Array (Option Value)} {oc3 kV3 dc3 pm3 cd3 ct3 : Value}
    (a3 : PySem.W.nsIn K mainGlobals "wanted" = some (some (.ref f3)))
    (l3 : K.lookup f3 = some ⟨oc3, od3, .func (PySem.W.fnOf "wanted" "wanted" (defArgs s_wanted) (defBody s_wanted) (defScope s_wanted) .none kV3 dc3 pm3 an3 cd3 ct3), sl3⟩) (c3 : PySem.W.codeIn K cd3 "wanted" = true) (k3 : PySem.W.keepIn K (.ref f3) = true)
    {f4 : Addr} {od4 an4 : Option Addr} {sl4 : Array (Option Value)} {oc4 kV4 dc4 pm4 cd4 ct4 : Value}
    (a4 : PySem.W.nsIn K mainGlobals "kind_at" = some (some (.ref f4)))
    (l4 : K.lookup f4 = some ⟨oc4, od4, .func (PySem.W.fnOf "kind_at" "kind_at" (defArgs s_kind_at) (defBody s_kind_at) (defScope s_kind_at) .none kV4 dc4 pm4 an4 cd4 ct4), sl4⟩) (c4 : PySem.W.codeIn K cd4 "kind_at" = true) (k4 : PySem.W.keepIn K (.ref f4) = true)
    {f5 : Addr} {od5 an5 : Option Addr} {sl5 : Array (Option Value)} {oc5 kV5 dc5 pm5 cd5 ct5 : Value}
    (a5 : PySem.W.nsIn K mainGlobals "kind_of_binder" = some (some (.ref f5)))
    (l5 : K.lookup f5 = some ⟨oc5, od5, .func (PySem.W.fnOf "kind_of_binder" "kind_of_binder" (defArgs s_kind_of_binder) (defBody s_kind_of_binder) (defScope s_kind_of_binder) .none kV5 dc5 pm5 an5 cd5 ct5), sl5⟩) (c5 : PySem.W.codeIn K cd5 "kind_of_binder" = true) (k5 : PySem.W.keepIn K (.ref f5) = true)
    {f6 : Addr} {od6 an6 : Option Addr} {sl6 : Array (Option Value)} {oc6 kV6 dc6 pm6 cd6 ct6 : Value}
    (a6 : PySem.W.nsIn K mainGlobals "kind_of_staged" = some (some (.ref f6)))
    (l6 : K.lookup f6 = some ⟨oc6, od6, .func (PySem.W.fnOf "kind_of_staged" "kind_of_staged" (defArgs s_kind_of_staged) (defBody s_kind_of_staged) (defScope s_kind_of_staged) .none kV6 dc6 pm6 an6 cd6 ct6), sl6⟩) (c6 : PySem.W.codeIn K cd6 "kind_of_staged" = true) (k6 : PySem.W.keepIn K (.ref f6) = true)
    {f7 : Addr} {od7 an7 : Option Addr} {sl7 : Array (Option Value)} {oc7 kV7 dc7 pm7 cd7 ct7 : Value}
    (a7 : PySem.W.nsIn K mainGlobals "kind_of" = some (some (.ref f7)))
    (l7 : K.lookup f7 = some ⟨oc7, od7, .func (PySem.W.fnOf "kind_of" "kind_of" (defArgs s_kind_of) (defBody s_kind_of) (defScope s_kind_of) .none kV7 dc7 pm7 an7 cd7 ct7), sl7⟩) (c7 : PySem.W.codeIn K cd7 "kind_of" = true) (k7 : PySem.W.keepIn K (.ref f7) = true)
    {f8 : Addr} {od8 an8 : Option Addr} {sl8 : Array (Option Value)} {oc8 kV8 dc8 pm8 cd8 ct8 : Value}
    (a8 : PySem.W.nsIn K mainGlobals "parts_of" = some (some (.ref f8)))
    (l8 : K.lookup f8 = some ⟨oc8, od8, .func (PySem.W.fnOf "parts_of" "parts_of" (defArgs s_parts_of) (defBody s_parts_of) (defScope s_parts_of) .none kV8 dc8 pm8 an8 cd8 ct8), sl8⟩) (c8 : PySem.W.codeIn K cd8 "parts_of" = true) (k8 : PySem.W.keepIn K (.ref f8) = true)
    {f9 : Addr} {od9 an9 : Option Addr} {sl9 : Array (Option Value)} {oc9 kV9 dc9 pm9 cd9 ct9 : Value}
    (a9 : PySem.W.nsIn K mainGlobals "size_of" = some (some (.ref f9)))
    (l9 : K.lookup f9 = some ⟨oc9, od9, .func (PySem.W.fnOf "size_of" "size_of" (defArgs s_size_of) (defBody s_size_of) (defScope s_size_of) .none kV9 dc9 pm9 an9 cd9 ct9), sl9⟩) (c9 : PySem.W.codeIn K cd9 "size_of" = true) (k9 : PySem.W.keepIn K (.ref f9) = true)
    {f10 : Addr} {od10 an10 : Option Addr} {sl10 : Array (Option Value)} {oc10 kV10 dc10 pm10 cd10 ct10 : Value}
    (a10 : PySem.W.nsIn K mainGlobals "depth_of" = some (some (.ref f10)))
    (l10 : K.lookup f10 = some ⟨oc10, od10, .func (PySem.W.fnOf "depth_of" "depth_of" (defArgs s_depth_of) (defBody s_depth_of) (defScope s_depth_of) .none kV10 dc10 pm10 an10 cd10 ct10), sl10⟩) (c10 : PySem.W.codeIn K cd10 "depth_of" = true) (k10 : PySem.W.keepIn K (.ref f10) = true)
    {f11 : Addr} {od11 an11 : Option Addr} {sl11 : Array (Option Value)} {oc11 kV11 dc11 pm11 cd11 ct11 : Value}
    (a11 : PySem.W.findIn K (.ref CMaker) "__init__" = some (some (.ref f11))) (i11 : PySem.W.isFn K (.ref f11) = true)
    (l11 : K.lookup f11 = some ⟨oc11, od11, .func (PySem.W.fnOf "__init__" "Maker.__init__" (defArgs s_Maker___init__) (defBody s_Maker___init__) (defScope s_Maker___init__) .none kV11 dc11 pm11 an11 cd11 ct11), sl11⟩) (c11 : PySem.W.codeIn K cd11 "Maker.__init__" = true) (k11 : PySem.W.keepIn K (.ref f11) = true)
    {f12 : Addr} {od12 an12 : Option Addr} {sl12 : Array (Option Value)} {oc12 kV12 dc12 pm12 cd12 ct12 : Value}
    (a12 : PySem.W.findIn K (.ref CMaker) "fresh" = some (some (.ref f12))) (i12 : PySem.W.isFn K (.ref f12) = true)
    (l12 : K.lookup f12 = some ⟨oc12, od12, .func (PySem.W.fnOf "fresh" "Maker.fresh" (defArgs s_Maker_fresh) (defBody s_Maker_fresh) (defScope s_Maker_fresh) .none kV12 dc12 pm12 an12 cd12 ct12), sl12⟩) (c12 : PySem.W.codeIn K cd12 "Maker.fresh" = true) (k12 : PySem.W.keepIn K (.ref f12) = true)
    {f13 : Addr} {od13 an13 : Option Addr} {sl13 : Array (Option Value)} {oc13 kV13 dc13 pm13 cd13 ct13 : Value}
    (a13 : PySem.W.findIn K (.ref CMaker) "with_name" = some (some (.ref f13))) (i13 : PySem.W.isFn K (.ref f13) = true)
    (l13 : K.lookup f13 = some ⟨oc13, od13, .func (PySem.W.fnOf "with_name" "Maker.with_name" (defArgs s_Maker_with_name) (defBody s_Maker_with_name) (defScope s_Maker_with_name) .none kV13 dc13 pm13 an13 cd13 ct13), sl13⟩) (c13 : PySem.W.codeIn K cd13 "Maker.with_name" = true) (k13 : PySem.W.keepIn K (.ref f13) = true)
    {f14 : Addr} {od14 an14 : Option Addr} {sl14 : Array (Option Value)} {oc14 kV14 dc14 pm14 cd14 ct14 : Value}
    (a14 : PySem.W.findIn K (.ref CMaker) "value" = some (some (.ref f14))) (i14 : PySem.W.isFn K (.ref f14) = true)
    (l14 : K.lookup f14 = some ⟨oc14, od14, .func (PySem.W.fnOf "value" "Maker.value" (defArgs s_Maker_value) (defBody s_Maker_value) (defScope s_Maker_value) .none kV14 dc14 pm14 an14 cd14 ct14), sl14⟩) (c14 : PySem.W.codeIn K cd14 "Maker.value" = true) (k14 : PySem.W.keepIn K (.ref f14) = true)
    {f15 : Addr} {od15 an15 : Option Addr} {sl15 : Array (Option Value)} {oc15 kV15 dc15 pm15 cd15 ct15 : Value}
    (a15 : PySem.W.findIn K (.ref CMaker) "staged" = some (some (.ref f15))) (i15 : PySem.W.isFn K (.ref f15) = true)
    (l15 : K.lookup f15 = some ⟨oc15, od15, .func (PySem.W.fnOf "staged" "Maker.staged" (defArgs s_Maker_staged) (defBody s_Maker_staged) (defScope s_Maker_staged) .none kV15 dc15 pm15 an15 cd15 ct15), sl15⟩) (c15 : PySem.W.codeIn K cd15 "Maker.staged" = true) (k15 : PySem.W.keepIn K (.ref f15) = true)
    {f16 : Addr} {od16 an16 : Option Addr} {sl16 : Array (Option Value)} {oc16 kV16 dc16 pm16 cd16 ct16 : Value}
    (a16 : PySem.W.findIn K (.ref CMaker) "piece" = some (some (.ref f16))) (i16 : PySem.W.isFn K (.ref f16) = true)
    (l16 : K.lookup f16 = some ⟨oc16, od16, .func (PySem.W.fnOf "piece" "Maker.piece" (defArgs s_Maker_piece) (defBody s_Maker_piece) (defScope s_Maker_piece) .none kV16 dc16 pm16 an16 cd16 ct16), sl16⟩) (c16 : PySem.W.codeIn K cd16 "Maker.piece" = true) (k16 : PySem.W.keepIn K (.ref f16) = true)
    {f17 : Addr} {od17 an17 : Option Addr} {sl17 : Array (Option Value)} {oc17 kV17 dc17 pm17 cd17 ct17 : Value}
    (a17 : PySem.W.nsIn K mainGlobals "joined" = some (some (.ref f17)))
    (l17 : K.lookup f17 = some ⟨oc17, od17, .func (PySem.W.fnOf "joined" "joined" (defArgs s_joined) (defBody s_joined) (defScope s_joined) .none kV17 dc17 pm17 an17 cd17 ct17), sl17⟩) (c17 : PySem.W.codeIn K cd17 "joined" = true) (k17 : PySem.W.keepIn K (.ref f17) = true)
    {f18 : Addr} {od18 an18 : Option Addr} {sl18 : Array (Option Value)} {oc18 kV18 dc18 pm18 cd18 ct18 : Value}
    (a18 : PySem.W.nsIn K mainGlobals "told" = some (some (.ref f18)))
    (l18 : K.lookup f18 = some ⟨oc18, od18, .func (PySem.W.fnOf "told" "told" (defArgs s_told) (defBody s_told) (defScope s_told) .none kV18 dc18 pm18 an18 cd18 ct18), sl18⟩) (c18 : PySem.W.codeIn K cd18 "told" = true) (k18 : PySem.W.keepIn K (.ref f18) = true)
    {f19 : Addr} {od19 an19 : Option Addr} {sl19 : Array (Option Value)} {oc19 kV19 dc19 pm19 cd19 ct19 : Value}
    (a19 : PySem.W.nsIn K mainGlobals "made" = some (some (.ref f19)))
    (l19 : K.lookup f19 = some ⟨oc19, od19, .func (PySem.W.fnOf "made" "made" (defArgs s_made) (defBody s_made) (defScope s_made) .none kV19 dc19 pm19 an19 cd19 ct19), sl19⟩) (c19 : PySem.W.codeIn K cd19 "made" = true) (k19 : PySem.W.keepIn K (.ref f19) = true)
    {f20 : Addr} {od20 an20 : Option Addr} {sl20 : Array (Option Value)} {oc20 kV20 dc20 pm20 cd20 ct20 : Value}
    (a20 : PySem.W.nsIn K mainGlobals "_law_cell_at" = some (some (.ref f20)))
    (l20 : K.lookup f20 = some ⟨oc20, od20, .func (PySem.W.fnOf "_law_cell_at" "_law_cell_at" (defArgs s__law_cell_at) (defBody s__law_cell_at) (defScope s__law_cell_at) .none kV20 dc20 pm20 an20 cd20 ct20), sl20⟩) (c20 : PySem.W.codeIn K cd20 "_law_cell_at" = true) (k20 : PySem.W.keepIn K (.ref f20) = true)
    {f21 : Addr} {od21 an21 : Option Addr} {sl21 : Array (Option Value)} {oc21 kV21 dc21 pm21 cd21 ct21 : Value}
    (a21 : PySem.W.nsIn K mainGlobals "_law_mixed" = some (some (.ref f21)))
    (l21 : K.lookup f21 = some ⟨oc21, od21, .func (PySem.W.fnOf "_law_mixed" "_law_mixed" (defArgs s__law_mixed) (defBody s__law_mixed) (defScope s__law_mixed) .none kV21 dc21 pm21 an21 cd21 ct21), sl21⟩) (c21 : PySem.W.codeIn K cd21 "_law_mixed" = true) (k21 : PySem.W.keepIn K (.ref f21) = true)
    {f22 : Addr} {od22 an22 : Option Addr} {sl22 : Array (Option Value)} {oc22 kV22 dc22 pm22 cd22 ct22 : Value}
    (a22 : PySem.W.nsIn K mainGlobals "_law_drawn" = some (some (.ref f22)))
    (l22 : K.lookup f22 = some ⟨oc22, od22, .func (PySem.W.fnOf "_law_drawn" "_law_drawn" (defArgs s__law_drawn) (defBody s__law_drawn) (defScope s__law_drawn) .none kV22 dc22 pm22 an22 cd22 ct22), sl22⟩) (c22 : PySem.W.codeIn K cd22 "_law_drawn" = true) (k22 : PySem.W.keepIn K (.ref f22) = true)
    {f23 : Addr} {od23 an23 : Option Addr} {sl23 : Array (Option Value)} {oc23 kV23 dc23 pm23 cd23 ct23 : Value}
    (a23 : PySem.W.nsIn K mainGlobals "_law_name" = some (some (.ref f23)))
    (l23 : K.lookup f23 = some ⟨oc23, od23, .func (PySem.W.fnOf "_law_name" "_law_name" (defArgs s__law_name) (defBody s__law_name) (defScope s__law_name) .none kV23 dc23 pm23 an23 cd23 ct23), sl23⟩) (c23 : PySem.W.codeIn K cd23 "_law_name" = true) (k23 : PySem.W.keepIn K (.ref f23) = true)
    {f24 : Addr} {od24 an24 : Option Addr} {sl24 : Array (Option Value)} {oc24 kV24 dc24 pm24 cd24 ct24 : Value}
    (a24 : PySem.W.nsIn K mainGlobals "_law_wide" = some (some (.ref f24)))
    (l24 : K.lookup f24 = some ⟨oc24, od24, .func (PySem.W.fnOf "_law_wide" "_law_wide" (defArgs s__law_wide) (defBody s__law_wide) (defScope s__law_wide) .none kV24 dc24 pm24 an24 cd24 ct24), sl24⟩) (c24 : PySem.W.codeIn K cd24 "_law_wide" = true) (k24 : PySem.W.keepIn K (.ref f24) = true)
    {f25 : Addr} {od25 an25 : Option Addr} {sl25 : Array (Option Value)} {oc25 kV25 dc25 pm25 cd25 ct25 : Value}
    (a25 : PySem.W.nsIn K mainGlobals "_law_great" = some (some (.ref f25)))
    (l25 : K.lookup f25 = some ⟨oc25, od25, .func (PySem.W.fnOf "_law_great" "_law_great" (defArgs s__law_great) (defBody s__law_great) (defScope s__law_great) .none kV25 dc25 pm25 an25 cd25 ct25), sl25⟩) (c25 : PySem.W.codeIn K cd25 "_law_great" = true) (k25 : PySem.W.keepIn K (.ref f25) = true)
    {f26 : Addr} {od26 an26 : Option Addr} {sl26 : Array (Option Value)} {oc26 kV26 dc26 pm26 cd26 ct26 : Value}
    (a26 : PySem.W.nsIn K mainGlobals "_law_step" = some (some (.ref f26)))
    (l26 : K.lookup f26 = some ⟨oc26, od26, .func (PySem.W.fnOf "_law_step" "_law_step" (defArgs s__law_step) (defBody s__law_step) (defScope s__law_step) .none kV26 dc26 pm26 an26 cd26 ct26), sl26⟩) (c26 : PySem.W.codeIn K cd26 "_law_step" = true) (k26 : PySem.W.keepIn K (.ref f26) = true)
    {f27 : Addr} {od27 an27 : Option Addr} {sl27 : Array (Option Value)} {oc27 kV27 dc27 pm27 cd27 ct27 : Value}
    (a27 : PySem.W.nsIn K mainGlobals "_law_deep" = some (some (.ref f27)))
    (l27 : K.lookup f27 = some ⟨oc27, od27, .func (PySem.W.fnOf "_law_deep" "_law_deep" (defArgs s__law_deep) (defBody s__law_deep) (defScope s__law_deep) .none kV27 dc27 pm27 an27 cd27 ct27), sl27⟩) (c27 : PySem.W.codeIn K cd27 "_law_deep" = true) (k27 : PySem.W.keepIn K (.ref f27) = true)
    {f28 : Addr} {od28 an28 : Option Addr} {sl28 : Array (Option Value)} {oc28 kV28 dc28 pm28 cd28 ct28 : Value}
    (a28 : PySem.W.nsIn K mainGlobals "_law_refused" = some (some (.ref f28)))
    (l28 : K.lookup f28 = some ⟨oc28, od28, .func (PySem.W.fnOf "_law_refused" "_law_refused" (defArgs s__law_refused) (defBody s__law_refused) (defScope s__law_refused) .none kV28 dc28 pm28 an28 cd28 ct28), sl28⟩) (c28 : PySem.W.codeIn K cd28 "_law_refused" = true) (k28 : PySem.W.keepIn K (.ref f28) = true)
    {f29 : Addr} {od29 an29 : Option Addr} {sl29 : Array (Option Value)} {oc29 kV29 dc29 pm29 cd29 ct29 : Value}
    (a29 : PySem.W.nsIn K mainGlobals "_law_wrong_kind" = some (some (.ref f29)))
    (l29 : K.lookup f29 = some ⟨oc29, od29, .func (PySem.W.fnOf "_law_wrong_kind" "_law_wrong_kind" (defArgs s__law_wrong_kind) (defBody s__law_wrong_kind) (defScope s__law_wrong_kind) .none kV29 dc29 pm29 an29 cd29 ct29), sl29⟩) (c29 : PySem.W.codeIn K cd29 "_law_wrong_kind" = true) (k29 : PySem.W.keepIn K (.ref f29) = true)
    {f30 : Addr} {od30 an30 : Option Addr} {sl30 : Array (Option Value)} {oc30 kV30 dc30 pm30 cd30 ct30 : Value}
    (a30 : PySem.W.nsIn K mainGlobals "_law_done" = some (some (.ref f30)))
    (l30 : K.lookup f30 = some ⟨oc30, od30, .func (PySem.W.fnOf "_law_done" "_law_done" (defArgs s__law_done) (defBody s__law_done) (defScope s__law_done) .none kV30 dc30 pm30 an30 cd30 ct30), sl30⟩) (c30 : PySem.W.codeIn K cd30 "_law_done" = true) (k30 : PySem.W.keepIn K (.ref f30) = true)
    {f31 : Addr} {od31 an31 : Option Addr} {sl31 : Array (Option Value)} {oc31 kV31 dc31 pm31 cd31 ct31 : Value}
    (a31 : PySem.W.nsIn K mainGlobals "law" = some (some (.ref f31)))
    (l31 : K.lookup f31 = some ⟨oc31, od31, .func (PySem.W.fnOf "law" "law" (defArgs s_law) (defBody s_law) (defScope s_law) .none kV31 dc31 pm31 an31 cd31 ct31), sl31⟩) (c31 : PySem.W.codeIn K cd31 "law" = true) (k31 : PySem.W.keepIn K (.ref f31) = true)
    (pgMaker : PySem.W.plainGet K CMaker Str.empty = true) (hdMaker : PySem.W.hasDictIn K CMaker = true) (poMaker : PySem.W.plainOver K CMaker = true) (saMaker : PySem.W.findIn K (.ref CMaker) "__setattr__" = some (some (.builtin "object.__setattr__"))) (mkMaker : PySem.W.makesIn K CMaker = true) (kcMaker : PySem.W.keepIn K (.ref CMaker) = true)
    (naMaker_given : PySem.W.findIn K (.ref CMaker) "given" = some none)
    {tMODULUS : Tok} (qMODULUS : PySem.W.nsIn K mainGlobals "MODULUS" = some (some (.int 1000003 tMODULUS)))
    {tMOST_DEEP : Tok} (qMOST_DEEP : PySem.W.nsIn K mainGlobals "MOST_DEEP" = some (some (.int 30 tMOST_DEEP)))
    {tMOST_PARTS : Tok} (qMOST_PARTS : PySem.W.nsIn K mainGlobals "MOST_PARTS" = some (some (.int 2000 tMOST_PARTS)))
    {EHallError : Addr} (ecHallError : PySem.W.nsIn K mainGlobals "HallError" = some (some (.ref EHallError)))
    {ENoName : Addr} (ecNoName : PySem.W.nsIn K mainGlobals "NoName" = some (some (.ref ENoName)))
    {EWrongLevel : Addr} (ecWrongLevel : PySem.W.nsIn K mainGlobals "WrongLevel" = some (some (.ref EWrongLevel)))
    {EWrongKind : Addr} (ecWrongKind : PySem.W.nsIn K mainGlobals "WrongKind" = some (some (.ref EWrongKind)))
    {ETooGreat : Addr} (ecTooGreat : PySem.W.nsIn K mainGlobals "TooGreat" = some (some (.ref ETooGreat)))
    (exTooGreat : PySem.W.excIn K ETooGreat [.type "ValueError", .type "Exception", .type "BaseException", .type "object"] "ValueError.__new__" = true) (ekTooGreat : PySem.W.keepIn K (.ref ETooGreat) = true) (eyTooGreat : PySem.W.subIn K (.ref ETooGreat) (.type "BaseException") = some true) (ezTooGreat : PySem.W.typeIn K (.ref ETooGreat) = some (.type "type"))
    (h1TooGreat : PySem.W.findIn K (.ref ETooGreat) "__getattribute__" = some (some (.builtin "BaseException.__getattribute__"))) (h2TooGreat : PySem.W.findIn K (.ref ETooGreat) "__getattr__" = some none) (h3TooGreat : PySem.W.hasDictIn K ETooGreat = true) (h4TooGreat : PySem.W.findIn K (.ref ETooGreat) "__class__" = some (some (.builtin "object.__class__"))) (h5TooGreat : PySem.W.specialIn K (.builtin "object.__class__") "__get__" = some (some (.builtin "getset_descriptor.__get__"))) (h6TooGreat : PySem.W.takesIn K (.builtin "object.__class__") = some true) (h7TooGreat : PySem.W.mroIn K ETooGreat (.type "object") = some true)
    (exWrongKind : PySem.W.excIn K EWrongKind [.type "ValueError", .type "Exception", .type "BaseException", .type "object"] "ValueError.__new__" = true) (ekWrongKind : PySem.W.keepIn K (.ref EWrongKind) = true) (eyWrongKind : PySem.W.subIn K (.ref EWrongKind) (.type "BaseException") = some true) (ezWrongKind : PySem.W.typeIn K (.ref EWrongKind) = some (.type "type"))
    (h1WrongKind : PySem.W.findIn K (.ref EWrongKind) "__getattribute__" = some (some (.builtin "BaseException.__getattribute__"))) (h2WrongKind : PySem.W.findIn K (.ref EWrongKind) "__getattr__" = some none) (h3WrongKind : PySem.W.hasDictIn K EWrongKind = true) (h4WrongKind : PySem.W.findIn K (.ref EWrongKind) "__class__" = some (some (.builtin "object.__class__"))) (h5WrongKind : PySem.W.specialIn K (.builtin "object.__class__") "__get__" = some (some (.builtin "getset_descriptor.__get__"))) (h6WrongKind : PySem.W.takesIn K (.builtin "object.__class__") = some true) (h7WrongKind : PySem.W.mroIn K EWrongKind (.type "object") = some true)
    (etHallError : PySem.W.typeIn K (.ref EHallError) = some (.type "type")) (edHallError : PySem.W.hasDictIn K EHallError = true) (ebHallError : PySem.W.subIn K (.ref EHallError) (.type "BaseException") = some true)
    (etNoName : PySem.W.typeIn K (.ref ENoName) = some (.type "type")) (edNoName : PySem.W.hasDictIn K ENoName = true) (ebNoName : PySem.W.subIn K (.ref ENoName) (.type "BaseException") = some true)
    (etTooGreat : PySem.W.typeIn K (.ref ETooGreat) = some (.type "type")) (edTooGreat : PySem.W.hasDictIn K ETooGreat = true) (ebTooGreat : PySem.W.subIn K (.ref ETooGreat) (.type "BaseException") = some true)
    (etWrongKind : PySem.W.typeIn K (.ref EWrongKind) = some (.type "type")) (edWrongKind : PySem.W.hasDictIn K EWrongKind = true) (ebWrongKind : PySem.W.subIn K (.ref EWrongKind) (.type "BaseException") = some true)
    (etWrongLevel : PySem.W.typeIn K (.ref EWrongLevel) = some (.type "type")) (edWrongLevel : PySem.W.hasDictIn K EWrongLevel = true) (ebWrongLevel : PySem.W.subIn K (.ref EWrongLevel) (.type "BaseException") = some true)
    (esTooGreat_HallError : PySem.W.subIn K (.ref ETooGreat) (.ref EHallError) = some true)
    (esTooGreat_NoName : PySem.W.subIn K (.ref ETooGreat) (.ref ENoName) = some false)
    (esTooGreat_TooGreat : PySem.W.subIn K (.ref ETooGreat) (.ref ETooGreat) = some true)
    (esTooGreat_ValueError : PySem.W.subIn K (.ref ETooGreat) (.type "ValueError") = some true)
    (esTooGreat_WrongKind : PySem.W.subIn K (.ref ETooGreat) (.ref EWrongKind) = some false)
    (esTooGreat_WrongLevel : PySem.W.subIn K (.ref ETooGreat) (.ref EWrongLevel) = some false)
    (esWrongKind_HallError : PySem.W.subIn K (.ref EWrongKind) (.ref EHallError) = some true)
    (esWrongKind_NoName : PySem.W.subIn K (.ref EWrongKind) (.ref ENoName) = some false)
    (esWrongKind_TooGreat : PySem.W.subIn K (.ref EWrongKind) (.ref ETooGreat) = some false)
    (esWrongKind_ValueError : PySem.W.subIn K (.ref EWrongKind) (.type "ValueError") = some true)
    (esWrongKind_WrongKind : PySem.W.subIn K (.ref EWrongKind) (.ref EWrongKind) = some true)
    (esWrongKind_WrongLevel : PySem.W.subIn K (.ref EWrongKind) (.ref EWrongLevel) = some false)
    (z1 : PySem.W.nsIn K mainGlobals "ValueError" = some none)
    (z2 : PySem.W.nsIn K mainGlobals "dict" = some none)
    (z3 : PySem.W.nsIn K mainGlobals "int" = some none)
    (z4 : PySem.W.nsIn K mainGlobals "isinstance" = some none)
    (z5 : PySem.W.nsIn K mainGlobals "len" = some none)
    (z6 : PySem.W.nsIn K mainGlobals "list" = some none)
    (z7 : PySem.W.nsIn K mainGlobals "max" = some none)
    (z8 : PySem.W.nsIn K mainGlobals "min" = some none)
    (z9 : PySem.W.nsIn K mainGlobals "range" = some none)
    (z10 : PySem.W.nsIn K mainGlobals "str" = some none)
    (z11 : PySem.W.nsIn K mainGlobals "sum" = some none)
    (z12 : PySem.W.nsIn K mainGlobals "tuple" = some none)
    : ∃ fd : FuncData, (∀ (s : Shared) (v : Value), BindsTo s fd ⟨[v], []⟩ [("_law_script", v)]) ∧ ∀ base : Heap, K.In base → base.Ns mainGlobals mg → FnOk l.prog w K mg base (L2.CX l.prog w) 109 fa fd ["_law_script"] (liftSp K spLaw) := by
  have e := hfa.symm.trans (PySem.W.mg_of X Gn a31)
  cases e
  have F1 := fun_mk (st := s_meaning) l1 c1 k1
  have b1 := F1.binds (ps := ["names", "name", "level"]) fun _ _ _ _ _ _ us hl => match us, hl with | [_, _, _], _ => rfl
  have F2 := fun_mk (st := s_bound) l2 c2 k2
  have b2 := F2.binds (ps := ["names", "name", "level", "kinds"]) fun _ _ _ _ _ _ us hl => match us, hl with | [_, _, _, _], _ => rfl
  have F3 := fun_mk (st := s_wanted) l3 c3 k3
  have b3 := F3.binds (ps := ["kind", "due"]) fun _ _ _ _ _ _ us hl => match us, hl with | [_, _], _ => rfl
  have F4 := fun_mk (st := s_kind_at) l4 c4 k4
  have b4 := F4.binds (ps := ["term", "level", "names", "free"]) fun _ _ _ _ _ _ us hl => match us, hl with | [_, _, _, _], _ => rfl
  have F5 := fun_mk (st := s_kind_of_binder) l5 c5 k5
  have b5 := F5.binds (ps := ["term", "level", "names", "free"]) fun _ _ _ _ _ _ us hl => match us, hl with | [_, _, _, _], _ => rfl
  have F6 := fun_mk (st := s_kind_of_staged) l6 c6 k6
  have b6 := F6.binds (ps := ["term", "level", "names", "free"]) fun _ _ _ _ _ _ us hl => match us, hl with | [_, _, _, _], _ => rfl
  have F7 := fun_mk (st := s_kind_of) l7 c7 k7
  have b7 := F7.binds (ps := ["term"]) fun _ _ _ _ _ _ us hl => match us, hl with | [_], _ => rfl
  have F8 := fun_mk (st := s_parts_of) l8 c8 k8
  have b8 := F8.binds (ps := ["term"]) fun _ _ _ _ _ _ us hl => match us, hl with | [_], _ => rfl
  have F9 := fun_mk (st := s_size_of) l9 c9 k9
  have b9 := F9.binds (ps := ["term"]) fun _ _ _ _ _ _ us hl => match us, hl with | [_], _ => rfl
  have F10 := fun_mk (st := s_depth_of) l10 c10 k10
  have b10 := F10.binds (ps := ["term"]) fun _ _ _ _ _ _ us hl => match us, hl with | [_], _ => rfl
  have F11 := fun_mk (st := s_Maker___init__) l11 c11 k11
  have b11 := F11.binds (ps := ["self"]) fun _ _ _ _ _ _ us hl => match us, hl with | [_], _ => rfl
  have F12 := fun_mk (st := s_Maker_fresh) l12 c12 k12
  have b12 := F12.binds (ps := ["self"]) fun _ _ _ _ _ _ us hl => match us, hl with | [_], _ => rfl
  have F13 := fun_mk (st := s_Maker_with_name) l13 c13 k13
  have b13 := F13.binds (ps := ["self", "names", "name", "value"]) fun _ _ _ _ _ _ us hl => match us, hl with | [_, _, _, _], _ => rfl
  have F14 := fun_mk (st := s_Maker_value) l14 c14 k14
  have b14 := F14.binds (ps := ["self", "term", "names"]) fun _ _ _ _ _ _ us hl => match us, hl with | [_, _, _], _ => rfl
  have F15 := fun_mk (st := s_Maker_staged) l15 c15 k15
  have b15 := F15.binds (ps := ["self", "term", "names"]) fun _ _ _ _ _ _ us hl => match us, hl with | [_, _, _], _ => rfl
  have F16 := fun_mk (st := s_Maker_piece) l16 c16 k16
  have b16 := F16.binds (ps := ["self", "term", "names"]) fun _ _ _ _ _ _ us hl => match us, hl with | [_, _, _], _ => rfl
  have F17 := fun_mk (st := s_joined) l17 c17 k17
  have b17 := F17.binds (ps := ["word", "left", "right"]) fun _ _ _ _ _ _ us hl => match us, hl with | [_, _, _], _ => rfl
  have F18 := fun_mk (st := s_told) l18 c18 k18
  have b18 := F18.binds (ps := ["term"]) fun _ _ _ _ _ _ us hl => match us, hl with | [_], _ => rfl
  have F19 := fun_mk (st := s_made) l19 c19 k19
  have b19 := F19.binds (ps := ["term"]) fun _ _ _ _ _ _ us hl => match us, hl with | [_], _ => rfl
  have F20 := fun_mk (st := s__law_cell_at) l20 c20 k20
  have b20 := F20.binds (ps := ["_law_script", "_law_k"]) fun _ _ _ _ _ _ us hl => match us, hl with | [_, _], _ => rfl
  have F21 := fun_mk (st := s__law_mixed) l21 c21 k21
  have b21 := F21.binds (ps := ["_law_script", "_law_k"]) fun _ _ _ _ _ _ us hl => match us, hl with | [_, _], _ => rfl
  have F22 := fun_mk (st := s__law_drawn) l22 c22 k22
  have b22 := F22.binds (ps := ["_law_number_here", "_law_sizes"]) fun _ _ _ _ _ _ us hl => match us, hl with | [_, _], _ => rfl
  have F23 := fun_mk (st := s__law_name) l23 c23 k23
  have b23 := F23.binds (ps := ["_law_script", "_law_which"]) fun _ _ _ _ _ _ us hl => match us, hl with | [_, _], _ => rfl
  have F24 := fun_mk (st := s__law_wide) l24 c24 k24
  have b24 := F24.binds (ps := ["_law_many"]) fun _ _ _ _ _ _ us hl => match us, hl with | [_], _ => rfl
  have F25 := fun_mk (st := s__law_great) l25 c25 k25
  have b25 := F25.binds (ps := ["_law_x", "_law_size"]) fun _ _ _ _ _ _ us hl => match us, hl with | [_, _], _ => rfl
  have F26 := fun_mk (st := s__law_step) l26 c26 k26
  have b26 := F26.binds (ps := ["_law_way", "_law_x", "_law_y"]) fun _ _ _ _ _ _ us hl => match us, hl with | [_, _, _], _ => rfl
  have F27 := fun_mk (st := s__law_deep) l27 c27 k27
  have b27 := F27.binds (ps := ["_law_x", "_law_y", "_law_deep_here", "_law_way"]) fun _ _ _ _ _ _ us hl => match us, hl with | [_, _, _, _], _ => rfl
  have F28 := fun_mk (st := s__law_refused) l28 c28 k28
  have b28 := F28.binds (ps := ["_law_program", "_law_way"]) fun _ _ _ _ _ _ us hl => match us, hl with | [_, _], _ => rfl
  have F29 := fun_mk (st := s__law_wrong_kind) l29 c29 k29
  have b29 := F29.binds (ps := ["_law_program", "_law_way"]) fun _ _ _ _ _ _ us hl => match us, hl with | [_, _], _ => rfl
  have F30 := fun_mk (st := s__law_done) l30 c30 k30
  have b30 := F30.binds (ps := ["_law_program", "_law_way"]) fun _ _ _ _ _ _ us hl => match us, hl with | [_, _], _ => rfl
  have F31 := fun_mk (st := s_law) l31 c31 k31
  have b31 := F31.binds (ps := ["_law_script"]) fun _ _ _ _ _ _ us hl => match us, hl with | [_], _ => rfl
  have g : { g : G K mg // g.a_law = fa ∧ HEq g.d_law (PySem.W.fnOf "law" "law" (defArgs s_law) (defBody s_law) (defScope s_law) .none kV31 dc31 pm31 an31 cd31 ct31) } := ⟨{ a_meaning := f1, d_meaning := _, a_bound := f2, d_bound := _, a_wanted := f3, d_wanted := _, a_kind_at := f4, d_kind_at := _, a_kind_of_binder := f5, d_kind_of_binder := _, a_kind_of_staged := f6, d_kind_of_staged := _, a_kind_of := f7, d_kind_of := _, a_parts_of := f8, d_parts_of := _, a_size_of := f9, d_size_of := _, a_depth_of := f10, d_depth_of := _, a_Maker___init__ := f11, d_Maker___init__ := _, a_Maker_fresh := f12, d_Maker_fresh := _, a_Maker_with_name := f13, d_Maker_with_name := _, a_Maker_value := f14, d_Maker_value := _, a_Maker_staged := f15, d_Maker_staged := _, a_Maker_piece := f16, d_Maker_piece := _, a_joined := f17, d_joined := _, a_told := f18, d_told := _, a_made := f19, d_made := _, a__law_cell_at := f20, d__law_cell_at := _, a__law_mixed := f21, d__law_mixed := _, a__law_drawn := f22, d__law_drawn := _, a__law_name := f23, d__law_name := _, a__law_wide := f24, d__law_wide := _, a__law_great := f25, d__law_great := _, a__law_step := f26, d__law_step := _, a__law_deep := f27, d__law_deep := _, a__law_refused := f28, d__law_refused := _, a__law_wrong_kind := f29, d__law_wrong_kind := _, a__law_done := f30, d__law_done := _, a_law := fa, d_law := _, p_meaning := ⟨F1, PySem.W.mg_of X Gn a1, b1⟩, p_bound := ⟨F2, PySem.W.mg_of X Gn a2, b2⟩, p_wanted := ⟨F3, PySem.W.mg_of X Gn a3, b3⟩, p_kind_at := ⟨F4, PySem.W.mg_of X Gn a4, b4⟩, p_kind_of_binder := ⟨F5, PySem.W.mg_of X Gn a5, b5⟩, p_kind_of_staged := ⟨F6, PySem.W.mg_of X Gn a6, b6⟩, p_kind_of := ⟨F7, PySem.W.mg_of X Gn a7, b7⟩, p_parts_of := ⟨F8, PySem.W.mg_of X Gn a8, b8⟩, p_size_of := ⟨F9, PySem.W.mg_of X Gn a9, b9⟩, p_depth_of := ⟨F10, PySem.W.mg_of X Gn a10, b10⟩, p_Maker___init__ := ⟨F11, b11⟩, p_Maker_fresh := ⟨F12, b12⟩, p_Maker_with_name := ⟨F13, b13⟩, p_Maker_value := ⟨F14, b14⟩, p_Maker_staged := ⟨F15, b15⟩, p_Maker_piece := ⟨F16, b16⟩, p_joined := ⟨F17, PySem.W.mg_of X Gn a17, b17⟩, p_told := ⟨F18, PySem.W.mg_of X Gn a18, b18⟩, p_made := ⟨F19, PySem.W.mg_of X Gn a19, b19⟩, p__law_cell_at := ⟨F20, PySem.W.mg_of X Gn a20, b20⟩, p__law_mixed := ⟨F21, PySem.W.mg_of X Gn a21, b21⟩, p__law_drawn := ⟨F22, PySem.W.mg_of X Gn a22, b22⟩, p__law_name := ⟨F23, PySem.W.mg_of X Gn a23, b23⟩, p__law_wide := ⟨F24, PySem.W.mg_of X Gn a24, b24⟩, p__law_great := ⟨F25, PySem.W.mg_of X Gn a25, b25⟩, p__law_step := ⟨F26, PySem.W.mg_of X Gn a26, b26⟩, p__law_deep := ⟨F27, PySem.W.mg_of X Gn a27, b27⟩, p__law_refused := ⟨F28, PySem.W.mg_of X Gn a28, b28⟩, p__law_wrong_kind := ⟨F29, PySem.W.mg_of X Gn a29, b29⟩, p__law_done := ⟨F30, PySem.W.mg_of X Gn a30, b30⟩, p_law := ⟨F31, PySem.W.mg_of X Gn a31, b31⟩, C_Maker := CMaker, cl_Maker := ⟨pgMaker, hdMaker, poMaker, saMaker⟩, g_Maker := PySem.W.mg_of X Gn xMaker, mk_Maker := ⟨mkMaker, a11, i11, kcMaker⟩, na_Maker_given := naMaker_given, m_Maker_fresh := ⟨a12, i12, k12⟩, m_Maker_with_name := ⟨a13, i13, k13⟩, m_Maker_value := ⟨a14, i14, k14⟩, m_Maker_staged := ⟨a15, i15, k15⟩, m_Maker_piece := ⟨a16, i16, k16⟩, C_HallError := EHallError, g_HallError := PySem.W.mg_of X Gn ecHallError, C_NoName := ENoName, g_NoName := PySem.W.mg_of X Gn ecNoName, C_WrongLevel := EWrongLevel, g_WrongLevel := PySem.W.mg_of X Gn ecWrongLevel, C_WrongKind := EWrongKind, g_WrongKind := PySem.W.mg_of X Gn ecWrongKind, C_TooGreat := ETooGreat, g_TooGreat := PySem.W.mg_of X Gn ecTooGreat, x_TooGreat := exTooGreat, k_TooGreat := ekTooGreat, y_TooGreat := eyTooGreat, z_TooGreat := ezTooGreat, e_TooGreat := ⟨h1TooGreat, h2TooGreat, eyTooGreat, h3TooGreat, h4TooGreat, h5TooGreat, h6TooGreat, h7TooGreat⟩, x_WrongKind := exWrongKind, k_WrongKind := ekWrongKind, y_WrongKind := eyWrongKind, z_WrongKind := ezWrongKind, e_WrongKind := ⟨h1WrongKind, h2WrongKind, eyWrongKind, h3WrongKind, h4WrongKind, h5WrongKind, h6WrongKind, h7WrongKind⟩, m_TooGreat_HallError := PySem.W.exm_ref ebHallError edHallError etHallError esTooGreat_HallError, m_TooGreat_TooGreat := PySem.W.exm_ref ebTooGreat edTooGreat etTooGreat esTooGreat_TooGreat, m_WrongKind_HallError := PySem.W.exm_ref ebHallError edHallError etHallError esWrongKind_HallError, m_WrongKind_TooGreat := PySem.W.exm_ref ebTooGreat edTooGreat etTooGreat esWrongKind_TooGreat, i_TooGreat_NoName := Dq.kit_ref esTooGreat_TooGreat edNoName etNoName esTooGreat_NoName, i_TooGreat_TooGreat := Dq.kit_ref esTooGreat_TooGreat edTooGreat etTooGreat esTooGreat_TooGreat, i_TooGreat_ValueError := Dq.kit_ty rfl esTooGreat_ValueError, i_TooGreat_WrongKind := Dq.kit_ref esTooGreat_TooGreat edWrongKind etWrongKind esTooGreat_WrongKind, i_TooGreat_WrongLevel := Dq.kit_ref esTooGreat_TooGreat edWrongLevel etWrongLevel esTooGreat_WrongLevel, i_WrongKind_NoName := Dq.kit_ref esWrongKind_WrongKind edNoName etNoName esWrongKind_NoName, i_WrongKind_TooGreat := Dq.kit_ref esWrongKind_WrongKind edTooGreat etTooGreat esWrongKind_TooGreat, i_WrongKind_ValueError := Dq.kit_ty rfl esWrongKind_ValueError, i_WrongKind_WrongKind := Dq.kit_ref esWrongKind_WrongKind edWrongKind etWrongKind esWrongKind_WrongKind, i_WrongKind_WrongLevel := Dq.kit_ref esWrongKind_WrongKind edWrongLevel etWrongLevel esWrongKind_WrongLevel, t_MODULUS := tMODULUS, c_MODULUS := PySem.W.mg_of X Gn qMODULUS, t_MOST_DEEP := tMOST_DEEP, c_MOST_DEEP := PySem.W.mg_of X Gn qMOST_DEEP, t_MOST_PARTS := tMOST_PARTS, c_MOST_PARTS := PySem.W.mg_of X Gn qMOST_PARTS, b_ValueError := PySem.W.mg_none_of X Gn z1, b_dict := PySem.W.mg_none_of X Gn z2, b_int := PySem.W.mg_none_of X Gn z3, b_isinstance := PySem.W.mg_none_of X Gn z4, b_len := PySem.W.mg_none_of X Gn z5, b_list := PySem.W.mg_none_of X Gn z6, b_max := PySem.W.mg_none_of X Gn z7, b_min := PySem.W.mg_none_of X Gn z8, b_range := PySem.W.mg_none_of X Gn z9, b_str := PySem.W.mg_none_of X Gn z10, b_sum := PySem.W.mg_none_of X Gn z11, b_tuple := PySem.W.mg_none_of X Gn z12 }, rfl, HEq.rfl⟩
  refine ⟨PySem.W.fnOf "law" "law" (defArgs s_law) (defBody s_law) (defScope s_law) .none kV31 dc31 pm31 an31 cd31 ct31, fun s v => .of_eq rfl, fun base _ _ => ?_⟩
  obtain ⟨g, rfl, hg⟩ := g
  have hg := eq_of_heq hg
  rw [← hg]
  exact (ok_all g).ok (by decide)
theorem walk {l : PySem.W.OpenLaw} {q : Program} {loose : List Str} {XP : (Str → Option Value) → Heap → Prop} {YP : World → Heap → Prop} {d : DefRec} {K : Params → PySem.W.Frag} (hn : l.most = some 63) (hdf : d.params.defaults = [])
    (hY : ∀ (w : World) (h : Heap), YP w h → (K w.params).In h)
    (F : ∀ (w : World) (mg : Str → Option Value) (fa : Addr) (h : Heap), (K w.params).In h → h.Ns mainGlobals mg → mg d.name = some (.ref fa) →
      ∃ fd : FuncData, (∀ (s : Shared) (u : Value), BindsTo s fd ⟨[u], []⟩ [("_law_script", u)]) ∧ ∀ base : Heap, (K w.params).In base → base.Ns mainGlobals mg → FnOk l.prog w (K w.params) mg base (L2.CX l.prog w) 109 fa fd ["_law_script"] (liftSp (K w.params) spLaw)) :
    PySem.W.WalkO q loose XP YP l.row.toRowW d [] (fun f vs => PySem.call f vs) :=
  L2.walk_of (n := 63) (k := 109) (x := "_law_script") (CX := fun w => L2.CX l.prog w) (sp := fun w => liftSp (K w.params) spLaw) hn (by decide) hdf ⟨rfl, by decide, by decide⟩ hY F (fun w H a ns hl hO hS => law_in hl hO hS) fun w H s e s' z => by
    obtain ⟨_, _, _, _, _, _, _, _, _, _, _, _, z⟩ := z
    exact z
end Qh
open PySem PySem.W PyProof.Rows
set_option maxRecDepth 100000 in
set_option maxHeartbeats 0 in
theorem PySem.Challenge.cw_quotehall_k11_too_great_holds : PySem.Challenge.rw_quotehall_k11_too_great.Holds := by
  w_on; o_law; k_head; (case hw => w_witness2)
  k_fill
  refine Qh.walk (l := PySem.Challenge.rw_quotehall_k11_too_great) rfl rfl (fun w h Y => PySem.W.kIn_of Y) ?F
  case F =>
    intro w mg fa h KX G hmg
    refine' Qh.all_mk KX G hmg ?xMaker ?a1 ?l1 ?c1 ?k1 ?a2 ?l2 ?c2 ?k2 ?a3 ?l3 ?c3 ?k3 ?a4 ?l4 ?c4 ?k4 ?a5 ?l5 ?c5 ?k5 ?a6 ?l6 ?c6 ?k6 ?a7 ?l7 ?c7 ?k7 ?a8 ?l8 ?c8 ?k8 ?a9 ?l9 ?c9 ?k9 ?a10 ?l10 ?c10 ?k10 ?a11 ?i11 ?l11 ?c11 ?k11 ?a12 ?i12 ?l12 ?c12 ?k12 ?a13 ?i13 ?l13 ?c13 ?k13 ?a14 ?i14 ?l14 ?c14 ?k14 ?a15 ?i15 ?l15 ?c15 ?k15 ?a16 ?i16 ?l16 ?c16 ?k16 ?a17 ?l17 ?c17 ?k17 ?a18 ?l18 ?c18 ?k18 ?a19 ?l19 ?c19 ?k19 ?a20 ?l20 ?c20 ?k20 ?a21 ?l21 ?c21 ?k21 ?a22 ?l22 ?c22 ?k22 ?a23 ?l23 ?c23 ?k23 ?a24 ?l24 ?c24 ?k24 ?a25 ?l25 ?c25 ?k25 ?a26 ?l26 ?c26 ?k26 ?a27 ?l27 ?c27 ?k27 ?a28 ?l28 ?c28 ?k28 ?a29 ?l29 ?c29 ?k29 ?a30 ?l30 ?c30 ?k30 ?a31 ?l31 ?c31 ?k31 ?pgMaker ?hdMaker ?poMaker ?saMaker ?mkMaker ?kcMaker ?naMaker_given ?qMODULUS ?qMOST_DEEP ?qMOST_PARTS ?ecHallError ?ecNoName ?ecWrongLevel ?ecWrongKind ?ecTooGreat ?exTooGreat ?ekTooGreat ?eyTooGreat ?ezTooGreat ?h1TooGreat ?h2TooGreat ?h3TooGreat ?h4TooGreat ?h5TooGreat ?h6TooGreat ?h7TooGreat ?exWrongKind ?ekWrongKind ?eyWrongKind ?ezWrongKind ?h1WrongKind ?h2WrongKind ?h3WrongKind ?h4WrongKind ?h5WrongKind ?h6WrongKind ?h7WrongKind ?etHallError ?edHallError ?ebHallError ?etNoName ?edNoName ?ebNoName ?etTooGreat ?edTooGreat ?ebTooGreat ?etWrongKind ?edWrongKind ?ebWrongKind ?etWrongLevel ?edWrongLevel ?ebWrongLevel ?esTooGreat_HallError ?esTooGreat_NoName ?esTooGreat_TooGreat ?esTooGreat_ValueError ?esTooGreat_WrongKind ?esTooGreat_WrongLevel ?esWrongKind_HallError ?esWrongKind_NoName ?esWrongKind_TooGreat ?esWrongKind_ValueError ?esWrongKind_WrongKind ?esWrongKind_WrongLevel ?z1 ?z2 ?z3 ?z4 ?z5 ?z6 ?z7 ?z8 ?z9 ?z10 ?z11 ?z12
    (case xMaker => k_is)
    (case a1 => k_is)
    (case l1 => k_is)
    (case c1 => k_is)
    (case k1 => k_is)
    (case a2 => k_is)
    (case l2 => k_is)
    (case c2 => k_is)
    (case k2 => k_is)
    (case a3 => k_is)
    (case l3 => k_is)
    (case c3 => k_is)
    (case k3 => k_is)
    (case a4 => k_is)
    (case l4 => k_is)
    (case c4 => k_is)
    (case k4 => k_is)
    (case a5 => k_is)
    (case l5 => k_is)
    (case c5 => k_is)
    (case k5 => k_is)
    (case a6 => k_is)
    (case l6 => k_is)
    (case c6 => k_is)
    (case k6 => k_is)
    (case a7 => k_is)
    (case l7 => k_is)
    (case c7 => k_is)
    (case k7 => k_is)
    (case a8 => k_is)
    (case l8 => k_is)
    (case c8 => k_is)
    (case k8 => k_is)
    (case a9 => k_is)
    (case l9 => k_is)
    (case c9 => k_is)
    (case k9 => k_is)
    (case a10 => k_is)
    (case l10 => k_is)
    (case c10 => k_is)
    (case k10 => k_is)
    (case a11 => k_is)
    (case i11 => k_is)
    (case l11 => k_is)
    (case c11 => k_is)
    (case k11 => k_is)
    (case a12 => k_is)
    (case i12 => k_is)
    (case l12 => k_is)
    (case c12 => k_is)
    (case k12 => k_is)
    (case a13 => k_is)
    (case i13 => k_is)
    (case l13 => k_is)
    (case c13 => k_is)
    (case k13 => k_is)
    (case a14 => k_is)
    (case i14 => k_is)
    (case l14 => k_is)
    (case c14 => k_is)
    (case k14 => k_is)
    (case a15 => k_is)
    (case i15 => k_is)
    (case l15 => k_is)
    (case c15 => k_is)
    (case k15 => k_is)
    (case a16 => k_is)
    (case i16 => k_is)
    (case l16 => k_is)
    (case c16 => k_is)
    (case k16 => k_is)
    (case a17 => k_is)
    (case l17 => k_is)
    (case c17 => k_is)
    (case k17 => k_is)
    (case a18 => k_is)
    (case l18 => k_is)
    (case c18 => k_is)
    (case k18 => k_is)
    (case a19 => k_is)
    (case l19 => k_is)
    (case c19 => k_is)
    (case k19 => k_is)
    (case a20 => k_is)
    (case l20 => k_is)
    (case c20 => k_is)
    (case k20 => k_is)
    (case a21 => k_is)
    (case l21 => k_is)
    (case c21 => k_is)
    (case k21 => k_is)
    (case a22 => k_is)
    (case l22 => k_is)
    (case c22 => k_is)
    (case k22 => k_is)
    (case a23 => k_is)
    (case l23 => k_is)
    (case c23 => k_is)
    (case k23 => k_is)
    (case a24 => k_is)
    (case l24 => k_is)
    (case c24 => k_is)
    (case k24 => k_is)
    (case a25 => k_is)
    (case l25 => k_is)
    (case c25 => k_is)
    (case k25 => k_is)
    (case a26 => k_is)
    (case l26 => k_is)
    (case c26 => k_is)
    (case k26 => k_is)
    (case a27 => k_is)
    (case l27 => k_is)
    (case c27 => k_is)
    (case k27 => k_is)
    (case a28 => k_is)
    (case l28 => k_is)
    (case c28 => k_is)
    (case k28 => k_is)
    (case a29 => k_is)
    (case l29 => k_is)
    (case c29 => k_is)
    (case k29 => k_is)
    (case a30 => k_is)
    (case l30 => k_is)
    (case c30 => k_is)
    (case k30 => k_is)
    (case a31 => k_is)
    (case l31 => k_is)
    (case c31 => k_is)
    (case k31 => k_is)
    (case pgMaker => k_is)
    (case hdMaker => k_is)
    (case poMaker => k_is)
    (case saMaker => k_is)
    (case mkMaker => k_is)
    (case kcMaker => k_is)
    (case naMaker_given => k_is)
    (case qMODULUS => k_is)
    (case qMOST_DEEP => k_is)
    (case qMOST_PARTS => k_is)
    (case ecHallError => k_is)
    (case ecNoName => k_is)
    (case ecWrongLevel => k_is)
    (case ecWrongKind => k_is)
    (case ecTooGreat => k_is)
    (case exTooGreat => first | k_is | k_exc)
    (case ekTooGreat => k_is)
    (case eyTooGreat => k_is)
    (case ezTooGreat => k_is)
    (case h1TooGreat => k_is)
    (case h2TooGreat => k_is)
    (case h3TooGreat => k_is)
    (case h4TooGreat => k_is)
    (case h5TooGreat => k_is)
    (case h6TooGreat => k_is)
    (case h7TooGreat => k_is)
    (case exWrongKind => first | k_is | k_exc)
    (case ekWrongKind => k_is)
    (case eyWrongKind => k_is)
    (case ezWrongKind => k_is)
    (case h1WrongKind => k_is)
    (case h2WrongKind => k_is)
    (case h3WrongKind => k_is)
    (case h4WrongKind => k_is)
    (case h5WrongKind => k_is)
    (case h6WrongKind => k_is)
    (case h7WrongKind => k_is)
    (case etHallError => k_is)
    (case edHallError => k_is)
    (case ebHallError => k_is)
    (case etNoName => k_is)
    (case edNoName => k_is)
    (case ebNoName => k_is)
    (case etTooGreat => k_is)
    (case edTooGreat => k_is)
    (case ebTooGreat => k_is)
    (case etWrongKind => k_is)
    (case edWrongKind => k_is)
    (case ebWrongKind => k_is)
    (case etWrongLevel => k_is)
    (case edWrongLevel => k_is)
    (case ebWrongLevel => k_is)
    (case esTooGreat_HallError => k_is)
    (case esTooGreat_NoName => k_is)
    (case esTooGreat_TooGreat => k_is)
    (case esTooGreat_ValueError => k_is)
    (case esTooGreat_WrongKind => k_is)
    (case esTooGreat_WrongLevel => k_is)
    (case esWrongKind_HallError => k_is)
    (case esWrongKind_NoName => k_is)
    (case esWrongKind_TooGreat => k_is)
    (case esWrongKind_ValueError => k_is)
    (case esWrongKind_WrongKind => k_is)
    (case esWrongKind_WrongLevel => k_is)
    (case z1 => k_is)
    (case z2 => k_is)
    (case z3 => k_is)
    (case z4 => k_is)
    (case z5 => k_is)
    (case z6 => k_is)
    (case z7 => k_is)
    (case z8 => k_is)
    (case z9 => k_is)
    (case z10 => k_is)
    (case z11 => k_is)
    (case z12 => k_is)
