import PyProof.Rows.All
import Wide.All
import OpenK.AllK
import Wide.FinOn
import HandS.ForMost
import HandS.Exc
import HandS.TryOnly
import HandS.TryMany
import HandS.ExcOwn
import HandS.WordsExc
import HandS.ExcInit
import HandS.Nested
import KE.KExcSuper
import HandS.Walk
import HandS.TupAny
import HandS.Deep
import HandS.IsInst
import HandS.TupMul
import HandS.Conv
import HandS.More
import HandS.Strs
import HandS.CallSlots
import HandS.ExcField
import PyProof.ReprRoads
import KE.RegKSuper
import HandS.ExcIs
import PySem.Challenge.RW_coachstages_k09_errors
set_option Elab.async false
set_option linter.all false
set_option maxRecDepth 100000
set_option maxHeartbeats 4000000
namespace J
open PySem PySem.Spec PyProof.Rows L2 NdefX

/-- what the written part says of a class whose own __init__ says super().__init__ -/
structure SupC (K : PySem.W.Frag) (prog : Program) (C cc cda : Addr) : Prop where
  cell : ∃ cl cld csl, K.lookup cc = some ⟨cl, cld, .cell (some (.ref C)), csl⟩
  code : ∃ ccl cdd vs ccs file tf, K.lookup cda = some ⟨ccl, cdd, .fields vs, ccs⟩ ∧ vs[2]? = some (.str file tf) ∧ ((prog.main.file : Str) == file) = true
  sup : PySem.W.ks_superIn K C C "__init__" = some (some (.builtin "ValueError.__init__"))
  sub : PySem.W.mroIn K C (.ref C) = some true
  subV : PySem.W.subIn K (.ref C) (.type "ValueError") = some true
  nos : PySem.W.nsIn K cStatics "thirdparty.any" = some none
  top : (prog.main.scope.names.lookup ("super" : Str)).isSome = false

theorem clsIn_obj {K : PySem.W.Frag} {D : Addr} {cd : ClassData} {hh : Heap} (X : K.In hh) (hD : PySem.W.clsIn K D = some cd) : ∃ oD, hh.get? D = some oD ∧ oD.data = .cls cd := by
  unfold PySem.W.clsIn at hD
  split at hD
  · rename_i c d cd' sl ho
    cases hD
    exact ⟨_, X _ _ ho, rfl⟩
  · cases hD

/-- the bound ValueError.__init__ called -/
theorem bw_call {X : Cx} {pins : List (Addr × Obj)} {σ : L2.St} {H : Hp} {s : Shared} {a C u : Addr} {us : List Value} {Q : Value → Shared → Prop} {E : Value → Shared → Prop} (T : OexC X.K C) (I : Inv X pins σ H s) (e : H a = some (exo a C none))
    (hu : s.heap.get? u = some (PySem.W.kxs_mw "ValueError.__init__" a)) (hl : us.length ≤ sizeLine) (h : ∀ s', Inv X pins σ H s' → Q .none s') : wpAny (model X.prog X.w) X.A (call (.ref u) us) Q E s := by
  obtain ⟨nm, q, N, bs, bm, sn, sub, ab, col, dd, k0, k1, k2, k3, k5, hC, hbm⟩ := T.cls
  obtain ⟨t1, ho⟩ := exo_at I.hok e
  have hC' := I.kIn _ _ hC
  obtain ⟨hp, g, d, t, os⟩ := s
  refine wpAny_call (codeAny_of_tree ?_)
  show wpAny _ X.A.in1 (callAny (.ref u) ⟨us, []⟩) _ _ _
  simp only [callAny]
  refine wpAny_bind (wpAny_load hu ?_)
  simp only [PySem.W.kxs_mw, show (Value.type "method-wrapper" == Value.type "method" || Value.type "method-wrapper" == Value.type "builtin_function_or_method" || Value.type "method-wrapper" == Value.type "method-wrapper") = true by decide, if_true]
  refine PySem.W.KFB.if_so (by decide) ?_
  refine wpAny_bind (PySem.W.check_bound_init F.excBase_ValueError.toExcCallFacts hC' ho rfl ?_)
  refine wpAny_bind (wpAny_pure (wpAny_pure ?_))
  refine ⟨plainId_quiet F.excBase_ValueError.init.plain _, codeAny_builtin F.excBase_ValueError.initEntry ?_⟩
  refine PySem.W.exc_init_tree (cls := .ref C) (t0 := t1) (dv := none) (c2 := .none) (c3 := .none) (b4 := .bool false) ho hl fun h' k hx _ => ?_
  have J := I.write (t' := t) (x := a) (e := a) (o := exo a C none) (by rw [e]; exact True.intro) (.inl rfl) k ⟨_, hx⟩ (exo_ok hx)
  have eu : upd H a (exo a C none) = H := by
    funext b
    by_cases hb : b = a
    · rw [hb, upd_same, e]
    · rw [upd_ne hb]
  rw [eu] at J
  exact h _ J

abbrev nf (name qual : Str) (params : Arguments) (scope : Scope) (cc cda : Addr) : NF := ⟨name, qual, params, [], scope, [("__class__", cc)], cda⟩
section
variable {CX : CXT} {P : Program} {w : World} {K : PySem.W.Frag} {mg : Str → Option Value} {base : Heap} {k : Nat} {f cc cda C : Addr} {name qual : Str} {params : Arguments} {body rest : List Stmt} {scope : Scope} {dV kV doc pm ct oc : Value} {an od : Option Addr}
    {osl : Array (Option Value)} {N ps : List Str} {sp : Sp} {p0 p1 p2 p3 p4 : Pos} {e : Expr} {es : List Expr} {ar : Arg} {pl : Env → Sem Bool}
/-- a def of an exception's class whose first statement is super().__init__(e, ..) -/
theorem fnok_super (lk : K.lookup f = some ⟨oc, od, .func (PySem.W.ksFn name qual params body scope dV kV doc pm an (.ref cda) ct cc), osl⟩) (hcd : PySem.W.codeIn K (.ref cda) qual = true) (S : NScope N ps ["__class__"] scope)
    (T : SupC K P C cc cda) (TO : OexC K C)
    (hb0 : body = .Expr (.Call (.Attribute (.Call (.Name "super" p0) [] [] p1) "__init__" p2) (e :: es) [] p3) p4 :: rest)
    (har : (params.posonlyargs ++ params.args).head? = some ar) (hN0 : N[0]? = some ar.arg) (hka : scope.names.lookup ar.arg = some .local) (hsup : scope.names.lookup ("super" : Str) = some .globalImplicit) (hms : mg "super" = none)
    (len : ∀ vs H Q E, sp vs H Q E → vs.length = ps.length)
    (hbody : ∀ (A : Around) (outer : List Env) (s : Shared) (H : Hp) (vs : List V) (Q : VK) (E : XK), sp vs H Q E →
      ∃ a ta tr, (startF N vs [none])[0]? = some (some (V.ref a)) ∧ H a = some (exo a C none) ∧
        PA (ncx CX P w K mg base N (nf name qual params scope cc cda) f A outer s H E) (e :: es) ta ∧
        PSs (ncx CX P w K mg base N (nf name qual params scope cc cda) f A outer s H E) rest tr ∧
        ta (startF N vs [none]) H fun ws H1 => ws.length ≤ 1000 ∧ H1 a = some (exo a C none) ∧ tr { nx := fun _ H' => Q .non H', rt := Q } (startF N vs [none]) H1)
    (hev : ∀ env, eval (.Call (.Attribute (.Call (.Name "super" p0) [] [] p1) "__init__" p2) (e :: es) [] p3) env = (do
      let ov ← attributeBase (.Call (.Name "super" p0) [] [] p1) "__init__" env (eval (.Call (.Name "super" p0) [] [] p1) env)
      standAt p2.atName
      let (f, first) ← holding [ov] (getMethod ov "__init__" (pl env))
      callWith p3 f first (backTo p3 (starEach (e :: es) env)) []) := by intro _; rfl)
    (hsw : ∀ env, swapsWith (.Call (.Attribute (.Call (.Name "super" p0) [] [] p1) "__init__" p2) (e :: es) [] p3) none p4.line env = pure false := by intro _; rfl)
    (he : ∀ env, starEach (e :: es) env = (false, eval e env) :: starEach es env := by intro _; rfl) (hpl : ∀ env, (backTo p3 (starEach es env)).any (·.1) = false := by intro _; rfl) :
    FnOk P w K mg base CX (k + 1) f (PySem.W.ksFn name qual params body scope dV kV doc pm an (.ref cda) ct cc) ps sp := by
  subst hb0
  refine ⟨len, fun A outer s H args us vs Q E hr e0 hb r hsp => ?_⟩
  have hl := len _ _ _ _ hsp
  have KX : K.In s.heap := e0.mod.kin.keeps fun b o e => (e0.bs b o e).1
  have lim : s.heap.NoLimit := e0.mod.nolimit.keeps fun b o e => (e0.bs b o e).1
  obtain ⟨cl, cld, csl, hcc⟩ := T.cell
  have CA : CellsAt [(("__class__" : Str), cc)] ["__class__"] [none] s.heap H := by
    refine ⟨rfl, fun y c hy => ?_, fun x y c hx hy => ?_, fun i y hi => ?_⟩
    · have : y = "__class__" ∧ c = cc := by
        simp only [List.lookup] at hy
        split at hy
        · rename_i h; exact ⟨by simpa using h, by injection hy with hy; exact hy.symm⟩
        · cases hy
      obtain ⟨_, rfl⟩ := this
      have q := KX _ _ hcc
      have hb1 : base.get? c = some _ := e0.mod.kin _ _ hcc
      exact ⟨(e0.bs _ _ hb1).2, some (.ref C), _, q, rfl⟩
    · have key : ∀ {z : Str}, List.lookup z [(("__class__" : Str), cc)] = some c → z = "__class__" := fun {z} hz => by
        simp only [List.lookup] at hz
        split at hz
        · rename_i h; simpa using h
        · cases hz
      rw [key hx, key hy]
    · have hi' : y = "__class__" := by
        cases i with
        | zero => simpa using hi.symm
        | succ i => simp at hi
      subst hi'
      exact ⟨cc, rfl, fun v z => by
        cases i with
        | zero => simp at z
        | succ i => simp at hi⟩
  obtain ⟨a, ta, tr, hσ, ha, hta, htr, hq⟩ := hbody A outer s H vs Q E hsp
  refine codeAny_call_function hr.depth (KX _ _ lk) rfl S.co S.gen rfl (PySem.W.codeRec_of KX hcd) (hb _ _ _ _ ?_)
  refine wpAny_newFunctionEnv S.nocell (fun ⟨n, _⟩ hy => S.par n (List.of_mem_zip hy).1) (fun h₁ hns hsb => ⟨lim.fresh _ hsb, ?_⟩) S.kind
  have kp : ∀ b o, s.heap.get? b = some o → h₁.get? b = some o := fun b o e => hsb.extBut b o (Nat.ne_of_lt (Heap.lt_size e)) (Heap.get?_push_of_some _ e)
  have I : Inv (ncx CX P w K mg base N (nf name qual params scope cc cda) f A outer s H E) [] (startF N vs [none]) H { s with heap := h₁, toks := s.toks + (ps.zip us).length } := inv_startN S hr.hd e0 hl r CA hns kp
  refine PySem.ks_codeAny_funcAt ?_
  refine PySem.ks_wpAt_execs_cons ?_
  refine PySem.ks_wpAt_Expr_any ?_ I.quiet (hsw _)
  refine PySem.ks_wpAt_MethodCall ?_ (hev _)
  obtain ⟨ccl, cdd, vsc, ccs, file, tf, hcode, hvs, hfile⟩ := T.code
  obtain ⟨nm, q, NN, bs, bm, sn, sub, ab, col, dd, k0, k1, k2, k3, k5, hC, hbm⟩ := TO.cls
  have hcl : PySem.W.clsIn K C = some { name := nm, bases := bs, mro := .ref C :: bm, ns := NN, qualname := q, hasDict := true, slotNames := sn, subclasses := sub, abstract := ab, collection := col, hasDel := false } := by unfold PySem.W.clsIn; rw [hC] <;> rfl
  have X := I.kIn
  obtain ⟨oD, hD1, hD2⟩ := clsIn_obj X hcl
  refine PySem.ks_wpAt_super_base (env := envF (nf name qual params scope cc cda) f s.heap.objs.size) hsup (S.frk "__class__" (by simp)) (by decide) rfl (X _ _ lk) rfl har rfl (X _ _ hcode) rfl hvs hfile T.top ?_
  obtain ⟨mb, hb1, hb2⟩ := I.mod.blt
  refine PySem.W.ks_loadName_global S.kind hsup (PySem.Calls.loadGlobal_builtin (env := envF (nf name qual params scope cc cda) f s.heap.objs.size) (I.mod.glob.keeps I.bk) hms (hb1.keeps I.bk) ((hb2 _ (by decide)).trans (by decide +kernel)) ⟨rfl, ?_⟩)
  refine wpAny_loadName_free S.kind (S.frk "__class__" (by simp)) rfl ⟨_, X _ _ hcc, rfl⟩ ?_
  obtain ⟨m, hn, hlk⟩ := I.loc
  obtain ⟨u0, ru0, lk0⟩ := hlk 0 ar.arg (.ref a) hN0 hσ (.inl hka)
  obtain rfl : u0 = Value.ref a := ru0
  have hm0 : m ar.arg = some (.ref a) := by
    rcases lk0 with ⟨_, h⟩ | ⟨h, _⟩
    · exact h
    · have hka' : (ncx CX P w K mg base N (nf name qual params scope cc cda) f A outer s H E).env.kindOf ar.arg = some .local := hka
      rw [hka'] at h
      rcases h with h | h <;> cases h
  refine wpAny_loadName_local S.kind hka hn hm0 ?_
  refine PySem.ks_wpAny_isType_cls hD1 hD2 ⟨rfl, ?_⟩
  obtain ⟨t1, ho⟩ := exo_at I.hok ha
  refine PySem.ks_wpAny_call_super hD1 hD2 ho rfl (fun c e => by cases e) (PySem.W.looks_mroIn X T.sub) (fun h2 e2 k2 => ?_)
  have I2 := I.kept (t' := s.toks + (ps.zip us).length) (h' := h2) k2
  have hsup2 := T.sup
  unfold PySem.W.ks_superIn at hsup2
  rw [hcl] at hsup2
  have hI : PySem.W.Looks (model P w) h2 (isInstance (.ref a) (.type "ValueError")) true :=
    (PySem.W.InstAt.type (x := a) (C := C) (od := none) ⟨k2 _ _ ho, rfl, rfl, trivial⟩).andThen (PySem.W.looks_subIn I2.kIn T.subV)
  have hne : a ≠ C := fun z => by
    subst z
    rw [hD1] at ho; cases ho
    cases hD2
  refine PySem.W.kxs_getMethod PySem.W.kxs_ValueError e2 (PySem.W.looks_opaque I2.kIn T.nos) (l₀ := .ref C :: bm) ?_ rfl I2.kIn hsup2 hI hne (by decide) ?_
  · exact fun A Q E s k q => wpAny_bind ((PySem.W.looks_clsIn I2.kIn hcl) A _ E s k (wpAny_pure q))
  have hmw : (h2.push (PySem.W.kxs_mw "ValueError.__init__" a)).get? h2.objs.size = some (PySem.W.kxs_mw "ValueError.__init__" a) := Heap.get?_push_size _ rfl
  have I3 := I2.kept (t' := s.toks + (ps.zip us).length + 1) (h' := h2.push (PySem.W.kxs_mw "ValueError.__init__" a)) fun b o e => Heap.get?_push_of_some _ e
  have hfree : H h2.objs.size = none := I2.hok.fresh (Nat.le_refl _)
  have I4 := I3.pins_of (pins' := [(h2.objs.size, PySem.W.kxs_mw "ValueError.__init__" a)]) (fun p hp => by
    have e : p = (h2.objs.size, PySem.W.kxs_mw "ValueError.__init__" a) := by simpa using hp
    subst e
    exact ⟨hmw, hfree, Nat.ne_of_gt I2.lt, I2.nofs (Nat.le_refl _), fun v z => by cases z⟩)
  have fin : ∀ {σ' : L2.St} {H' : Hp} {v : V} {u : Value} {s' : Shared}, Inv (ncx CX P w K mg base N (nf name qual params scope cc cda) f A outer s H E) [] σ' H' s' → L2.RelV v u → Q v H' → CE outer P w H s Q u s' :=
    fun {σ' H' v u s'} J rv q => ⟨v, H', J.os, J.bare, J.base, J.hok, rv, q⟩
  rw [he]
  refine PySem.W.kxs_callWith (i := "ValueError.__init__") (x := a) (by show (false || (backTo p3 (starEach es _)).any (·.1)) = false; rw [hpl]; rfl) ?_
  refine PySem.Calls.evalArgs_plain ?_
  have hrun := hta.run p3 _ _ _ _ _ I4 hq
  rw [he] at hrun
  refine thn hrun fun us1 s3 ⟨ws, H1, J, rv, hlen, ha1, hqr⟩ => ?_
  have hmw3 := (J.pin _ (List.mem_append_right _ (List.mem_singleton.mpr rfl))).1
  refine ⟨hmw3, ?_⟩
  have J0 := J.pins_of (pins' := []) (fun p hp => by cases hp)
  refine bw_call TO J0 ha1 hmw3 (by rw [List.nil_append, ← rv.length, sizeLine_eq]; omega) fun s4 J4 => ?_
  refine PySem.wpAt_of_wpAny ?_
  refine wpAny_mono (htr.run [] _ _ _ _ J4 hqr) (fun fl s' hs => ?_) fun e s' hs => hs
  cases fl with
  | ret u =>
    obtain ⟨v, σ', H', J, rv, q⟩ := hs
    exact fin J rv q
  | next =>
    obtain ⟨σ', H', J, q⟩ := hs
    exact fin (v := V.non) (u := Value.none) J rfl q
  | brk =>
    obtain ⟨_, _, _, q⟩ := hs
    exact False.elim q
  | cont =>
    obtain ⟨_, _, _, q⟩ := hs
    exact False.elim q
end
end J

set_option Elab.async false
set_option linter.all false
set_option maxRecDepth 100000
set_option maxHeartbeats 4000000
namespace J
open PySem PySem.Spec PyProof.Rows L2

/-! ### values as trees -/
inductive D where
  | non | bl (b : Bool) | int (i : Int) | str (s : Str) | tup (xs : List D) | lst (xs : List D) | dct (ks vs : List D) | obj (c : Nat) (ns : List Nat) (vs : List D) | fn (n : Nat) | scr (xs : List D)

/-- what a proof says of the text: the written part, the classes' places, the exceptions' classes, the fields' names, the defs' places -/
structure Tab where
  K : PySem.W.Frag
  cls : Nat → Addr
  exc : Nat → Addr
  fnm : Nat → Str
  fna : Nat → Addr
  /-- in an except suite: the caught exception, its class, its dict -/
  ea : Option (Addr × Value × Option Addr) := none

def SOk (s : Str) : Prop := s.length ≤ sizeLine ∧ PyData.strOk s = true

def keyD : D → Option Key
  | .int i => some (.inl i)
  | .str s => some (.inr s)
  | _ => none

mutual
def Rep (T : Tab) (G : Hp) : V → D → Prop
  | v, .non => v = .non
  | v, .bl b => v = .bl b
  | v, .int i => v = .int i
  | v, .str s => v = .str s ∧ SOk s
  | v, .tup ds => ∃ a xs, v = .ref a ∧ SqT T.K G a xs ∧ Reps T G xs ds
  | v, .lst ds => ∃ (a : Addr) (xs : List V), v = .ref a ∧ G a = some (.lst xs) ∧ Reps T G xs ds
  | v, .scr ds => ∃ a xs, v = .ref a ∧ SqL T.K G a xs ∧ Reps T G xs ds
  | v, .dct ks vs => ∃ (a : Addr) (kk : List (Key × V)), v = .ref a ∧ G a = some (.dK kk) ∧ kk.map (fun p => some p.1) = ks.map keyD ∧ (kk.map (·.1)).Nodup ∧ Reps T G (kk.map (·.2)) vs
  | v, .obj c ns vs => ∃ (a dx : Addr) (fs : List (Str × V)), v = .ref a ∧ G a = some (.ins (T.cls c) dx fs) ∧ fs.map (·.1) = ns.map T.fnm ∧ Reps T G (fs.map (·.2)) vs
  | v, .fn n => v = .ref (T.fna n)
def Reps (T : Tab) (G : Hp) : List V → List D → Prop
  | xs, [] => xs = []
  | xs, d :: ds => ∃ x r, xs = x :: r ∧ Rep T G x d ∧ Reps T G r ds
end

theorem Same.seqT {K : PySem.W.Frag} {H H' : Hp} {a : Addr} {xs : List V} (e : L2.Same H H') (h : SqT K H a xs) : SqT K H' a xs := by
  rcases h with (h | ⟨o, h⟩) | h
  · exact .inl (.inl (e _ _ h))
  · exact .inl (.inr ⟨o, e _ _ h⟩)
  · exact .inr h

mutual
theorem Rep.mono {T : Tab} {G G' : Hp} (h : L2.Same G G') : ∀ {d : D} {v : V}, Rep T G v d → Rep T G' v d
  | .non, _, r => r
  | .bl _, _, r => r
  | .int _, _, r => r
  | .str _, _, r => r
  | .tup _, _, ⟨a, xs, e, q, r⟩ => ⟨a, xs, e, Same.seqT h q, Reps.mono h r⟩
  | .lst _, _, ⟨a, xs, e, q, r⟩ => ⟨a, xs, e, h _ _ q, Reps.mono h r⟩
  | .scr _, _, ⟨a, xs, e, q, r⟩ => ⟨a, xs, e, h.seq q, Reps.mono h r⟩
  | .dct _ _, _, ⟨a, kk, e, q, k, n, r⟩ => ⟨a, kk, e, h _ _ q, k, n, Reps.mono h r⟩
  | .obj _ _ _, _, ⟨a, dx, fs, e, q, k, r⟩ => ⟨a, dx, fs, e, h _ _ q, k, Reps.mono h r⟩
  | .fn _, _, r => r
theorem Reps.mono {T : Tab} {G G' : Hp} (h : L2.Same G G') : ∀ {ds : List D} {xs : List V}, Reps T G xs ds → Reps T G' xs ds
  | [], _, r => r
  | _ :: _, _, ⟨x, r, e, a, b⟩ => ⟨x, r, e, Rep.mono h a, Reps.mono h b⟩
end
theorem Reps.length {T : Tab} {G : Hp} : ∀ {ds : List D} {xs : List V}, Reps T G xs ds → xs.length = ds.length
  | [], _, r => by cases r; rfl
  | _ :: _, _, ⟨x, r, e, a, b⟩ => by subst e; simp [Reps.length b]
theorem Reps.get {T : Tab} {G : Hp} : ∀ {ds : List D} {xs : List V} {i : Nat} {x : V}, Reps T G xs ds → xs[i]? = some x → ∃ d, ds[i]? = some d ∧ Rep T G x d
  | [], _, _, _, r, h => by cases r; simp at h
  | d :: ds, _, 0, _, ⟨x, r, e, a, b⟩, h => by subst e; simp at h; subst h; exact ⟨d, rfl, a⟩
  | d :: ds, _, i + 1, _, ⟨x, r, e, a, b⟩, h => by
    subst e
    obtain ⟨d', e', a'⟩ := Reps.get (i := i) b (by simpa using h)
    exact ⟨d', by simpa using e', a'⟩
theorem Reps.getD {T : Tab} {G : Hp} : ∀ {ds : List D} {xs : List V} {i : Nat} {d : D}, Reps T G xs ds → ds[i]? = some d → ∃ x, xs[i]? = some x ∧ Rep T G x d
  | [], _, _, _, r, h => by simp at h
  | d :: ds, _, 0, _, ⟨x, r, e, a, b⟩, h => by subst e; simp at h; subst h; exact ⟨x, rfl, a⟩
  | d :: ds, _, i + 1, _, ⟨x, r, e, a, b⟩, h => by
    subst e
    obtain ⟨d', e', a'⟩ := Reps.getD (i := i) b (by simpa using h)
    exact ⟨d', by simpa using e', a'⟩
theorem Reps.app {T : Tab} {G : Hp} : ∀ {ds es : List D} {xs ys : List V}, Reps T G xs ds → Reps T G ys es → Reps T G (xs ++ ys) (ds ++ es)
  | [], _, _, _, r, q => by cases r; exact q
  | d :: ds, _, _, _, ⟨x, r, e, a, b⟩, q => by subst e; exact ⟨x, r ++ _, rfl, a, Reps.app b q⟩
theorem Reps.one {T : Tab} {G : Hp} {x : V} {d : D} (r : Rep T G x d) : Reps T G [x] [d] := ⟨x, [], rfl, r, rfl⟩
theorem Reps.take {T : Tab} {G : Hp} : ∀ {ds : List D} {xs : List V} (n : Nat), Reps T G xs ds → Reps T G (xs.take n) (ds.take n)
  | _, _, 0, _ => by simp [Reps]
  | [], _, _ + 1, r => by cases r; simp [Reps]
  | d :: ds, _, n + 1, ⟨x, r, e, a, b⟩ => by subst e; exact ⟨x, r.take n, rfl, a, Reps.take n b⟩
theorem Reps.drop {T : Tab} {G : Hp} : ∀ {ds : List D} {xs : List V} (n : Nat), Reps T G xs ds → Reps T G (xs.drop n) (ds.drop n)
  | _, _, 0, r => r
  | [], _, _ + 1, r => by cases r; simp [Reps]
  | d :: ds, _, n + 1, ⟨x, r, e, a, b⟩ => by subst e; exact Reps.drop n b
theorem Reps.set {T : Tab} {G : Hp} {y : V} {d' : D} (q : Rep T G y d') : ∀ {ds : List D} {xs : List V} (n : Nat), Reps T G xs ds → Reps T G (xs.set n y) (ds.set n d')
  | [], _, _, r => by cases r; simp [Reps]
  | d :: ds, _, 0, ⟨x, r, e, a, b⟩ => by subst e; exact ⟨y, r, rfl, q, b⟩
  | d :: ds, _, n + 1, ⟨x, r, e, a, b⟩ => by subst e; exact ⟨x, r.set n y, rfl, a, Reps.set q n b⟩
theorem Reps.of_get {T : Tab} {G : Hp} : ∀ {ds : List D} {xs : List V}, xs.length = ds.length → (∀ (i : Nat) (x : V) (d : D), xs[i]? = some x → ds[i]? = some d → Rep T G x d) → Reps T G xs ds
  | [], xs, hl, _ => by cases xs with | nil => rfl | cons => simp at hl
  | d :: ds, [], hl, _ => by simp at hl
  | d :: ds, x :: xs, hl, h => ⟨x, xs, rfl, h 0 x d rfl rfl, Reps.of_get (by simpa using hl) fun i y e h1 h2 => h (i + 1) y e (by simpa using h1) (by simpa using h2)⟩

/-- what an owned object holds -/
def RepO (T : Tab) (G : Hp) : HO → D → Prop
  | o, .lst ds => ∃ xs, o = .lst xs ∧ Reps T G xs ds
  | o, .dct ks vs => ∃ kk : List (Key × V), o = .dK kk ∧ kk.map (fun p => some p.1) = ks.map keyD ∧ (kk.map (·.1)).Nodup ∧ Reps T G (kk.map (·.2)) vs
  | o, .obj c ns vs => ∃ (dx : Addr) (fs : List (Str × V)), o = .ins (T.cls c) dx fs ∧ fs.map (·.1) = ns.map T.fnm ∧ Reps T G (fs.map (·.2)) vs
  | _, _ => False
theorem RepO.mono {T : Tab} {G G' : Hp} (h : L2.Same G G') {o : HO} {d : D} (r : RepO T G o d) : RepO T G' o d := by
  cases d with
  | lst ds => obtain ⟨xs, e, r⟩ := r; exact ⟨xs, e, r.mono h⟩
  | dct ks vs => obtain ⟨kk, e, k, n, r⟩ := r; exact ⟨kk, e, k, n, r.mono h⟩
  | obj c ns vs => obtain ⟨dx, fs, e, k, r⟩ := r; exact ⟨dx, fs, e, k, r.mono h⟩
  | _ => exact r.elim
/-- an owned object, frozen -/
theorem RepO.rep {T : Tab} {G : Hp} {o : HO} {d : D} {a : Addr} (r : RepO T G o d) (hG : G a = some o) : Rep T G (.ref a) d := by
  cases d with
  | lst ds => obtain ⟨xs, rfl, r⟩ := r; exact ⟨a, xs, rfl, hG, r⟩
  | dct ks vs => obtain ⟨kk, rfl, k, n, r⟩ := r; exact ⟨a, kk, rfl, hG, k, n, r⟩
  | obj c ns vs => obtain ⟨dx, fs, rfl, k, r⟩ := r; exact ⟨a, dx, fs, rfl, hG, k, r⟩
  | _ => exact r.elim

/-- how an exception lies -/
def XRep (T : Tab) (G : Hp) (c : Nat) (ns : List Nat) (vs : List D) (cls : Value) (dx : Option Addr) : Prop :=
  cls = .ref (T.exc c) ∧ match dx with
    | none => ns = [] ∧ vs = []
    | some d => ∃ fs : List (Str × V), G d = some (.xd fs) ∧ fs.map (·.1) = ns.map T.fnm ∧ Reps T G (fs.map (·.2)) vs
theorem XRep.mono {T : Tab} {G G' : Hp} {c : Nat} {ns : List Nat} {vs : List D} {cls : Value} {dx : Option Addr} (h : L2.Same G G') (x : XRep T G c ns vs cls dx) : XRep T G' c ns vs cls dx := by
  obtain ⟨e, x⟩ := x
  refine ⟨e, ?_⟩
  cases dx with
  | none => exact x
  | some d =>
    obtain ⟨fs, h1, h2, h3⟩ := x
    exact ⟨fs, h _ _ h1, h2, h3.mono h⟩

/-- slot i holds the caught exception -/
def ExAt (T : Tab) (G : Hp) (σ : L2.St) (i c : Nat) (ns : List Nat) (vs : List D) : Prop := ∃ a cls dx, σ[i]? = some (some (.ref a)) ∧ T.ea = some (a, cls, dx) ∧ XRep T G c ns vs cls dx
theorem ExAt.mono {T : Tab} {G G' : Hp} {σ : L2.St} {i c : Nat} {ns : List Nat} {vs : List D} (x : ExAt T G σ i c ns vs) (h : L2.Same G G') : ExAt T G' σ i c ns vs := by
  obtain ⟨a, cls, dx, e1, e2, x⟩ := x
  exact ⟨a, cls, dx, e1, e2, x.mono h⟩
theorem ExAt.at {T : Tab} {G : Hp} {σ σ' : L2.St} {i c : Nat} {ns : List Nat} {vs : List D} (x : ExAt T G σ i c ns vs) (h : σ'[i]? = σ[i]?) : ExAt T G σ' i c ns vs := by
  obtain ⟨a, cls, dx, e1, e2, x⟩ := x
  exact ⟨a, cls, dx, h.trans e1, e2, x⟩

/-! ### slots -/
inductive Sl where
  | no | sh (d : D) | ow (d : D) | ex (c : Nat) (ns : List Nat) (vs : List D)
abbrev En := List Sl
/-- U: what others own; G: what is never changed any more -/
structure Rel (T : Tab) (U G H : Hp) (σ : L2.St) (ρ : En) : Prop where
  same : L2.Same G H
  len : σ.length = ρ.length
  sh : ∀ (i : Nat) (d : D), ρ[i]? = some (.sh d) → ∃ v, σ[i]? = some (some v) ∧ Rep T G v d
  ow : ∀ (i : Nat) (d : D), ρ[i]? = some (.ow d) → ∃ a o, σ[i]? = some (some (.ref a)) ∧ G a = none ∧ U a = none ∧ H a = some o ∧ RepO T G o d
  dist : ∀ (i j : Nat) (di dj : D) (a : Addr), ρ[i]? = some (.ow di) → ρ[j]? = some (.ow dj) → σ[i]? = some (some (.ref a)) → σ[j]? = some (some (.ref a)) → i = j
  out : ∀ a o, U a = some o → H a = some o ∧ G a = none
  exn : ∀ (i c : Nat) (ns : List Nat) (vs : List D), ρ[i]? = some (.ex c ns vs) → ExAt T G σ i c ns vs

theorem same_upd {G : Hp} {p : Addr} {o : HO} (h : G p = none) : L2.Same G (upd G p o) := fun b q e => by
  rw [upd_ne (ne_of_none e h)]; exact e
theorem same_upd2 {G H : Hp} {p : Addr} {o : HO} (h : L2.Same G H) : L2.Same (upd G p o) (upd H p o) := fun b q e => by
  by_cases hb : b = p
  · subst hb; rw [upd_same] at e ⊢; exact e
  · rw [upd_ne hb] at e ⊢; exact h _ _ e
theorem same_own {G H : Hp} {p : Addr} {o : HO} (h : L2.Same G H) (n : G p = none) : L2.Same G (upd H p o) := fun b q e => by
  rw [upd_ne (ne_of_none e n)]; exact h _ _ e
section
variable {T : Tab} {U G H : Hp} {σ : L2.St} {ρ : En} {p : Addr} {o : HO}
theorem Rel.gfree (R : Rel T U G H σ ρ) (h : H p = none) : G p = none := L2.Same.free R.same h
theorem Rel.ufree (R : Rel T U G H σ ρ) (h : H p = none) : U p = none := by
  cases e : U p with
  | none => rfl
  | some o => rw [(R.out p o e).1] at h; cases h
/-- a new object that is never changed -/
theorem Rel.alloc (R : Rel T U G H σ ρ) (h : H p = none) : Rel T U (upd G p o) (upd H p o) σ ρ := by
  have s := same_upd (o := o) (R.gfree h)
  refine ⟨same_upd2 R.same, R.len, fun i d e => ?_, fun i d e => ?_, R.dist, fun a q e => ?_, fun i c ns vs e => (R.exn i c ns vs e).mono s⟩
  · obtain ⟨v, e1, r⟩ := R.sh i d e
    exact ⟨v, e1, r.mono s⟩
  · obtain ⟨a, q, e1, g, u, hh, r⟩ := R.ow i d e
    have ne := ne_of_none hh h
    exact ⟨a, q, e1, by rw [upd_ne ne]; exact g, u, by rw [upd_ne ne]; exact hh, r.mono s⟩
  · obtain ⟨h1, h2⟩ := R.out a q e
    have ne := ne_of_none h1 h
    exact ⟨by rw [upd_ne ne]; exact h1, by rw [upd_ne ne]; exact h2⟩
/-- a new object that is owned by nobody's slot yet: it is held by U -/
theorem Rel.hold (R : Rel T U G H σ ρ) (h : H p = none) : Rel T (upd U p o) G (upd H p o) σ ρ := by
  refine ⟨same_own R.same (R.gfree h), R.len, R.sh, fun i d e => ?_, R.dist, fun a q e => ?_, R.exn⟩
  · obtain ⟨a, q, e1, g, u, hh, r⟩ := R.ow i d e
    have ne := ne_of_none hh h
    exact ⟨a, q, e1, g, by rw [upd_ne ne]; exact u, by rw [upd_ne ne]; exact hh, r⟩
  · by_cases ha : a = p
    · subst ha; rw [upd_same] at e ⊢; exact ⟨e, R.gfree h⟩
    · rw [upd_ne ha] at e
      obtain ⟨h1, h2⟩ := R.out a q e
      exact ⟨by rw [upd_ne ha]; exact h1, h2⟩
/-- a held object is changed -/
theorem Rel.held {o' : HO} (R : Rel T U G H σ ρ) (h : U p = some o) : Rel T (upd U p o') G (upd H p o') σ ρ := by
  obtain ⟨h1, h2⟩ := R.out p o h
  refine ⟨same_own R.same h2, R.len, R.sh, fun i d e => ?_, R.dist, fun a q e => ?_, R.exn⟩
  · obtain ⟨a, q, e1, g, u, hh, r⟩ := R.ow i d e
    have ne : a ≠ p := fun z => by subst z; rw [h] at u; cases u
    exact ⟨a, q, e1, g, by rw [upd_ne ne]; exact u, by rw [upd_ne ne]; exact hh, r⟩
  · by_cases ha : a = p
    · subst ha; rw [upd_same] at e ⊢; exact ⟨e, h2⟩
    · rw [upd_ne ha] at e
      obtain ⟨h3, h4⟩ := R.out a q e
      exact ⟨by rw [upd_ne ha]; exact h3, h4⟩
def unheld (U : Hp) (p : Addr) : Hp := fun b => if b = p then none else U b
theorem unheld_same {p : Addr} : unheld U p p = none := if_pos rfl
theorem unheld_ne {p b : Addr} (h : b ≠ p) : unheld U p b = U b := if_neg h
/-- .. is let go -/
theorem Rel.unhold (R : Rel T U G H σ ρ) : Rel T (unheld U p) G H σ ρ := by
  refine ⟨R.same, R.len, R.sh, fun i d e => ?_, R.dist, fun a q e => ?_, R.exn⟩
  · obtain ⟨a, q, e1, g, u, hh, r⟩ := R.ow i d e
    refine ⟨a, q, e1, g, ?_, hh, r⟩
    by_cases ha : a = p
    · subst ha; exact unheld_same
    · rw [unheld_ne ha]; exact u
  · by_cases ha : a = p
    · subst ha; rw [unheld_same] at e; cases e
    · rw [unheld_ne ha] at e; exact R.out a q e
/-- .. is frozen -/
theorem Rel.freeze (R : Rel T U G H σ ρ) (hU : U p = none) (hG : G p = none) (hH : H p = some o) (hn : ∀ (i : Nat) (d : D), ρ[i]? = some (.ow d) → σ[i]? ≠ some (some (.ref p))) : Rel T U (upd G p o) H σ ρ := by
  have s := same_upd (o := o) hG
  refine ⟨fun b q e => ?_, R.len, fun i d e => ?_, fun i d e => ?_, R.dist, fun a q e => ?_, fun i c ns vs e => (R.exn i c ns vs e).mono s⟩
  · by_cases hb : b = p
    · subst hb; rw [upd_same] at e; cases e; exact hH
    · rw [upd_ne hb] at e; exact R.same _ _ e
  · obtain ⟨v, e1, r⟩ := R.sh i d e
    exact ⟨v, e1, r.mono s⟩
  · obtain ⟨a, q, e1, g, u, hh, r⟩ := R.ow i d e
    have ne : a ≠ p := fun z => by subst z; exact hn i d e e1
    exact ⟨a, q, e1, by rw [upd_ne ne]; exact g, u, hh, r.mono s⟩
  · obtain ⟨h1, h2⟩ := R.out a q e
    have ne : a ≠ p := fun z => by subst z; rw [hU] at e; cases e
    exact ⟨h1, by rw [upd_ne ne]; exact h2⟩
theorem Rel.lt (R : Rel T U G H σ ρ) {i : Nat} {v : Option V} (h : σ[i]? = some v) : i < ρ.length := by
  rw [← R.len]; exact (List.getElem?_eq_some_iff.mp h).1
theorem get_set {α : Type} {l : List α} {i j : Nat} {x y : α} (h : (l.set i x)[j]? = some y) : (j = i ∧ x = y) ∨ (j ≠ i ∧ l[j]? = some y) := by
  by_cases hj : j = i
  · subst hj
    by_cases hl : j < l.length
    · rw [List.getElem?_set_self hl] at h; exact .inl ⟨rfl, Option.some.inj h⟩
    · rw [List.getElem?_eq_none (by simpa using hl)] at h; cases h
  · rw [List.getElem?_set_ne (Ne.symm hj)] at h; exact .inr ⟨hj, h⟩
theorem set_get_ne {α : Type} {l : List α} {i j : Nat} {x : α} (h : j ≠ i) : (l.set i x)[j]? = l[j]? := List.getElem?_set_ne (Ne.symm h)
theorem set_get_same {α : Type} {l : List α} {i : Nat} {x : α} (h : i < l.length) : (l.set i x)[i]? = some x := List.getElem?_set_self h
/-- a slot takes a value that is never changed -/
theorem Rel.setSh {i : Nat} {v : V} {d : D} (R : Rel T U G H σ ρ) (r : Rep T G v d) : Rel T U G H (σ.set i (some v)) (ρ.set i (.sh d)) := by
  refine ⟨R.same, by simp [R.len], fun j e h => ?_, fun j e h => ?_, fun j k dj dk a h1 h2 h3 h4 => ?_, R.out, fun j c ns vs h => by
    rcases get_set h with ⟨_, e1⟩ | ⟨hj, h⟩
    · cases e1
    · exact (R.exn j c ns vs h).at (set_get_ne hj)⟩
  · rcases get_set h with ⟨rfl, e1⟩ | ⟨hj, h⟩
    · cases e1
      have hl : j < ρ.length := by
        have := (List.getElem?_eq_some_iff.mp h).1
        simpa using this
      exact ⟨v, set_get_same (by rw [R.len]; exact hl), r⟩
    · obtain ⟨u, e1, q⟩ := R.sh j e h
      exact ⟨u, by rw [set_get_ne hj]; exact e1, q⟩
  · rcases get_set h with ⟨_, e1⟩ | ⟨hj, h⟩
    · cases e1
    · obtain ⟨a, q, e1, r⟩ := R.ow j e h
      exact ⟨a, q, by rw [set_get_ne hj]; exact e1, r⟩
  · rcases get_set h1 with ⟨_, e1⟩ | ⟨hj, h1⟩
    · cases e1
    · rcases get_set h2 with ⟨_, e1⟩ | ⟨hk, h2⟩
      · cases e1
      · rw [set_get_ne hj] at h3
        rw [set_get_ne hk] at h4
        exact R.dist j k dj dk a h1 h2 h3 h4
/-- a slot takes an owned object, held by nobody -/
theorem Rel.setOw {i : Nat} {d : D} (R : Rel T U G H σ ρ) (hU : U p = none) (hG : G p = none) (hH : H p = some o) (r : RepO T G o d) (hn : ∀ (i : Nat) (d : D), ρ[i]? = some (.ow d) → σ[i]? ≠ some (some (.ref p))) :
    Rel T U G H (σ.set i (some (.ref p))) (ρ.set i (.ow d)) := by
  refine ⟨R.same, by simp [R.len], fun j e h => ?_, fun j e h => ?_, fun j k dj dk a h1 h2 h3 h4 => ?_, R.out, fun j c ns vs h => by
    rcases get_set h with ⟨_, e1⟩ | ⟨hj, h⟩
    · cases e1
    · exact (R.exn j c ns vs h).at (set_get_ne hj)⟩
  · rcases get_set h with ⟨_, e1⟩ | ⟨hj, h⟩
    · cases e1
    · obtain ⟨u, e1, q⟩ := R.sh j e h
      exact ⟨u, by rw [set_get_ne hj]; exact e1, q⟩
  · rcases get_set h with ⟨rfl, e1⟩ | ⟨hj, h⟩
    · cases e1
      have hl : j < ρ.length := by
        have := (List.getElem?_eq_some_iff.mp h).1
        simpa using this
      exact ⟨p, o, set_get_same (by rw [R.len]; exact hl), hG, hU, hH, r⟩
    · obtain ⟨a, q, e1, r⟩ := R.ow j e h
      exact ⟨a, q, by rw [set_get_ne hj]; exact e1, r⟩
  · rcases get_set h1 with ⟨ej, _⟩ | ⟨hj, h1'⟩
    · rcases get_set h2 with ⟨ek, _⟩ | ⟨hk, h2'⟩
      · rw [ej, ek]
      · rw [set_get_ne hk] at h4
        rcases get_set h3 with ⟨_, e3⟩ | ⟨hj, _⟩
        · cases e3
          exact absurd h4 (hn k dk h2')
        · exact absurd ej hj
    · rcases get_set h2 with ⟨ek, _⟩ | ⟨hk, h2'⟩
      · rw [set_get_ne hj] at h3
        rcases get_set h4 with ⟨_, e4⟩ | ⟨hk, _⟩
        · cases e4
          exact absurd h3 (hn j dj h1')
        · exact absurd ek hk
      · rw [set_get_ne hj] at h3
        rw [set_get_ne hk] at h4
        exact R.dist j k dj dk a h1' h2' h3 h4
/-- a slot is forgotten; its object, if it was owned, is anybody's -/
theorem Rel.setNo {i : Nat} (R : Rel T U G H σ ρ) : Rel T U G H σ (ρ.set i .no) := by
  refine ⟨R.same, by simp [R.len], fun j e h => ?_, fun j e h => ?_, fun j k dj dk a h1 h2 h3 h4 => ?_, R.out, fun j c ns vs h => by
    rcases get_set h with ⟨_, e1⟩ | ⟨hj, h⟩
    · cases e1
    · exact R.exn j c ns vs h⟩
  · rcases get_set h with ⟨_, e1⟩ | ⟨hj, h⟩
    · cases e1
    · exact R.sh j e h
  · rcases get_set h with ⟨_, e1⟩ | ⟨hj, h⟩
    · cases e1
    · exact R.ow j e h
  · rcases get_set h1 with ⟨_, e1⟩ | ⟨hj, h1⟩
    · cases e1
    · rcases get_set h2 with ⟨_, e1⟩ | ⟨hk, h2⟩
      · cases e1
      · exact R.dist j k dj dk a h1 h2 h3 h4
/-- an owned slot's object is changed -/
theorem Rel.put {i : Nat} {d d' : D} {o' : HO} (R : Rel T U G H σ ρ) (hρ : ρ[i]? = some (.ow d)) (hσ : σ[i]? = some (some (.ref p))) (r : RepO T G o' d') :
    Rel T U G (upd H p o') σ (ρ.set i (.ow d')) := by
  obtain ⟨a, q, e1, g, u, hh, _⟩ := R.ow i d hρ
  rw [hσ] at e1
  have e1 := Option.some.inj (Option.some.inj e1)
  cases e1
  refine ⟨same_own R.same g, by simp [R.len], fun j e h => ?_, fun j e h => ?_, fun j k dj dk a h1 h2 h3 h4 => ?_, fun a q e => ?_, fun j c ns vs h => by
    rcases get_set h with ⟨_, e1⟩ | ⟨hj, h⟩
    · cases e1
    · exact R.exn j c ns vs h⟩
  · rcases get_set h with ⟨_, e1⟩ | ⟨hj, h⟩
    · cases e1
    · exact R.sh j e h
  · rcases get_set h with ⟨rfl, e1⟩ | ⟨hj, h⟩
    · cases e1
      exact ⟨p, o', hσ, g, u, upd_same, r⟩
    · obtain ⟨a, q, e2, g1, u1, h1, r1⟩ := R.ow j e h
      have ne : a ≠ p := fun z => by subst z; exact hj (R.dist j i e d a h hρ e2 hσ)
      exact ⟨a, q, e2, g1, u1, by rw [upd_ne ne]; exact h1, r1⟩
  · have key : ∀ {k : Nat} {dk : D}, (ρ.set i (Sl.ow d'))[k]? = some (Sl.ow dk) → ∃ dk', ρ[k]? = some (Sl.ow dk') := fun {k dk} h => by
      rcases get_set h with ⟨e, _⟩ | ⟨_, h⟩
      · exact ⟨d, by rw [e]; exact hρ⟩
      · exact ⟨dk, h⟩
    obtain ⟨d1, k1⟩ := key h1
    obtain ⟨d2, k2⟩ := key h2
    exact R.dist j k d1 d2 a k1 k2 h3 h4
  · obtain ⟨h1, h2⟩ := R.out a q e
    have ne : a ≠ p := fun z => by subst z; rw [u] at e; cases e
    exact ⟨by rw [upd_ne ne]; exact h1, h2⟩
/-- an owned slot is frozen -/
theorem Rel.share {i : Nat} {d : D} (R : Rel T U G H σ ρ) (hρ : ρ[i]? = some (.ow d)) : ∃ a o, σ[i]? = some (some (.ref a)) ∧ G a = none ∧ H a = some o ∧ RepO T G o d ∧ Rel T U (upd G a o) H σ (ρ.set i (.sh d)) := by
  obtain ⟨a, o, e1, g, u, hh, r⟩ := R.ow i d hρ
  refine ⟨a, o, e1, g, hh, r, ?_⟩
  have R1 := (R.setNo (i := i)).freeze u g hh (fun j e h z => by
    rcases get_set h with ⟨_, e1⟩ | ⟨hj, h⟩
    · cases e1
    · exact hj (R.dist j i e d a h hρ z e1))
  have q := R1.setSh (i := i) ((r.mono (same_upd g)).rep upd_same)
  have es : σ.set i (some (.ref a)) = σ := by
    apply List.ext_getElem?
    intro j
    by_cases hj : j = i
    · subst hj
      rw [set_get_same (by exact (List.getElem?_eq_some_iff.mp e1).1), e1]
    · rw [set_get_ne hj]
  have er : (ρ.set i .no).set i (.sh d) = ρ.set i (.sh d) := by rw [List.set_set]
  rw [es, er] at q
  exact q
end

/-! ### results -/
inductive Rs (α : Type) where
  | ok (a : α) (ρ : En)
  | ex (c : Nat) (ns : List Nat) (vs : List D) (ρ : En)
  | bad
def Rs.bnd {α β : Type} (r : Rs α) (k : α → En → Rs β) : Rs β :=
  match r with
  | .ok a ρ => k a ρ
  | .ex c ns vs ρ => .ex c ns vs ρ
  | .bad => .bad
@[simp] theorem Rs.bnd_ok {α β : Type} (a : α) (ρ : En) (k : α → En → Rs β) : (Rs.ok a ρ).bnd k = k a ρ := rfl
@[simp] theorem Rs.bnd_ex {α β : Type} (c : Nat) (ns : List Nat) (vs : List D) (ρ : En) (k : α → En → Rs β) : (Rs.ex c ns vs ρ : Rs α).bnd k = .ex c ns vs ρ := rfl
@[simp] theorem Rs.bnd_bad {α β : Type} (k : α → En → Rs β) : (Rs.bad : Rs α).bnd k = .bad := rfl

/-- what must hold behind an evaluation that gives an α -/
def Pst {α : Type} (T : Tab) (U : Hp) (σ : L2.St) (G : Hp) (r : Rs α) (Q : α → Hp → Hp → En → Prop) (W : WX) : Prop :=
  match r with
  | .ok a ρ' => ∀ G' H', Rel T U G' H' σ ρ' → L2.Same G G' → Q a G' H' ρ'
  | .ex c ns vs ρ' => ∀ cls dx G' H', Rel T U G' H' σ ρ' → L2.Same G G' → XRep T G' c ns vs cls dx → W cls dx σ H'
  | .bad => False
theorem Pst.mono {α : Type} {T : Tab} {U : Hp} {σ : L2.St} {G G1 : Hp} {r : Rs α} {Q Q' : α → Hp → Hp → En → Prop} {W : WX} (h : Pst T U σ G r Q W) (s : L2.Same G G1) (hq : ∀ a G' H' ρ', L2.Same G1 G' → Q a G' H' ρ' → Q' a G' H' ρ') : Pst T U σ G1 r Q' W := by
  cases r with
  | ok a ρ' => exact fun G' H' R s' => hq _ _ _ _ s' (h G' H' R (s.trans s'))
  | ex c ns vs ρ' => exact fun cls dx G' H' R s' x => h cls dx G' H' R (s.trans s') x
  | bad => exact h
theorem Pst.bnd {α β : Type} {T : Tab} {U : Hp} {σ : L2.St} {G : Hp} {r : Rs α} {k : α → En → Rs β} {Q : β → Hp → Hp → En → Prop} {W : WX} (h : Pst T U σ G (r.bnd k) Q W) :
    Pst T U σ G r (fun a G' H' ρ' => Rel T U G' H' σ ρ' ∧ L2.Same G G' ∧ Pst T U σ G' (k a ρ') Q W) W := by
  cases r with
  | ok a ρ' => exact fun G' H' R s => ⟨R, s, Pst.mono (r := k a ρ') h s fun _ _ _ _ _ z => z⟩
  | ex c ns vs ρ' => exact h
  | bad => exact h

abbrev EF := En → Rs D
abbrev TF := En → Rs Bool
abbrev LF := En → Rs (List D)
/-- an expression that gives a value never changed again -/
def tE (T : Tab) (W : WX) (f : EF) : TE := fun σ H Q => ∃ U G ρ, Rel T U G H σ ρ ∧ Pst T U σ G (f ρ) (fun d G' H' _ => ∀ v, Rep T G' v d → Q v H') W
/-- a test -/
def tT (T : Tab) (W : WX) (f : TF) : TT := fun σ H Q => ∃ U G ρ, Rel T U G H σ ρ ∧ Pst T U σ G (f ρ) (fun b _ H' _ => Q b H') W
/-- an expression that gives a new object, owned by nobody -/
def tO (T : Tab) (W : WX) (f : EF) : TE := fun σ H Q => ∃ U G ρ, Rel T U G H σ ρ ∧
  Pst T U σ G (f ρ) (fun d G' H' ρ' => ∀ p o, G' p = none → U p = none → H' p = some o → RepO T G' o d → (∀ (i : Nat) (d : D), ρ'[i]? = some (.ow d) → σ[i]? ≠ some (some (.ref p))) → Q (.ref p) H') W
/-- arguments: values, or owned slots that are lent -/
inductive Ar where
  | v (d : D) | s (i : Nat)
def ArOk (T : Tab) (G : Hp) (σ : L2.St) : V → Ar → Prop
  | v, .v d => Rep T G v d
  | v, .s i => σ[i]? = some (some v)
theorem ArOk.mono {T : Tab} {G G' : Hp} {σ : L2.St} (s : L2.Same G G') {v : V} {a : Ar} (h : ArOk T G σ v a) : ArOk T G' σ v a := by
  cases a with
  | v d => exact Rep.mono s h
  | s i => exact h
/-- an operand that is only looked at -/
def tR (T : Tab) (W : WX) (f : En → Rs Ar) : TE := fun σ H Q => ∃ U G ρ, Rel T U G H σ ρ ∧ Pst T U σ G (f ρ) (fun a G' H' _ => ∀ v, ArOk T G' σ v a → Q v H') W
abbrev AF := En → Rs (List Ar)
def ArsOk (T : Tab) (G : Hp) (σ : L2.St) : List V → List Ar → Prop
  | [], [] => True
  | v :: vs, a :: as => ArOk T G σ v a ∧ ArsOk T G σ vs as
  | _, _ => False
def tA (T : Tab) (W : WX) (f : AF) : TA := fun σ H Q => ∃ U G ρ, Rel T U G H σ ρ ∧ Pst T U σ G (f ρ) (fun as G' H' _ => ∀ vs, ArsOk T G' σ vs as → Q vs H') W

/-! ### the judgements -/
def Keeps (ws : List Nat) (σ σ' : L2.St) : Prop := σ'.length = σ.length ∧ ∀ (j : Nat), j ∉ ws → σ'[j]? = σ[j]?
inductive Fl where
  | nx | rt (d : D)
abbrev SF := En → Rs Fl
def PstS (T : Tab) (W : WX) (ws : List Nat) (D : Ends) (U : Hp) (σ : L2.St) (G : Hp) (r : Rs Fl) : Prop :=
  match r with
  | .ok .nx ρ' => ∀ σ' G' H', Rel T U G' H' σ' ρ' → L2.Same G G' → Keeps ws σ σ' → D.nx σ' H'
  | .ok (.rt d) ρ' => ∀ v σ' G' H', Rel T U G' H' σ' ρ' → L2.Same G G' → Keeps ws σ σ' → Rep T G' v d → D.rt v H'
  | .ex c ns vs ρ' => ∀ cls dx σ' G' H', Rel T U G' H' σ' ρ' → L2.Same G G' → Keeps ws σ σ' → XRep T G' c ns vs cls dx → W cls dx σ' H'
  | .bad => False
/-- a statement that stores into the slots ws -/
def tS (T : Tab) (W : WX) (ws : List Nat) (f : SF) : TS := fun D σ H => ∃ U G ρ, Rel T U G H σ ρ ∧ PstS T W ws D U σ G (f ρ)

structure JE (X : Cx) (T : Tab) (W : WX) (e : Expr) (f : EF) : Prop where
  k : X.K = T.K
  run : PE X e (tE T W f)
structure JO (X : Cx) (T : Tab) (W : WX) (e : Expr) (f : EF) : Prop where
  k : X.K = T.K
  run : PE X e (tO T W f)
structure JR (X : Cx) (T : Tab) (W : WX) (e : Expr) (f : En → Rs Ar) : Prop where
  k : X.K = T.K
  run : PE X e (tR T W f)
structure JT (X : Cx) (T : Tab) (W : WX) (e : Expr) (f : TF) : Prop where
  k : X.K = T.K
  run : PT X e (tT T W f)
structure JA (X : Cx) (T : Tab) (W : WX) (es : List Expr) (f : AF) : Prop where
  k : X.K = T.K
  len : ∀ ρ as ρ', f ρ = .ok as ρ' → as.length = es.length
  run : PA X es (tA T W f)
structure JS (X : Cx) (T : Tab) (W : WX) (ws : List Nat) (st : Stmt) (f : SF) : Prop where
  k : X.K = T.K
  run : PS X st (tS T W ws f)
structure JSs (X : Cx) (T : Tab) (W : WX) (ws : List Nat) (sts : List Stmt) (f : SF) : Prop where
  k : X.K = T.K
  run : PSs X sts (tS T W ws f)

theorem pe_imp {X : Cx} {e : Expr} {t t' : TE} (h : PE X e t) (hi : ∀ σ H Q, t' σ H Q → t σ H Q) : PE X e t' := ⟨fun pins s σ H Q I q => h.run pins s σ H Q I (hi _ _ _ q)⟩
theorem pt_imp {X : Cx} {e : Expr} {t t' : TT} (h : PT X e t) (hi : ∀ σ H Q, t' σ H Q → t σ H Q) : PT X e t' := ⟨fun pins s σ H Q I q => h.run pins s σ H Q I (hi _ _ _ q)⟩
theorem pa_imp {X : Cx} {e : List Expr} {t t' : TA} (h : PA X e t) (hi : ∀ σ H Q, t' σ H Q → t σ H Q) : PA X e t' := ⟨fun pos pins s σ H Q I q => h.run pos pins s σ H Q I (hi _ _ _ q)⟩
theorem ps_imp {X : Cx} {e : Stmt} {t t' : TS} (h : PS X e t) (hi : ∀ D σ H, t' D σ H → t D σ H) : PS X e t' := ⟨fun pins s σ H D I q => h.run pins s σ H D I (hi _ _ _ q)⟩
theorem pss_imp {X : Cx} {e : List Stmt} {t t' : TS} (h : PSs X e t) (hi : ∀ D σ H, t' D σ H → t D σ H) : PSs X e t' := ⟨fun pins s σ H D I q => h.run pins s σ H D I (hi _ _ _ q)⟩
end J

set_option Elab.async false
set_option linter.all false
set_option maxRecDepth 100000
set_option maxHeartbeats 4000000
namespace J
open PySem PySem.Spec PyProof.Rows L2

/-! ### operands -/
def look (ρ : En) : Ar → Option D
  | .v d => some d
  | .s i => match ρ[i]? with
    | some (.sh d) => some d
    | some (.ow d) => some d
    | _ => none
@[simp] theorem look_v (ρ : En) (d : D) : look ρ (.v d) = some d := rfl
def RepH (T : Tab) (G H : Hp) (v : V) (d : D) : Prop := Rep T G v d ∨ ∃ p o, v = .ref p ∧ H p = some o ∧ RepO T G o d
section
variable {T : Tab} {U G H : Hp} {σ : L2.St} {ρ : En}
theorem look_ok (R : Rel T U G H σ ρ) {v : V} {a : Ar} {d : D} (h : ArOk T G σ v a) (e : look ρ a = some d) : RepH T G H v d := by
  cases a with
  | v d' => cases e; exact .inl h
  | s i =>
    have e : (match ρ[i]? with | some (.sh d) => some d | some (.ow d) => some d | _ => none) = some d := e
    cases q : ρ[i]? with
    | none => rw [q] at e; cases e
    | some sl =>
      rw [q] at e
      cases sl with
      | no => cases e
      | ex _ _ _ => cases e
      | sh d' =>
        cases e
        obtain ⟨u, e1, r⟩ := R.sh i _ q
        rw [show σ[i]? = some (some v) from h] at e1
        cases e1
        exact .inl r
      | ow d' =>
        cases e
        obtain ⟨p, o, e1, g, u, hh, r⟩ := R.ow i _ q
        rw [show σ[i]? = some (some v) from h] at e1
        cases e1
        exact .inr ⟨p, o, rfl, hh, r⟩
theorem RepH.int {v : V} {i : Int} (h : RepH T G H v (.int i)) : v = .int i := by
  rcases h with h | ⟨_, _, _, _, h⟩
  · exact h
  · exact h.elim
theorem RepH.bl {v : V} {i : Bool} (h : RepH T G H v (.bl i)) : v = .bl i := by
  rcases h with h | ⟨_, _, _, _, h⟩
  · exact h
  · exact h.elim
theorem RepH.str {v : V} {i : Str} (h : RepH T G H v (.str i)) : v = .str i ∧ SOk i := by
  rcases h with h | ⟨_, _, _, _, h⟩
  · exact h
  · exact h.elim
theorem RepH.non {v : V} (h : RepH T G H v .non) : v = .non := by
  rcases h with h | ⟨_, _, _, _, h⟩
  · exact h
  · exact h.elim
theorem RepH.tup {v : V} {ds : List D} (s : L2.Same G H) (h : RepH T G H v (.tup ds)) : ∃ a xs, v = .ref a ∧ SqT T.K H a xs ∧ SqT T.K G a xs ∧ Reps T G xs ds := by
  rcases h with ⟨a, xs, e, q, r⟩ | ⟨_, _, _, _, h⟩
  · exact ⟨a, xs, e, Same.seqT s q, q, r⟩
  · exact h.elim
theorem RepH.lst {v : V} {ds : List D} (s : L2.Same G H) (h : RepH T G H v (.lst ds)) : ∃ (a : Addr) (xs : List V), v = .ref a ∧ H a = some (.lst xs) ∧ Reps T G xs ds := by
  rcases h with ⟨a, xs, e, q, r⟩ | ⟨p, o, e, hh, xs, rfl, r⟩
  · exact ⟨a, xs, e, s _ _ q, r⟩
  · exact ⟨p, xs, e, hh, r⟩
theorem RepH.scr {v : V} {ds : List D} (s : L2.Same G H) (h : RepH T G H v (.scr ds)) : ∃ (a : Addr) (xs : List V), v = .ref a ∧ SqL T.K H a xs ∧ Reps T G xs ds := by
  rcases h with ⟨a, xs, e, q, r⟩ | ⟨_, _, _, _, h⟩
  · exact ⟨a, xs, e, s.seq q, r⟩
  · exact h.elim
theorem RepH.dct {v : V} {ks vs : List D} (s : L2.Same G H) (h : RepH T G H v (.dct ks vs)) : ∃ (a : Addr) (kk : List (Key × V)), v = .ref a ∧ H a = some (.dK kk) ∧ kk.map (fun p => some p.1) = ks.map keyD ∧ (kk.map (·.1)).Nodup ∧ Reps T G (kk.map (·.2)) vs := by
  rcases h with ⟨a, kk, e, q, r⟩ | ⟨p, o, e, hh, kk, rfl, r⟩
  · exact ⟨a, kk, e, s _ _ q, r⟩
  · exact ⟨p, kk, e, hh, r⟩
theorem RepH.obj {v : V} {c : Nat} {ns : List Nat} {vs : List D} (s : L2.Same G H) (h : RepH T G H v (.obj c ns vs)) : ∃ (a dx : Addr) (fs : List (Str × V)), v = .ref a ∧ H a = some (.ins (T.cls c) dx fs) ∧ fs.map (·.1) = ns.map T.fnm ∧ Reps T G (fs.map (·.2)) vs := by
  rcases h with ⟨a, dx, fs, e, q, r⟩ | ⟨p, o, e, hh, dx, fs, rfl, r⟩
  · exact ⟨a, dx, fs, e, s _ _ q, r⟩
  · exact ⟨p, dx, fs, e, hh, r⟩
end

def opt {α : Type} (o : Option α) (ρ : En) : Rs α := match o with
  | some a => .ok a ρ
  | none => .bad
@[simp] theorem opt_some {α : Type} (a : α) (ρ : En) : opt (some a) ρ = .ok a ρ := rfl
@[simp] theorem opt_none {α : Type} (ρ : En) : opt (none : Option α) ρ = .bad := rfl
theorem Pst.opt {α : Type} {T : Tab} {U : Hp} {σ : L2.St} {G : Hp} {o : Option α} {ρ : En} {Q : α → Hp → Hp → En → Prop} {W : WX} (h : Pst T U σ G (opt o ρ) Q W) : ∃ a, o = some a ∧ ∀ G' H', Rel T U G' H' σ ρ → L2.Same G G' → Q a G' H' ρ := by
  cases o with
  | none => exact h.elim
  | some a => exact ⟨a, rfl, h⟩

/-! ### names and constants -/
section
variable {X : Cx} {T : Tab} {W : WX}
def eVar (i : Nat) : EF := fun ρ => match ρ[i]? with
  | some (.sh d) => .ok d ρ
  | some (.ow d) => (match d with
    | .lst _ => .ok d (ρ.set i (.sh d))
    | .dct _ _ => .ok d (ρ.set i (.sh d))
    | _ => .bad)
  | _ => .bad
theorem j_var (k : X.K = T.K) (i : Nat) {x : Str} {pos : Pos} (hN : X.N[i]? = some x := by rfl) (hv : Vis X.env.scope x := by first | exact Or.inl rfl | exact Or.inr (Or.inl rfl) | exact Or.inr (Or.inr rfl)) (hd : (x == ("__debug__" : Str)) = false := by decide)
    (hcd : (x == ("__classdict__" : Str)) = false := by decide) : JE X T W (.Name x pos) (eVar i) := by
  refine ⟨k, pe_imp (pe_var hN hv hd hcd) fun σ H Q h => ?_⟩
  obtain ⟨U, G, ρ, R, h⟩ := h
  unfold eVar at h
  cases q : ρ[i]? with
  | none => rw [q] at h; exact h.elim
  | some sl =>
    rw [q] at h
    cases sl with
    | no => exact h.elim
    | ex _ _ _ => exact h.elim
    | sh d =>
      obtain ⟨v, e, r⟩ := R.sh i d q
      exact ⟨v, e, h G H R (L2.Same.refl _) v r⟩
    | ow d =>
      have fin : Pst T U σ G (.ok d (ρ.set i (.sh d))) (fun d G' H' _ => ∀ v, Rep T G' v d → Q v H') W → tVar i σ H Q := fun h => by
        obtain ⟨a, o, e, g, hh, r, R'⟩ := R.share q
        exact ⟨.ref a, e, h _ H R' (same_upd g) _ ((r.mono (same_upd g)).rep upd_same)⟩
      cases d with
      | lst ds => exact fin h
      | dct ks vs => exact fin h
      | _ => exact h.elim
def rVar (i : Nat) : En → Rs Ar := fun ρ => match ρ[i]? with
  | some (.sh _) => .ok (.s i) ρ
  | some (.ow _) => .ok (.s i) ρ
  | _ => .bad
theorem j_rvar (k : X.K = T.K) (i : Nat) {x : Str} {pos : Pos} (hN : X.N[i]? = some x := by rfl) (hv : Vis X.env.scope x := by first | exact Or.inl rfl | exact Or.inr (Or.inl rfl) | exact Or.inr (Or.inr rfl)) (hd : (x == ("__debug__" : Str)) = false := by decide)
    (hcd : (x == ("__classdict__" : Str)) = false := by decide) : JR X T W (.Name x pos) (rVar i) := by
  refine ⟨k, pe_imp (pe_var hN hv hd hcd) fun σ H Q h => ?_⟩
  obtain ⟨U, G, ρ, R, h⟩ := h
  unfold rVar at h
  cases q : ρ[i]? with
  | none => rw [q] at h; exact h.elim
  | some sl =>
    rw [q] at h
    cases sl with
    | no => exact h.elim
    | ex _ _ _ => exact h.elim
    | sh d =>
      obtain ⟨v, e, r⟩ := R.sh i d q
      exact ⟨v, e, h G H R (L2.Same.refl _) v e⟩
    | ow d =>
      obtain ⟨a, o, e, _⟩ := R.ow i d q
      exact ⟨_, e, h G H R (L2.Same.refl _) _ e⟩
def rVal (f : EF) : En → Rs Ar := fun ρ => (f ρ).bnd fun d ρ' => .ok (.v d) ρ'
theorem j_rval {e : Expr} {f : EF} (h : JE X T W e f) : JR X T W e (rVal f) := by
  refine ⟨h.k, pe_imp h.run fun σ H Q q => ?_⟩
  obtain ⟨U, G, ρ, R, q⟩ := q
  refine ⟨U, G, ρ, R, (Pst.bnd q).mono (L2.Same.refl _) fun d G' H' ρ' _ ⟨R', s, p⟩ v r => ?_⟩
  exact p G' H' R' (L2.Same.refl _) v r
def eC (d : D) : EF := fun ρ => .ok d ρ
theorem j_C {e : Expr} {v : V} {d : D} (k : X.K = T.K) (h : PE X e (tC v)) (r : ∀ G, Rep T G v d) : JE X T W e (eC d) := by
  refine ⟨k, pe_imp h fun σ H Q q => ?_⟩
  obtain ⟨U, G, ρ, R, q⟩ := q
  exact q G H R (L2.Same.refl _) v (r G)
theorem j_int (k : X.K = T.K) {i j pos} : JE X T W (.Constant (.int i) j pos) (eC (.int i)) := j_C k pe_int fun _ => rfl
theorem j_bl (k : X.K = T.K) {i j pos} : JE X T W (.Constant (.bool i) j pos) (eC (.bl i)) := j_C k pe_bl fun _ => rfl
theorem j_non (k : X.K = T.K) {j pos} : JE X T W (.Constant .none j pos) (eC .non) := j_C k pe_non fun _ => rfl
theorem j_str (k : X.K = T.K) {x j pos} (h : SOk x := by exact ⟨by decide +kernel, by decide +kernel⟩) : JE X T W (.Constant (.str x) j pos) (eC (.str x)) := j_C k pe_str fun _ => ⟨rfl, h⟩

/-! ### two operands, a value -/
def r2 (g : D → D → Option D) (a b : Ar) (ρ : En) : Rs D := match look ρ a, look ρ b with
  | some d, some e => opt (g d e) ρ
  | _, _ => .bad
def f2 (g : D → D → Option D) (fa fb : En → Rs Ar) : EF := fun ρ => (fa ρ).bnd fun a ρ1 => (fb ρ1).bnd fun b ρ2 => r2 g a b ρ2
def Op2 (T : Tab) (r : R2) (g : D → D → Option D) : Prop := ∀ U G H σ ρ x y d e c (Q : VK), Rel T U G H σ ρ → RepH T G H x d → RepH T G H y e → g d e = some c →
  (∀ v G' H', Rel T U G' H' σ ρ → L2.Same G G' → Rep T G' v c → Q v H') → r x y H Q
theorem op2_run {a b : Expr} {r : R2} {g : D → D → Option D} {fa fb : En → Rs Ar} (hg : Op2 T r g) {ta tb : TE} (ea : ta = tR T W fa) (eb : tb = tR T W fb) : ∀ σ H Q, tE T W (f2 g fa fb) σ H Q → tOp r ta tb σ H Q := by
  subst ea eb
  intro σ H Q q
  obtain ⟨U, G, ρ, R, q⟩ := q
  refine ⟨U, G, ρ, R, (Pst.bnd q).mono (L2.Same.refl _) fun x G1 H1 ρ1 _ ⟨R1, s1, p1⟩ v av => ?_⟩
  refine ⟨U, G1, ρ1, R1, (Pst.bnd p1).mono (L2.Same.refl _) fun y G2 H2 ρ2 _ ⟨R2, s2, p2⟩ u au => ?_⟩
  unfold r2 at p2
  cases e1 : look ρ2 x with
  | none => rw [e1] at p2; exact p2.elim
  | some d =>
    cases e2 : look ρ2 y with
    | none => rw [e1, e2] at p2; exact p2.elim
    | some e =>
      rw [e1, e2] at p2
      obtain ⟨c, e3, p3⟩ := Pst.opt p2
      exact hg U G2 H2 σ ρ2 v u d e c Q R2 (look_ok R2 (av.mono s2) e1) (look_ok R2 au e2) e3 fun w G' H' R' s' r' => p3 G' H' R' s' w r'
theorem j_op {op : Operator} {a b : Expr} {pos : Pos} {r : R2} {g : D → D → Option D} {fa fb : En → Rs Ar} (ho : OpR X (binaryOp op) r) (hg : Op2 T r g) (ha : JR X T W a fa) (hb : JR X T W b fb) : JE X T W (.BinOp a op b pos) (f2 g fa fb) :=
  ⟨ha.k, pe_imp (pe_op ho ha.run hb.run) (op2_run (a := a) (b := b) hg rfl rfl)⟩
theorem j_cmpE {op : CmpOp} {a b : Expr} {pos : Pos} {r : R2} {g : D → D → Option D} {fa fb : En → Rs Ar} (ho : OpR X (compareOp op) r) (hg : Op2 T r g) (ha : JR X T W a fa) (hb : JR X T W b fb) (hm : behindInMarks op b = false := by first | exact nomark _ | rfl) :
    JE X T W (.Compare a [op] [b] pos) (f2 g fa fb) :=
  ⟨ha.k, pe_imp (pe_cmpR ho ha.run hb.run hm) (op2_run (a := a) (b := b) hg rfl rfl)⟩
/-- a value that is a truth, as a test -/
def tB (f : EF) : TF := fun ρ => (f ρ).bnd fun d ρ' => match d with
  | .bl b => .ok b ρ'
  | _ => .bad
theorem tB_run {f : EF} {t : TE} (ht : ∀ σ H Q, tE T W f σ H Q → t σ H Q) : ∀ σ H Q, tT T W (tB f) σ H Q → t σ H fun x H' => ∃ k, x = .bl k ∧ Q k H' := by
  intro σ H Q q
  obtain ⟨U, G, ρ, R, q⟩ := q
  refine ht _ _ _ ⟨U, G, ρ, R, (Pst.bnd q).mono (L2.Same.refl _) fun d G' H' ρ' _ ⟨R', s, p⟩ v r => ?_⟩
  cases d with
  | bl b =>
    have e : v = .bl b := r
    exact ⟨b, e, p G' H' R' (L2.Same.refl _)⟩
  | _ => exact p.elim
theorem j_cmp {op : CmpOp} {a b : Expr} {pos : Pos} {r : R2} {g : D → D → Option D} {fa fb : En → Rs Ar} (ho : OpR X (compareOp op) r) (hg : Op2 T r g) (ha : JR X T W a fa) (hb : JR X T W b fb) (hm : behindInMarks op b = false := by first | exact nomark _ | rfl) :
    JT X T W (.Compare a [op] [b] pos) (tB (f2 g fa fb)) :=
  ⟨ha.k, pt_imp (pt_cmpR ho ha.run hb.run hm) (tB_run (op2_run (a := a) (b := b) hg rfl rfl))⟩
/-- an expression whose value is a truth, as a test -/
theorem j_test {e : Expr} {f : EF} (h : JE X T W e f) (he : ∀ whole, isTrue e X.env whole = (do let v ← whole; standAt e.pos; holding [v] (truthy v)) := by intro _; rfl) : JT X T W e (tB f) := by
  refine ⟨h.k, pt_imp (pt_val h.run he) fun σ H Q q => ?_⟩
  exact tB_run (fun _ _ _ z => z) σ H Q q

/-! ### arithmetic -/
def addD : D → D → Option D
  | .int a, .int b => some (.int (a + b))
  | .str a, .str b => if a.length + b.length ≤ sizeLine then some (.str (a ++ b)) else none
  | .tup a, .tup b => if a.length + b.length ≤ sizeLine then some (.tup (a ++ b)) else none
  | .lst a, .lst b => if a.length + b.length ≤ sizeLine then some (.lst (a ++ b)) else none
  | _, _ => none
theorem SOk.app {a b : Str} (ha : SOk a) (hb : SOk b) (h : a.length + b.length ≤ sizeLine) : SOk (a ++ b) := by
  refine ⟨?_, ?_⟩
  · have e : (a ++ b).length = a.length + b.length := by
      show (a.cps ++ b.cps).size = a.cps.size + b.cps.size
      simp
    rw [e]; exact h
  · show (a.cps ++ b.cps).all (· < 0x110000) = true
    rw [Array.all_append]
    have h1 : a.cps.all (· < 0x110000) = true := ha.2
    have h2 : b.cps.all (· < 0x110000) = true := hb.2
    rw [h1, h2]; rfl
abbrev rAddJ (K : PySem.W.Frag) : R2 := fun x y H Q => (rI0 fun i j => .int (i + j)) x y H Q ∨ (∃ i j, x = .str i ∧ y = .str j ∧ i.length + j.length ≤ sizeLine ∧ Q (.str (i ++ j)) H) ∨ rCatA K x y H Q ∨ rCat x y H Q
theorem op_addJ : OpR X (binaryOp .Add) (rAddJ X.K) := OpR.or op_add (OpR.or op_add_str (OpR.or op_catA op_cat))
theorem add_J (k : X.K = T.K) : Op2 T (rAddJ X.K) addD := by
  intro U G H σ ρ x y d e c Q R rx ry hg q
  rw [k]
  cases d <;> cases e <;> simp only [addD] at hg <;> first | (cases hg; done) | skip
  · cases hg
    exact .inl ⟨_, _, rx.int, ry.int, q _ G H R (L2.Same.refl _) rfl⟩
  · rename_i a b
    split at hg
    · rename_i hl
      cases hg
      obtain ⟨e1, o1⟩ := rx.str
      obtain ⟨e2, o2⟩ := ry.str
      exact .inr (.inl ⟨_, _, e1, e2, hl, q _ G H R (L2.Same.refl _) ⟨rfl, o1.app o2 hl⟩⟩)
    · cases hg
  · rename_i a b
    split at hg
    · rename_i hl
      cases hg
      obtain ⟨p, xs, rfl, h1, g1, r1⟩ := rx.tup R.same
      obtain ⟨p', ys, rfl, h2, g2, r2⟩ := ry.tup R.same
      refine .inr (.inr (.inl ⟨p, p', xs, ys, rfl, rfl, h1, h2, by rw [r1.length, r2.length]; exact hl, fun e => ?_, fun e e' => ?_, fun _ _ l hl => ?_⟩))
      · subst e
        have : a = [] := by have := r1.length; cases a <;> simp_all
        subst this
        exact q _ G H R (L2.Same.refl _) ⟨p', ys, rfl, g2, r2⟩
      · subst e'
        have : b = [] := by have := r2.length; cases b <;> simp_all
        subst this
        exact q _ G H R (L2.Same.refl _) ⟨p, xs, rfl, g1, by rw [List.append_nil]; exact r1⟩
      · have s := same_upd (o := .tup (xs ++ ys)) (R.gfree hl)
        exact q _ _ _ (R.alloc hl) s ⟨l, _, rfl, .of upd_same, (r1.app r2).mono s⟩
    · cases hg
  · rename_i a b
    split at hg
    · rename_i hl
      cases hg
      obtain ⟨p, xs, rfl, h1, r1⟩ := rx.lst R.same
      obtain ⟨p', ys, rfl, h2, r2⟩ := ry.lst R.same
      refine .inr (.inr (.inr ⟨p, p', xs, ys, rfl, rfl, h1, h2, by rw [r1.length, r2.length]; exact hl, fun l hl => ?_⟩))
      have s := same_upd (o := .lst (xs ++ ys)) (R.gfree hl)
      exact q _ _ _ (R.alloc hl) s ⟨l, _, rfl, upd_same, (r1.app r2).mono s⟩
    · cases hg
theorem j_add {a b : Expr} {pos : Pos} {fa fb : En → Rs Ar} (ha : JR X T W a fa) (hb : JR X T W b fb) : JE X T W (.BinOp a .Add b pos) (f2 addD fa fb) := j_op op_addJ (add_J ha.k) ha hb
/-- ints in, under C, a scalar out -/
theorem op2_I {C : Int → Int → Prop} {gv : Int → Int → V} {g : D → D → Option D} (h : ∀ d e c, g d e = some c → ∃ i j, d = .int i ∧ e = .int j ∧ C i j ∧ ∀ G, Rep T G (gv i j) c) : Op2 T (rI C gv) g := by
  intro U G H σ ρ x y d e c Q R rx ry hg q
  obtain ⟨i, j, rfl, rfl, hc, r⟩ := h d e c hg
  exact ⟨i, j, rx.int, ry.int, hc, q _ G H R (L2.Same.refl _) (r G)⟩
theorem op2_I0 {gv : Int → Int → V} {g : D → D → Option D} (h : ∀ d e c, g d e = some c → ∃ i j, d = .int i ∧ e = .int j ∧ ∀ G, Rep T G (gv i j) c) : Op2 T (rI0 gv) g := by
  intro U G H σ ρ x y d e c Q R rx ry hg q
  obtain ⟨i, j, rfl, rfl, r⟩ := h d e c hg
  exact ⟨i, j, rx.int, ry.int, q _ G H R (L2.Same.refl _) (r G)⟩
def subD : D → D → Option D
  | .int a, .int b => some (.int (a - b))
  | _, _ => none
theorem j_sub {a b : Expr} {pos : Pos} {fa fb : En → Rs Ar} (ha : JR X T W a fa) (hb : JR X T W b fb) : JE X T W (.BinOp a .Sub b pos) (f2 subD fa fb) :=
  j_op op_sub (op2_I0 fun d e c h => by cases d <;> cases e <;> simp only [subD] at h <;> first | (cases h; done) | (cases h; exact ⟨_, _, rfl, rfl, fun _ => rfl⟩)) ha hb
instance (i j : Int) : Decidable (CMul i j) := by unfold CMul; infer_instance
instance (i j : Int) : Decidable (CDivN i j) := by unfold CDivN; infer_instance
instance (i j : Int) : Decidable (CPow i j) := by unfold CPow; infer_instance
def mulD : D → D → Option D
  | .int a, .int b => if CMul a b then some (.int (a * b)) else none
  | .lst a, .int k => if -(2 ^ 63) ≤ k ∧ k < 2 ^ 63 ∧ a.length * k.toNat ≤ sizeLine then some (.lst (List.replicate k.toNat a).flatten) else none
  | _, _ => none
theorem Reps.rep {T : Tab} {G : Hp} {xs : List V} {ds : List D} (r : Reps T G xs ds) : ∀ n : Nat, Reps T G (List.replicate n xs).flatten (List.replicate n ds).flatten
  | 0 => rfl
  | n + 1 => by rw [List.replicate_succ, List.replicate_succ, List.flatten_cons, List.flatten_cons]; exact r.app (Reps.rep r n)
theorem mul_J : Op2 T (fun x y H Q => (rI CMul fun i j => .int (i * j)) x y H Q ∨ rRep x y H Q) mulD := by
  intro U G H σ ρ x y d e c Q R rx ry hg q
  cases d <;> cases e <;> simp only [mulD] at hg <;> first | (cases hg; done) | skip
  · split at hg
    · rename_i hc
      cases hg
      exact .inl ⟨_, _, rx.int, ry.int, hc, q _ G H R (L2.Same.refl _) rfl⟩
    · cases hg
  · rename_i a kk
    split at hg
    · rename_i hc
      cases hg
      obtain ⟨p, xs, rfl, h1, r1⟩ := rx.lst R.same
      refine .inr ⟨p, _, xs, rfl, ry.int, h1, hc.1, hc.2.1, by rw [r1.length]; exact hc.2.2, fun l hl => ?_⟩
      have s := same_upd (o := .lst (List.replicate kk.toNat xs).flatten) (R.gfree hl)
      exact q _ _ _ (R.alloc hl) s ⟨l, _, rfl, upd_same, (r1.rep _).mono s⟩
    · cases hg
theorem j_mul {a b : Expr} {pos : Pos} {fa fb : En → Rs Ar} (ha : JR X T W a fa) (hb : JR X T W b fb) : JE X T W (.BinOp a .Mult b pos) (f2 mulD fa fb) := j_op (OpR.or op_mul op_rep) mul_J ha hb
def fdivD : D → D → Option D
  | .int a, .int b => if CDivN a b then some (.int (a.fdiv b)) else none
  | _, _ => none
theorem j_fdiv {a b : Expr} {pos : Pos} {fa fb : En → Rs Ar} (ha : JR X T W a fa) (hb : JR X T W b fb) : JE X T W (.BinOp a .FloorDiv b pos) (f2 fdivD fa fb) :=
  j_op op_fdivN (op2_I fun d e c h => by
    cases d <;> cases e <;> simp only [fdivD] at h <;> first | (cases h; done) | skip
    split at h
    · rename_i hc; cases h; exact ⟨_, _, rfl, rfl, hc, fun _ => rfl⟩
    · cases h) ha hb
def modD : D → D → Option D
  | .int a, .int b => if b ≠ 0 then some (.int (a.fmod b)) else none
  | _, _ => none
theorem j_mod {a b : Expr} {pos : Pos} {fa fb : En → Rs Ar} (ha : JR X T W a fa) (hb : JR X T W b fb) : JE X T W (.BinOp a .Mod b pos) (f2 modD fa fb) :=
  j_op op_modN (op2_I fun d e c h => by
    cases d <;> cases e <;> simp only [modD] at h <;> first | (cases h; done) | skip
    split at h
    · rename_i hc; cases h; exact ⟨_, _, rfl, rfl, hc, fun _ => rfl⟩
    · cases h) ha hb
def powD : D → D → Option D
  | .int a, .int b => if CPow a b then some (.int (a ^ b.toNat)) else none
  | _, _ => none
theorem j_pow {a b : Expr} {pos : Pos} {fa fb : En → Rs Ar} (ha : JR X T W a fa) (hb : JR X T W b fb) : JE X T W (.BinOp a .Pow b pos) (f2 powD fa fb) :=
  j_op op_pow (op2_I fun d e c h => by
    cases d <;> cases e <;> simp only [powD] at h <;> first | (cases h; done) | skip
    split at h
    · rename_i hc; cases h; exact ⟨_, _, rfl, rfl, hc, fun _ => rfl⟩
    · cases h) ha hb

/-! ### order of ints, None -/
def icmp (p : Int → Int → Bool) : D → D → Option D
  | .int a, .int b => some (.bl (p a b))
  | _, _ => none
theorem icmp_J {p : Int → Int → Bool} : Op2 T (rI0 fun i j => .bl (p i j)) (icmp p) := op2_I0 fun d e c h => by
  cases d <;> cases e <;> simp only [icmp] at h <;> first | (cases h; done) | (cases h; exact ⟨_, _, rfl, rfl, fun _ => rfl⟩)
abbrev ltD := icmp fun i j => decide (i < j)
abbrev leD := icmp fun i j => decide (i ≤ j)
abbrev gtD := icmp fun i j => decide (j < i)
abbrev geD := icmp fun i j => decide (j ≤ i)
def isNonD : D → D → Option D
  | .non, .non => some (.bl true)
  | _, .non => some (.bl false)
  | _, _ => none
def notNonD : D → D → Option D
  | .non, .non => some (.bl false)
  | _, .non => some (.bl true)
  | _, _ => none
theorem RepH.ne_non {G H : Hp} {v : V} {d : D} (h : RepH T G H v d) (hd : d ≠ .non) : v ≠ .non := by
  intro e
  subst e
  rcases h with h | ⟨_, _, e, _⟩
  · cases d <;> first | exact hd rfl | (cases h; done) | (obtain ⟨_, _, e, _⟩ := h; cases e; done) | (obtain ⟨e, _⟩ := h; cases e; done) | (obtain ⟨_, _, _, e, _⟩ := h; cases e)
  · cases e
theorem isNon_J : Op2 T (fun x y H Q => y = .non ∧ Q (.bl (decide (x = .non))) H) isNonD := by
  intro U G H σ ρ x y d e c Q R rx ry hg q
  cases e with
  | non =>
    refine ⟨ry.non, ?_⟩
    cases d with
    | non =>
      cases hg
      rw [decide_eq_true rx.non]
      exact q _ G H R (L2.Same.refl _) rfl
    | _ =>
      cases hg
      rw [decide_eq_false (rx.ne_non (by intro z; cases z))]
      exact q _ G H R (L2.Same.refl _) rfl
  | _ => cases d <;> cases hg
theorem notNon_J : Op2 T (fun x y H Q => y = .non ∧ Q (.bl (!decide (x = .non))) H) notNonD := by
  intro U G H σ ρ x y d e c Q R rx ry hg q
  cases e with
  | non =>
    refine ⟨ry.non, ?_⟩
    cases d with
    | non =>
      cases hg
      rw [decide_eq_true rx.non]
      exact q _ G H R (L2.Same.refl _) rfl
    | _ =>
      cases hg
      rw [decide_eq_false (rx.ne_non (by intro z; cases z))]
      exact q _ G H R (L2.Same.refl _) rfl
  | _ => cases d <;> cases hg

/-! ### equality of data -/
mutual
/-- a tree of nothing but None, truths, ints, texts, tuples and lists, at most n deep -/
def okE : Nat → D → Bool
  | _, .non => true
  | _, .bl _ => true
  | _, .int _ => true
  | _, .str _ => true
  | n + 1, .tup ds => okEs n ds
  | n + 1, .lst ds => okEs n ds
  | _, _ => false
def okEs : Nat → List D → Bool
  | _, [] => true
  | n, d :: ds => okE n d && okEs n ds
end
mutual
def toPy : D → PyData
  | .non => .none
  | .bl b => .bool b
  | .int i => .int i
  | .str s => .str s
  | .tup ds => .tuple (toPys ds)
  | .lst ds => .list (toPys ds)
  | _ => .none
def toPys : List D → List PyData
  | [] => []
  | d :: ds => toPy d :: toPys ds
end
mutual
def eqv : D → D → Bool
  | .non, .non => true
  | .bl a, .bl b => a == b
  | .bl a, .int j => (if a then 1 else 0) == j
  | .int i, .bl b => i == (if b then 1 else 0)
  | .int i, .int j => i == j
  | .str x, .str y => x == y
  | .lst xs, .lst ys => eqvs xs ys
  | .tup xs, .tup ys => eqvs xs ys
  | _, _ => false
def eqvs : List D → List D → Bool
  | [], [] => true
  | x :: xs, y :: ys => eqv x y && eqvs xs ys
  | _, _ => false
end
mutual
theorem okE_dp {T : Tab} {H : Hp} : ∀ {n : Nat} {d : D} {v : V}, okE n d = true → Rep T H v d → Dp T.K H v (toPy d) ∧ (toPy d).canLay0 = true ∧ (toPy d).depth ≤ n
  | n, .non, v, _, r => by cases r; cases n <;> exact ⟨.non, rfl, Nat.zero_le _⟩
  | n, .bl b, v, _, r => by cases r; cases n <;> exact ⟨.bl b, rfl, Nat.zero_le _⟩
  | n, .int b, v, _, r => by cases r; cases n <;> exact ⟨.int b, rfl, Nat.zero_le _⟩
  | n, .str b, v, _, r => by obtain ⟨rfl, o⟩ := r; cases n <;> exact ⟨.str b, o.2, Nat.zero_le _⟩
  | n + 1, .tup ds, v, h, r => by
    obtain ⟨a, xs, rfl, q, r⟩ := r
    obtain ⟨h1, h2, h3⟩ := okEs_dp (n := n) (by simpa [okE] using h) r
    exact ⟨.tup q h1, h2, Nat.succ_le_succ h3⟩
  | n + 1, .lst ds, v, h, r => by
    obtain ⟨a, xs, rfl, q, r⟩ := r
    obtain ⟨h1, h2, h3⟩ := okEs_dp (n := n) (by simpa [okE] using h) r
    exact ⟨.lst (.of q) h1, h2, Nat.succ_le_succ h3⟩
  | 0, .tup ds, v, h, r => by simp [okE] at h
  | 0, .lst ds, v, h, r => by simp [okE] at h
  | n, .dct _ _, v, h, r => by cases n <;> simp [okE] at h
  | n, .obj _ _ _, v, h, r => by cases n <;> simp [okE] at h
  | n, .fn _, v, h, r => by cases n <;> simp [okE] at h
  | n, .scr _, v, h, r => by cases n <;> simp [okE] at h
theorem okEs_dp {T : Tab} {H : Hp} : ∀ {n : Nat} {ds : List D} {xs : List V}, okEs n ds = true → Reps T H xs ds → DpAll T.K H xs (toPys ds) ∧ PyData.canLayAll0 (toPys ds) = true ∧ PyData.depthAll (toPys ds) ≤ n
  | n, [], xs, _, r => by cases r; exact ⟨.nil, rfl, Nat.zero_le _⟩
  | n, d :: ds, xs, h, r => by
    obtain ⟨x, rest, rfl, r1, r2⟩ := r
    have h' : okE n d = true ∧ okEs n ds = true := by simpa [okEs] using h
    obtain ⟨a1, a2, a3⟩ := okE_dp h'.1 r1
    obtain ⟨b1, b2, b3⟩ := okEs_dp h'.2 r2
    refine ⟨.cons a1 b1, ?_, Nat.max_le.mpr ⟨a3, b3⟩⟩
    show ((toPy d).canLay0 && PyData.canLayAll0 (toPys ds)) = true
    rw [a2, b2]; rfl
end
mutual
theorem eqv_py : ∀ {n m : Nat} {d e : D}, okE n d = true → okE m e = true → PyData.eqv (toPy d) (toPy e) = eqv d e
  | n + 1, m + 1, .tup ds, .tup es, h, h' => by
    have h1 : okEs n ds = true := by simpa [okE] using h
    have h2 : okEs m es = true := by simpa [okE] using h'
    simp [toPy, PyData.eqv, eqv, eqvs_py h1 h2]
  | n + 1, m + 1, .lst ds, .lst es, h, h' => by
    have h1 : okEs n ds = true := by simpa [okE] using h
    have h2 : okEs m es = true := by simpa [okE] using h'
    simp [toPy, PyData.eqv, eqv, eqvs_py h1 h2]
  | n, m, .non, e, h, h' => by cases e <;> cases m <;> first | rfl | simp [okE] at h'
  | n, m, .bl _, e, h, h' => by cases e <;> cases m <;> first | rfl | simp [okE] at h'
  | n, m, .int _, e, h, h' => by cases e <;> cases m <;> first | rfl | simp [okE] at h'
  | n, m, .str _, e, h, h' => by cases e <;> cases m <;> first | rfl | simp [okE] at h'
  | 0, m, .tup _, e, h, h' => by simp [okE] at h
  | 0, m, .lst _, e, h, h' => by simp [okE] at h
  | n, m, .dct _ _, e, h, h' => by cases n <;> simp [okE] at h
  | n, m, .obj _ _ _, e, h, h' => by cases n <;> simp [okE] at h
  | n, m, .fn _, e, h, h' => by cases n <;> simp [okE] at h
  | n, m, .scr _, e, h, h' => by cases n <;> simp [okE] at h
  | n + 1, 0, .tup _, e, h, h' => by cases e <;> first | rfl | simp [okE] at h'
  | n + 1, 0, .lst _, e, h, h' => by cases e <;> first | rfl | simp [okE] at h'
  | n + 1, m + 1, .tup _, .non, h, h' => rfl
  | n + 1, m + 1, .tup _, .bl _, h, h' => rfl
  | n + 1, m + 1, .tup _, .int _, h, h' => rfl
  | n + 1, m + 1, .tup _, .str _, h, h' => rfl
  | n + 1, m + 1, .tup _, .lst _, h, h' => rfl
  | n + 1, m + 1, .lst _, .non, h, h' => rfl
  | n + 1, m + 1, .lst _, .bl _, h, h' => rfl
  | n + 1, m + 1, .lst _, .int _, h, h' => rfl
  | n + 1, m + 1, .lst _, .str _, h, h' => rfl
  | n + 1, m + 1, .lst _, .tup _, h, h' => rfl
  | n + 1, m + 1, .lst _, .dct _ _, h, h' => by simp [okE] at h'
  | n + 1, m + 1, .lst _, .obj _ _ _, h, h' => by simp [okE] at h'
  | n + 1, m + 1, .lst _, .fn _, h, h' => by simp [okE] at h'
  | n + 1, m + 1, .lst _, .scr _, h, h' => by simp [okE] at h'
  | n + 1, m + 1, .tup _, .dct _ _, h, h' => by simp [okE] at h'
  | n + 1, m + 1, .tup _, .obj _ _ _, h, h' => by simp [okE] at h'
  | n + 1, m + 1, .tup _, .fn _, h, h' => by simp [okE] at h'
  | n + 1, m + 1, .tup _, .scr _, h, h' => by simp [okE] at h'
theorem eqvs_py : ∀ {n m : Nat} {d e : List D}, okEs n d = true → okEs m e = true → PyData.eqvAll (toPys d) (toPys e) = eqvs d e
  | _, _, [], [], _, _ => rfl
  | _, _, [], _ :: _, _, _ => rfl
  | _, _, _ :: _, [], _, _ => rfl
  | n, m, d :: ds, e :: es, h, h' => by
    have h1 : okE n d = true ∧ okEs n ds = true := by simpa [okEs] using h
    have h2 : okE m e = true ∧ okEs m es = true := by simpa [okEs] using h'
    simp [toPys, PyData.eqvAll, eqvs, eqv_py h1.1 h2.1, eqvs_py h1.2 h2.2]
end
/-- a RepH value, as data -/
theorem okE_dpH {T : Tab} {G H : Hp} {n : Nat} {d : D} {v : V} (s : L2.Same G H) (h : okE n d = true) (r : RepH T G H v d) : Dp T.K H v (toPy d) ∧ (toPy d).canLay0 = true ∧ (toPy d).depth ≤ n := by
  rcases r with r | ⟨p, o, rfl, hh, r⟩
  · exact okE_dp h (r.mono s)
  · cases d with
    | lst ds =>
      obtain ⟨xs, rfl, r⟩ := r
      exact okE_dp h (show Rep T H (.ref p) (.lst ds) from ⟨p, xs, rfl, hh, r.mono s⟩)
    | dct _ _ => cases n <;> simp [okE] at h
    | obj _ _ _ => cases n <;> simp [okE] at h
    | _ => exact r.elim
theorem shaped_of {d : PyData} (h1 : d.canLay0 = true) (h2 : d.depth ≤ 60) : SeqAt.shaped d = true := by
  unfold SeqAt.shaped
  rw [h1, decide_eq_true (by omega)]; rfl
def eqD (d e : D) : Option D := if okE 60 d = true ∧ okE 60 e = true then some (.bl (eqv d e)) else none
def neD (d e : D) : Option D := if okE 60 d = true ∧ okE 60 e = true then some (.bl (!eqv d e)) else none
theorem eq_J (k : X.K = T.K) : Op2 T (rEqD X.K) eqD := by
  intro U G H σ ρ x y d e c Q R rx ry hg q
  unfold eqD at hg
  split at hg
  · rename_i h
    cases hg
    obtain ⟨a1, a2, a3⟩ := okE_dpH R.same h.1 rx
    obtain ⟨b1, b2, b3⟩ := okE_dpH R.same h.2 ry
    rw [k]
    exact ⟨_, _, a1, b1, shaped_of a2 a3, shaped_of b2 b3, q _ G H R (L2.Same.refl _) (by rw [eqv_py h.1 h.2]; rfl)⟩
  · cases hg
theorem ne_J (k : X.K = T.K) : Op2 T (rNeD X.K) neD := by
  intro U G H σ ρ x y d e c Q R rx ry hg q
  unfold neD at hg
  split at hg
  · rename_i h
    cases hg
    obtain ⟨a1, a2, a3⟩ := okE_dpH R.same h.1 rx
    obtain ⟨b1, b2, b3⟩ := okE_dpH R.same h.2 ry
    rw [k]
    exact ⟨_, _, a1, b1, shaped_of a2 a3, shaped_of b2 b3, q _ G H R (L2.Same.refl _) (by rw [eqv_py h.1 h.2]; rfl)⟩
  · cases hg
/-- x in y: y a list -/
def inD (neg : Bool) (d : D) : D → Option D
  | .lst es => if okE 60 d = true ∧ okE 60 (.lst es) = true then some (.bl (if neg then !(es.any fun z => eqv z d) else es.any fun z => eqv z d)) else none
  | _ => none
theorem any_py {n m : Nat} {d : D} (h : okE n d = true) : ∀ {es : List D}, okEs m es = true → ((toPys es).any fun z => PyData.eqv z (toPy d)) = es.any fun z => eqv z d
  | [], _ => rfl
  | e :: es, h' => by
    have h2 : okE m e = true ∧ okEs m es = true := by simpa [okEs] using h'
    simp [toPys, eqv_py h2.1 h, any_py h h2.2]
theorem in_J (k : X.K = T.K) : Op2 T (rInD X.K) (inD false) := by
  intro U G H σ ρ x y d e c Q R rx ry hg q
  cases e <;> simp only [inD] at hg <;> first | (cases hg; done) | skip
  rename_i es
  split at hg
  · rename_i h
    cases hg
    obtain ⟨a1, a2, a3⟩ := okE_dpH R.same h.1 rx
    obtain ⟨b1, b2, b3⟩ := okE_dpH R.same h.2 ry
    have h3 : okEs 59 es = true := by simpa [okE] using h.2
    rw [k]
    exact ⟨_, toPys es, a1, b1, shaped_of a2 a3, shaped_of b2 b3, q _ G H R (L2.Same.refl _) (by rw [any_py h.1 h3]; rfl)⟩
  · cases hg
theorem notIn_J (k : X.K = T.K) : Op2 T (rNotInD X.K) (inD true) := by
  intro U G H σ ρ x y d e c Q R rx ry hg q
  cases e <;> simp only [inD] at hg <;> first | (cases hg; done) | skip
  rename_i es
  split at hg
  · rename_i h
    cases hg
    obtain ⟨a1, a2, a3⟩ := okE_dpH R.same h.1 rx
    obtain ⟨b1, b2, b3⟩ := okE_dpH R.same h.2 ry
    have h3 : okEs 59 es = true := by simpa [okE] using h.2
    rw [k]
    exact ⟨_, toPys es, a1, b1, shaped_of a2 a3, shaped_of b2 b3, q _ G H R (L2.Same.refl _) (by rw [any_py h.1 h3]; rfl)⟩
  · cases hg

/-! ### and, or, not, if -/
structure JW (X : Cx) (T : Tab) (W : WX) (e : Expr) (f : TF) : Prop where
  k : X.K = T.K
  run : PW X e (tT T W f)
theorem pw_imp {X : Cx} {e : Expr} {t t' : TT} (h : PW X e t) (hi : ∀ σ H Q, t' σ H Q → t σ H Q) : PW X e t' := ⟨fun wh pins s σ H Q I q => h.run wh pins s σ H Q I (hi _ _ _ q)⟩
theorem JW.jt {e : Expr} {f : TF} (h : JW X T W e f) : JT X T W e f := ⟨h.k, h.run.pt⟩
theorem j_and1 {a : Expr} {pos : Pos} {f : TF} (h : JT X T W a f) : JW X T W (.BoolOp .And [a] pos) f := ⟨h.k, pw_and1 h.run⟩
theorem j_or1 {a : Expr} {pos : Pos} {f : TF} (h : JT X T W a f) : JW X T W (.BoolOp .Or [a] pos) f := ⟨h.k, pw_or1 h.run⟩
def tAndJ (f g : TF) : TF := fun ρ => (f ρ).bnd fun b ρ' => if b = true then g ρ' else .ok false ρ'
def tOrJ (f g : TF) : TF := fun ρ => (f ρ).bnd fun b ρ' => if b = true then .ok true ρ' else g ρ'
def tNotJ (f : TF) : TF := fun ρ => (f ρ).bnd fun b ρ' => .ok (!b) ρ'
theorem j_and {a b : Expr} {rest : List Expr} {pos : Pos} {f g : TF} (h : JT X T W a f) (h' : JW X T W (.BoolOp .And (b :: rest) pos) g) : JW X T W (.BoolOp .And (a :: b :: rest) pos) (tAndJ f g) := by
  refine ⟨h.k, pw_imp (pw_and h.run h'.run) fun σ H Q q => ?_⟩
  obtain ⟨U, G, ρ, R, q⟩ := q
  refine ⟨U, G, ρ, R, (Pst.bnd q).mono (L2.Same.refl _) fun b G' H' ρ' _ ⟨R', s, p⟩ => ?_⟩
  cases b with
  | true => exact ⟨U, G', ρ', R', p⟩
  | false => exact p G' H' R' (L2.Same.refl _)
theorem j_or {a b : Expr} {rest : List Expr} {pos : Pos} {f g : TF} (h : JT X T W a f) (h' : JW X T W (.BoolOp .Or (b :: rest) pos) g) : JW X T W (.BoolOp .Or (a :: b :: rest) pos) (tOrJ f g) := by
  refine ⟨h.k, pw_imp (pw_or h.run h'.run) fun σ H Q q => ?_⟩
  obtain ⟨U, G, ρ, R, q⟩ := q
  refine ⟨U, G, ρ, R, (Pst.bnd q).mono (L2.Same.refl _) fun b G' H' ρ' _ ⟨R', s, p⟩ => ?_⟩
  cases b with
  | true => exact p G' H' R' (L2.Same.refl _)
  | false => exact ⟨U, G', ρ', R', p⟩
theorem j_not {a : Expr} {pos : Pos} {f : TF} (h : JT X T W a f) : JT X T W (.UnaryOp .Not a pos) (tNotJ f) := by
  refine ⟨h.k, pt_imp (pt_not h.run) fun σ H Q q => ?_⟩
  obtain ⟨U, G, ρ, R, q⟩ := q
  exact ⟨U, G, ρ, R, (Pst.bnd q).mono (L2.Same.refl _) fun b G' H' ρ' _ ⟨R', s, p⟩ => p G' H' R' (L2.Same.refl _)⟩
/-- .. as values -/
def eBl (f : TF) : EF := fun ρ => (f ρ).bnd fun b ρ' => .ok (.bl b) ρ'
def eAndJ (f g : EF) : EF := fun ρ => (f ρ).bnd fun d ρ' => match d with
  | .bl true => g ρ'
  | .bl false => .ok (.bl false) ρ'
  | _ => .bad
def eOrJ (f g : EF) : EF := fun ρ => (f ρ).bnd fun d ρ' => match d with
  | .bl true => .ok (.bl true) ρ'
  | .bl false => g ρ'
  | _ => .bad
def eNotJ (f : EF) : EF := fun ρ => (f ρ).bnd fun d ρ' => match d with
  | .bl b => .ok (.bl (!b)) ρ'
  | _ => .bad
theorem j_one {op} {a : Expr} {pos : Pos} {f : EF} (h : JE X T W a f) : JE X T W (.BoolOp op [a] pos) f := ⟨h.k, pe_one h.run⟩
theorem j_vand {a b : Expr} {rest : List Expr} {pos : Pos} {f g : EF} (h : JE X T W a f) (h' : JE X T W (.BoolOp .And (b :: rest) pos) g) : JE X T W (.BoolOp .And (a :: b :: rest) pos) (eAndJ f g) := by
  refine ⟨h.k, pe_imp (pe_and h.run h'.run) fun σ H Q q => ?_⟩
  obtain ⟨U, G, ρ, R, q⟩ := q
  refine ⟨U, G, ρ, R, (Pst.bnd q).mono (L2.Same.refl _) fun d G' H' ρ' _ ⟨R', s, p⟩ v r => ?_⟩
  cases d with
  | bl b =>
    have e : v = .bl b := r
    refine ⟨b, e, ?_⟩
    cases b with
    | true => exact ⟨U, G', ρ', R', p⟩
    | false => exact p G' H' R' (L2.Same.refl _) (.bl false) rfl
  | _ => exact p.elim
theorem j_vor {a b : Expr} {rest : List Expr} {pos : Pos} {f g : EF} (h : JE X T W a f) (h' : JE X T W (.BoolOp .Or (b :: rest) pos) g) : JE X T W (.BoolOp .Or (a :: b :: rest) pos) (eOrJ f g) := by
  refine ⟨h.k, pe_imp (pe_or h.run h'.run) fun σ H Q q => ?_⟩
  obtain ⟨U, G, ρ, R, q⟩ := q
  refine ⟨U, G, ρ, R, (Pst.bnd q).mono (L2.Same.refl _) fun d G' H' ρ' _ ⟨R', s, p⟩ v r => ?_⟩
  cases d with
  | bl b =>
    have e : v = .bl b := r
    refine ⟨b, e, ?_⟩
    cases b with
    | true => exact p G' H' R' (L2.Same.refl _) (.bl true) rfl
    | false => exact ⟨U, G', ρ', R', p⟩
  | _ => exact p.elim
theorem j_vnot {a : Expr} {pos : Pos} {f : EF} (h : JE X T W a f) : JE X T W (.UnaryOp .Not a pos) (eNotJ f) := by
  refine ⟨h.k, pe_imp (pe_not h.run) fun σ H Q q => ?_⟩
  obtain ⟨U, G, ρ, R, q⟩ := q
  refine ⟨U, G, ρ, R, (Pst.bnd q).mono (L2.Same.refl _) fun d G' H' ρ' _ ⟨R', s, p⟩ v r => ?_⟩
  cases d with
  | bl b =>
    have e : v = .bl b := r
    exact ⟨b, e, p G' H' R' (L2.Same.refl _) (.bl (!b)) rfl⟩
  | _ => exact p.elim
def eIf (t : TF) (f g : EF) : EF := fun ρ => (t ρ).bnd fun b ρ' => if b = true then f ρ' else g ρ'
theorem j_if {c a b : Expr} {pos : Pos} {t : TF} {f g : EF} (hc : JT X T W c t) (ha : JE X T W a f) (hb : JE X T W b g) : JE X T W (.IfExp c a b pos) (eIf t f g) := by
  refine ⟨hc.k, pe_imp (pe_ifExp hc.run ha.run hb.run) fun σ H Q q => ?_⟩
  obtain ⟨U, G, ρ, R, q⟩ := q
  refine ⟨U, G, ρ, R, (Pst.bnd q).mono (L2.Same.refl _) fun b G' H' ρ' _ ⟨R', s, p⟩ => ?_⟩
  cases b with
  | true => exact ⟨U, G', ρ', R', p⟩
  | false => exact ⟨U, G', ρ', R', p⟩
def f1 (g : D → Option D) (fa : En → Rs Ar) : EF := fun ρ => (fa ρ).bnd fun a ρ1 => match look ρ1 a with
  | some d => opt (g d) ρ1
  | none => .bad
def negD : D → Option D
  | .int i => some (.int (-i))
  | _ => none
theorem j_neg {a : Expr} {pos : Pos} {fa : En → Rs Ar} (ha : JR X T W a fa) : JE X T W (.UnaryOp .USub a pos) (f1 negD fa) := by
  refine ⟨ha.k, pe_imp (pe_un un_neg ha.run) fun σ H Q q => ?_⟩
  obtain ⟨U, G, ρ, R, q⟩ := q
  refine ⟨U, G, ρ, R, (Pst.bnd q).mono (L2.Same.refl _) fun a G' H' ρ' _ ⟨R', s, p⟩ v av => ?_⟩
  cases e : look ρ' a with
  | none => rw [e] at p; exact p.elim
  | some d =>
    rw [e] at p
    have rv := look_ok R' av e
    cases d with
    | int i => exact ⟨i, rv.int, p G' H' R' (L2.Same.refl _) _ rfl⟩
    | _ => exact p.elim
end
end J

set_option Elab.async false
set_option linter.all false
set_option maxRecDepth 100000
set_option maxHeartbeats 4000000
namespace J
open PySem PySem.Spec PyProof.Rows L2

/-! ### arguments -/
section
variable {X : Cx} {T : Tab} {W : WX}
def aNil : AF := fun ρ => .ok [] ρ
def aCons (f : En → Rs Ar) (g : AF) : AF := fun ρ => (f ρ).bnd fun a ρ1 => (g ρ1).bnd fun as ρ2 => .ok (a :: as) ρ2
theorem ja_nil (k : X.K = T.K) : JA X T W [] aNil := by
  refine ⟨k, fun ρ as ρ' h => (by cases h; rfl), pa_imp pa_nil fun σ H Q q => ?_⟩
  obtain ⟨U, G, ρ, R, q⟩ := q
  exact q G H R (L2.Same.refl _) [] True.intro
theorem ja_cons {e : Expr} {es : List Expr} {f : En → Rs Ar} {g : AF} (h : JR X T W e f) (h' : JA X T W es g) (hs : starEach (e :: es) X.env = (false, eval e X.env) :: starEach es X.env := by rfl) : JA X T W (e :: es) (aCons f g) := by
  refine ⟨h.k, fun ρ as ρ' e => ?_, pa_imp (pa_cons h.run h'.run hs) fun σ H Q q => ?_⟩
  · unfold aCons at e
    cases e1 : f ρ with
    | ok a ρ1 =>
      rw [e1] at e
      cases e2 : g ρ1 with
      | ok as2 ρ2 =>
        have e : (g ρ1).bnd (fun as ρ2 => .ok (a :: as) ρ2) = .ok as ρ' := e
        rw [e2] at e
        cases e
        simp [h'.len _ _ _ e2]
      | ex _ _ _ _ =>
        have e : (g ρ1).bnd (fun as ρ2 => .ok (a :: as) ρ2) = .ok as ρ' := e
        rw [e2] at e; cases e
      | bad =>
        have e : (g ρ1).bnd (fun as ρ2 => .ok (a :: as) ρ2) = .ok as ρ' := e
        rw [e2] at e; cases e
    | ex _ _ _ _ => rw [e1] at e; cases e
    | bad => rw [e1] at e; cases e
  obtain ⟨U, G, ρ, R, q⟩ := q
  refine ⟨U, G, ρ, R, (Pst.bnd q).mono (L2.Same.refl _) fun a G1 H1 ρ1 _ ⟨R1, s1, p1⟩ v av => ?_⟩
  refine ⟨U, G1, ρ1, R1, (Pst.bnd p1).mono (L2.Same.refl _) fun as G2 H2 ρ2 _ ⟨R2, s2, p2⟩ vs avs => ?_⟩
  exact p2 G2 H2 R2 (L2.Same.refl _) (v :: vs) ⟨av.mono s2, avs⟩
def looks (ρ : En) : List Ar → Option (List D)
  | [] => some []
  | a :: as => match look ρ a, looks ρ as with
    | some d, some ds => some (d :: ds)
    | _, _ => none
@[simp] theorem looks_nil (ρ : En) : looks ρ [] = some [] := rfl
@[simp] theorem looks_cons (ρ : En) (a : Ar) (as : List Ar) : looks ρ (a :: as) = (match look ρ a, looks ρ as with | some d, some ds => some (d :: ds) | _, _ => none) := rfl
def RepHs (T : Tab) (G H : Hp) : List V → List D → Prop
  | [], [] => True
  | v :: vs, d :: ds => RepH T G H v d ∧ RepHs T G H vs ds
  | _, _ => False
theorem looks_ok {U G H : Hp} {σ : L2.St} {ρ : En} (R : Rel T U G H σ ρ) : ∀ {as : List Ar} {vs : List V} {ds : List D}, ArsOk T G σ vs as → looks ρ as = some ds → RepHs T G H vs ds
  | [], [], ds, _, e => by cases e; exact True.intro
  | [], _ :: _, _, h, _ => h.elim
  | _ :: _, [], _, h, _ => h.elim
  | a :: as, v :: vs, ds, h, e => by
    rw [looks_cons] at e
    cases e1 : look ρ a with
    | none => rw [e1] at e; cases e
    | some d =>
      cases e2 : looks ρ as with
      | none => rw [e1, e2] at e; cases e
      | some es =>
        rw [e1, e2] at e
        cases e
        exact ⟨look_ok R h.1 e1, looks_ok R h.2 e2⟩
/-- all of them values -/
def vals : List Ar → Option (List D)
  | [] => some []
  | .v d :: as => (vals as).map (d :: ·)
  | .s _ :: _ => none
@[simp] theorem vals_nil : vals [] = some [] := rfl
@[simp] theorem vals_cons (d : D) (as : List Ar) : vals (.v d :: as) = (vals as).map (d :: ·) := rfl
theorem vals_ok {G : Hp} {σ : L2.St} : ∀ {as : List Ar} {vs : List V} {ds : List D}, ArsOk T G σ vs as → vals as = some ds → Reps T G vs ds
  | [], [], ds, _, e => by cases e; rfl
  | [], _ :: _, _, h, _ => h.elim
  | _ :: _, [], _, h, _ => h.elim
  | .s _ :: as, v :: vs, ds, h, e => by cases e
  | .v d :: as, v :: vs, ds, h, e => by
    rw [vals_cons] at e
    cases e2 : vals as with
    | none => rw [e2] at e; cases e
    | some es =>
      rw [e2] at e
      cases e
      exact ⟨v, vs, rfl, h.1, vals_ok h.2 e2⟩

/-! ### new objects -/
theorem Rel.fresh {U G H : Hp} {σ : L2.St} {ρ : En} {p : Addr} {o : HO} (R : Rel T U G H σ ρ) (h : H p = none) : Rel T U G (upd H p o) σ ρ ∧ ∀ (i : Nat) (d : D), ρ[i]? = some (.ow d) → σ[i]? ≠ some (some (.ref p)) := by
  have e : unheld (upd U p o) p = U := by
    funext b
    by_cases hb : b = p
    · subst hb; rw [unheld_same, R.ufree h]
    · rw [unheld_ne hb, upd_ne hb]
  refine ⟨e ▸ (R.hold (o := o) h).unhold (p := p), fun i d e1 e2 => ?_⟩
  obtain ⟨a, q, e3, _, _, hh, _⟩ := R.ow i d e1
  rw [e2] at e3
  cases e3
  rw [h] at hh; cases hh
/-- an owned result, frozen -/
theorem j_frz {e : Expr} {f : EF} (h : JO X T W e f) : JE X T W e f := by
  refine ⟨h.k, pe_imp h.run fun σ H Q q => ?_⟩
  obtain ⟨U, G, ρ, R, q⟩ := q
  refine ⟨U, G, ρ, R, ?_⟩
  cases hf : f ρ with
  | ok d ρ' =>
    rw [hf] at q
    intro G' H' R' s p o g u hh r hn
    have s2 := same_upd (o := o) g
    exact q _ H' (R'.freeze u g hh hn) (s.trans s2) (.ref p) ((r.mono s2).rep upd_same)
  | ex c ns vs ρ' => rw [hf] at q; exact q
  | bad => rw [hf] at q; exact q
theorem ars_len {G : Hp} {σ : L2.St} : ∀ {as : List Ar} {vs : List V}, ArsOk T G σ vs as → vs.length = as.length
  | [], [], _ => rfl
  | [], _ :: _, h => h.elim
  | _ :: _, [], h => h.elim
  | _ :: as, _ :: vs, h => by simp [ars_len h.2]
def eSeq (c : List D → D) (f : AF) : EF := fun ρ => (f ρ).bnd fun as ρ' => opt ((vals as).map c) ρ'
theorem seq_run {es : List Expr} {f : AF} {c : List D → D} {Q : VK} {Q' : V → Hp → Hp → En → Prop} (h : JA X T W es f) (hl : es.length ≤ 1000) {U G : Hp} {σ : L2.St} {ρ : En} {P : D → Hp → Hp → En → Prop} (q : Pst T U σ G (eSeq c f ρ) P W) :
    Pst T U σ G (f ρ) (fun as G' H' ρ' => ∀ vs, ArsOk T G' σ vs as → Rel T U G' H' σ ρ' ∧ vs.length ≤ 1000 ∧ ∃ ds, Reps T G' vs ds ∧ ∀ G2 H2, Rel T U G2 H2 σ ρ' → L2.Same G' G2 → P (c ds) G2 H2 ρ') W := by
  have q' := Pst.bnd q
  cases hf : f ρ with
  | ok as ρ' =>
    rw [hf] at q'
    intro G1 H1 R1 s1 vs avs
    obtain ⟨_, _, p⟩ := q' G1 H1 R1 s1
    obtain ⟨c', e, p⟩ := Pst.opt p
    cases e2 : vals as with
    | none => rw [e2] at e; cases e
    | some ds =>
      rw [e2] at e
      cases e
      refine ⟨R1, ?_, ds, vals_ok avs e2, p⟩
      rw [ars_len avs, h.len _ _ _ hf]
      exact hl
  | ex c ns vs ρ' => rw [hf] at q'; exact q'
  | bad => rw [hf] at q'; exact q'
theorem le_line {n : Nat} (h : n ≤ 1000) : n ≤ sizeLine := by rw [sizeLine_eq]; omega
theorem j_tup {es : List Expr} {f : AF} {x1} {pos : Pos} (h : JA X T W es f) (hl : es.length ≤ 1000 := by decide) : JE X T W (.Tuple es x1 pos) (eSeq .tup f) := by
  refine ⟨h.k, pe_imp (pe_tup h.run) fun σ H Q q => ?_⟩
  obtain ⟨U, G, ρ, R, q⟩ := q
  refine ⟨U, G, ρ, R, (seq_run (Q := Q) (Q' := fun _ _ _ _ => True) h hl q).mono (L2.Same.refl _) fun as G1 H1 ρ1 _ p vs avs => ?_⟩
  obtain ⟨R1, hz, ds, r, p⟩ := p vs avs
  refine ⟨le_line hz, fun l hl => ?_⟩
  have s := same_upd (o := .tup vs) (R1.gfree hl)
  exact p _ _ (R1.alloc hl) s _ ⟨l, vs, rfl, .of upd_same, r.mono s⟩
theorem j_lstO {es : List Expr} {f : AF} {pos : Pos} (h : JA X T W es f) (hl : es.length ≤ 1000 := by decide) : JO X T W (.List es pos) (eSeq .lst f) := by
  refine ⟨h.k, pe_imp (pe_lst h.run) fun σ H Q q => ?_⟩
  obtain ⟨U, G, ρ, R, q⟩ := q
  refine ⟨U, G, ρ, R, (seq_run (Q := Q) (Q' := fun _ _ _ _ => True) h hl q).mono (L2.Same.refl _) fun as G1 H1 ρ1 _ p vs avs => ?_⟩
  obtain ⟨R1, hz, ds, r, p⟩ := p vs avs
  refine ⟨le_line hz, fun l hl => ?_⟩
  obtain ⟨R2, hn⟩ := R1.fresh (o := .lst vs) hl
  exact p _ _ R2 (L2.Same.refl _) l _ (R1.gfree hl) (R1.ufree hl) upd_same ⟨vs, rfl, r⟩ hn
end

/-! ### built-in functions -/
section
variable {X : Cx} {T : Tab} {W : WX}
/-- a call by values, its answer a value -/
def OpL (T : Tab) (r : List V → Hp → VK → Prop) (g : List D → Option D) : Prop := ∀ U G H σ ρ xs ds c (Q : VK), Rel T U G H σ ρ → RepHs T G H xs ds → g ds = some c → (∀ v G' H', Rel T U G' H' σ ρ → L2.Same G G' → Rep T G' v c → Q v H') → r xs H Q
/-- .. a new object -/
def OpLO (T : Tab) (r : List V → Hp → VK → Prop) (g : List D → Option D) : Prop := ∀ U G H σ ρ xs ds c (Q : VK), Rel T U G H σ ρ → RepHs T G H xs ds → g ds = some c →
  (∀ p o G' H', Rel T U G' H' σ ρ → L2.Same G G' → G' p = none → U p = none → H' p = some o → RepO T G' o c → (∀ (i : Nat) (d : D), ρ[i]? = some (.ow d) → σ[i]? ≠ some (some (.ref p))) → Q (.ref p) H') → r xs H Q
def eCallB (g : List D → Option D) (f : AF) : EF := fun ρ => (f ρ).bnd fun as ρ' => match looks ρ' as with
  | some ds => opt (g ds) ρ'
  | none => .bad
theorem callB_run {r : List V → Hp → VK → Prop} {g : List D → Option D} {f : AF} (hg : OpL T r g) : ∀ σ H Q, tE T W (eCallB g f) σ H Q → tCB r (tA T W f) σ H Q := by
  intro σ H Q q
  obtain ⟨U, G, ρ, R, q⟩ := q
  refine ⟨U, G, ρ, R, (Pst.bnd q).mono (L2.Same.refl _) fun as G1 H1 ρ1 _ ⟨R1, s1, p⟩ vs avs => ?_⟩
  cases e : looks ρ1 as with
  | none => rw [e] at p; exact p.elim
  | some ds =>
    rw [e] at p
    obtain ⟨c, e2, p⟩ := Pst.opt p
    exact hg U G1 H1 σ ρ1 vs ds c Q R1 (looks_ok R1 avs e) e2 fun v G' H' R' s' r' => p G' H' R' s' v r'
theorem callO_run {r : List V → Hp → VK → Prop} {g : List D → Option D} {f : AF} (hg : OpLO T r g) : ∀ σ H Q, tO T W (eCallB g f) σ H Q → tCB r (tA T W f) σ H Q := by
  intro σ H Q q
  obtain ⟨U, G, ρ, R, q⟩ := q
  refine ⟨U, G, ρ, R, (Pst.bnd q).mono (L2.Same.refl _) fun as G1 H1 ρ1 _ ⟨R1, s1, p⟩ vs avs => ?_⟩
  cases e : looks ρ1 as with
  | none => rw [e] at p; exact p.elim
  | some ds =>
    rw [e] at p
    obtain ⟨c, e2, p⟩ := Pst.opt p
    exact hg U G1 H1 σ ρ1 vs ds c Q R1 (looks_ok R1 avs e) e2 fun v o G' H' R' s' g u hh r' hn => p G' H' R' s' v o g u hh r' hn
variable {x : Str} {p pos : Pos} {e : Expr} {es : List Expr} {f : AF} {id ty : String} {r : List V → Hp → VK → Prop} {g : List D → Option D}
theorem j_callB (hc : CallR X (.builtin id) r) (hg : OpL T r g) (ha : JA X T W (e :: es) f) (hm : X.mg x = none) (hv : bootBuiltins x = some (.builtin id)) (hgl : Gl X x := by rfl) (hn : x ≠ "__name__" := by decide) (hdb : (x == ("__debug__" : Str)) = false := by decide)
    (he : starEach (e :: es) X.env = (false, eval e X.env) :: starEach es X.env := by rfl) (hpl : (backTo pos (starEach es X.env)).any (·.1) = false := by rfl) : JE X T W (.Call (.Name x p) (e :: es) [] pos) (eCallB g f) :=
  ⟨ha.k, pe_imp (pe_callB hc hgl hm hv ha.run hn hdb he hpl) (callB_run hg)⟩
theorem j_callT (hc : CallR X (.type ty) r) (hg : OpL T r g) (ha : JA X T W (e :: es) f) (hm : X.mg x = none) (hv : bootBuiltins x = some (.type ty)) (hgl : Gl X x := by rfl) (hn : x ≠ "__name__" := by decide) (hdb : (x == ("__debug__" : Str)) = false := by decide)
    (he : starEach (e :: es) X.env = (false, eval e X.env) :: starEach es X.env := by rfl) (hpl : (backTo pos (starEach es X.env)).any (·.1) = false := by rfl) : JE X T W (.Call (.Name x p) (e :: es) [] pos) (eCallB g f) :=
  ⟨ha.k, pe_imp (pe_callTy hc hgl hm hv ha.run hn hdb he hpl) (callB_run hg)⟩
theorem j_callBO (hc : CallR X (.builtin id) r) (hg : OpLO T r g) (ha : JA X T W (e :: es) f) (hm : X.mg x = none) (hv : bootBuiltins x = some (.builtin id)) (hgl : Gl X x := by rfl) (hn : x ≠ "__name__" := by decide) (hdb : (x == ("__debug__" : Str)) = false := by decide)
    (he : starEach (e :: es) X.env = (false, eval e X.env) :: starEach es X.env := by rfl) (hpl : (backTo pos (starEach es X.env)).any (·.1) = false := by rfl) : JO X T W (.Call (.Name x p) (e :: es) [] pos) (eCallB g f) :=
  ⟨ha.k, pe_imp (pe_callB hc hgl hm hv ha.run hn hdb he hpl) (callO_run hg)⟩
theorem j_callTO (hc : CallR X (.type ty) r) (hg : OpLO T r g) (ha : JA X T W (e :: es) f) (hm : X.mg x = none) (hv : bootBuiltins x = some (.type ty)) (hgl : Gl X x := by rfl) (hn : x ≠ "__name__" := by decide) (hdb : (x == ("__debug__" : Str)) = false := by decide)
    (he : starEach (e :: es) X.env = (false, eval e X.env) :: starEach es X.env := by rfl) (hpl : (backTo pos (starEach es X.env)).any (·.1) = false := by rfl) : JO X T W (.Call (.Name x p) (e :: es) [] pos) (eCallB g f) :=
  ⟨ha.k, pe_imp (pe_callTy hc hgl hm hv ha.run hn hdb he hpl) (callO_run hg)⟩

theorem RepHs.one {G H : Hp} {xs : List V} {d : D} (h : RepHs T G H xs [d]) : ∃ x, xs = [x] ∧ RepH T G H x d := by
  match xs, h with
  | [x], h => exact ⟨x, rfl, h.1⟩
  | [], h => exact h.elim
  | _ :: _ :: _, h => exact h.2.elim
theorem RepHs.two {G H : Hp} {xs : List V} {d e : D} (h : RepHs T G H xs [d, e]) : ∃ x y, xs = [x, y] ∧ RepH T G H x d ∧ RepH T G H y e := by
  match xs, h with
  | [x, y], h => exact ⟨x, y, rfl, h.1, h.2.1⟩
  | [], h => exact h.elim
  | [_], h => exact h.2.elim
  | _ :: _ :: _ :: _, h => exact h.2.2.elim
/-- one argument -/
def on1 (g : D → Option D) : List D → Option D
  | [d] => g d
  | _ => none
def on2 (g : D → D → Option D) : List D → Option D
  | [d, e] => g d e
  | _ => none
@[simp] theorem on1_one (g : D → Option D) (d : D) : on1 g [d] = g d := rfl
@[simp] theorem on2_two (g : D → D → Option D) (d e : D) : on2 g [d, e] = g d e := rfl
theorem opL_1 {r : List V → Hp → VK → Prop} {g : D → Option D} (h : ∀ U G H σ ρ x d c (Q : VK), Rel T U G H σ ρ → RepH T G H x d → g d = some c → (∀ v G' H', Rel T U G' H' σ ρ → L2.Same G G' → Rep T G' v c → Q v H') → r [x] H Q) : OpL T r (on1 g) := by
  intro U G H σ ρ xs ds c Q R rx hg q
  match ds, rx, hg with
  | [d], rx, hg =>
    obtain ⟨x, rfl, rx'⟩ := rx.one
    exact h U G H σ ρ x d c Q R rx' hg q
  | [], _, hg => cases hg
  | _ :: _ :: _, _, hg => cases hg
theorem opL_2 {r : List V → Hp → VK → Prop} {g : D → D → Option D} (h : ∀ U G H σ ρ x y d e c (Q : VK), Rel T U G H σ ρ → RepH T G H x d → RepH T G H y e → g d e = some c → (∀ v G' H', Rel T U G' H' σ ρ → L2.Same G G' → Rep T G' v c → Q v H') → r [x, y] H Q) : OpL T r (on2 g) := by
  intro U G H σ ρ xs ds c Q R rx hg q
  match ds, rx, hg with
  | [d, e], rx, hg =>
    obtain ⟨x, y, rfl, rx', ry'⟩ := rx.two
    exact h U G H σ ρ x y d e c Q R rx' ry' hg q
  | [], _, hg => cases hg
  | [_], _, hg => cases hg
  | _ :: _ :: _ :: _, _, hg => cases hg
theorem opLO_1 {r : List V → Hp → VK → Prop} {g : D → Option D} (h : ∀ U G H σ ρ x d c (Q : VK), Rel T U G H σ ρ → RepH T G H x d → g d = some c →
    (∀ p o G' H', Rel T U G' H' σ ρ → L2.Same G G' → G' p = none → U p = none → H' p = some o → RepO T G' o c → (∀ (i : Nat) (d : D), ρ[i]? = some (.ow d) → σ[i]? ≠ some (some (.ref p))) → Q (.ref p) H') → r [x] H Q) : OpLO T r (on1 g) := by
  intro U G H σ ρ xs ds c Q R rx hg q
  match ds, rx, hg with
  | [d], rx, hg =>
    obtain ⟨x, rfl, rx'⟩ := rx.one
    exact h U G H σ ρ x d c Q R rx' hg q
  | [], _, hg => cases hg
  | _ :: _ :: _, _, hg => cases hg
/-- a new list -/
theorem mkList {U G H : Hp} {σ : L2.St} {ρ : En} {Q : VK} {c : List D} {vs : List V} (R : Rel T U G H σ ρ) (r : Reps T G vs c)
    (q : ∀ p o G' H', Rel T U G' H' σ ρ → L2.Same G G' → G' p = none → U p = none → H' p = some o → RepO T G' o (.lst c) → (∀ (i : Nat) (d : D), ρ[i]? = some (.ow d) → σ[i]? ≠ some (some (.ref p))) → Q (.ref p) H') : ∀ p, H p = none → Q (.ref p) (upd H p (.lst vs)) := fun l hl => by
  obtain ⟨R2, hn⟩ := R.fresh (o := .lst vs) hl
  exact q l _ G _ R2 (L2.Same.refl _) (R.gfree hl) (R.ufree hl) upd_same ⟨vs, rfl, r⟩ hn
theorem mkTup {U G H : Hp} {σ : L2.St} {ρ : En} {Q : VK} {c : List D} {vs : List V} (R : Rel T U G H σ ρ) (r : Reps T G vs c)
    (q : ∀ v G' H', Rel T U G' H' σ ρ → L2.Same G G' → Rep T G' v (.tup c) → Q v H') : ∀ p, H p = none → Q (.ref p) (upd H p (.tup vs)) := fun l hl => by
  have s := same_upd (o := .tup vs) (R.gfree hl)
  exact q _ _ _ (R.alloc hl) s ⟨l, vs, rfl, .of upd_same, r.mono s⟩

def lenD : D → Option D
  | .str s => some (.int s.length)
  | .tup ds => some (.int ds.length)
  | .lst ds => some (.int ds.length)
  | .scr ds => some (.int ds.length)
  | .dct ks _ => some (.int ks.length)
  | _ => none
theorem len_J (k : X.K = T.K) : OpL T (fun xs H Q => (∃ x n, xs = [x] ∧ LenV X.K x H n ∧ Q (.int n) H) ∨ ∃ a kvs, xs = [V.ref a] ∧ H a = some (.dK kvs) ∧ Q (.int kvs.length) H) (on1 lenD) := opL_1 fun U G H σ ρ x d c Q R rx hg q => by
  rw [k]
  cases d <;> simp only [lenD] at hg <;> first | (cases hg; done) | skip
  · cases hg
    obtain ⟨rfl, o⟩ := rx.str
    exact .inl ⟨_, _, rfl, ⟨o.1, rfl⟩, q _ G H R (L2.Same.refl _) rfl⟩
  · cases hg
    obtain ⟨a, xs, rfl, h, _, r⟩ := rx.tup R.same
    exact .inl ⟨_, xs.length, rfl, .inr ⟨xs, h, rfl⟩, q _ G H R (L2.Same.refl _) (by rw [r.length]; rfl)⟩
  · cases hg
    obtain ⟨a, xs, rfl, h, r⟩ := rx.lst R.same
    exact .inl ⟨_, xs.length, rfl, .inl ⟨xs, .of h, rfl⟩, q _ G H R (L2.Same.refl _) (by rw [r.length]; rfl)⟩
  · cases hg
    obtain ⟨a, kk, rfl, h, e, _, r⟩ := rx.dct R.same
    rename_i ks vs nd
    have hl : kk.length = ks.length := by have := congrArg List.length e; simpa using this
    exact .inr ⟨a, kk, rfl, h, q _ G H R (L2.Same.refl _) (show V.int _ = V.int _ by rw [hl])⟩
  · cases hg
    obtain ⟨a, xs, rfl, h, r⟩ := rx.scr R.same
    exact .inl ⟨_, xs.length, rfl, .inl ⟨xs, h, rfl⟩, q _ G H R (L2.Same.refl _) (by rw [r.length]; rfl)⟩
theorem j_len (ha : JA X T W [e] f) (hm : X.mg "len" = none) (hgl : Gl X "len" := by rfl) (he : starEach [e] X.env = (false, eval e X.env) :: starEach [] X.env := by rfl) : JE X T W (.Call (.Name "len" p) [e] [] pos) (eCallB (on1 lenD) f) :=
  j_callB (CallR.or call_len call_lenD) (len_J ha.k) ha hm PySem.boot_len hgl (by decide) (by decide) he rfl
def absD : D → Option D
  | .int i => some (.int (if i < 0 then -i else i))
  | _ => none
theorem abs_J : OpL T (fun xs H Q => ∃ i, xs = [.int i] ∧ Q (.int (if i < 0 then -i else i)) H) (on1 absD) := opL_1 fun U G H σ ρ x d c Q R rx hg q => by
  cases d <;> simp only [absD] at hg <;> first | (cases hg; done) | skip
  cases hg
  exact ⟨_, by rw [rx.int], q _ G H R (L2.Same.refl _) rfl⟩
def intD : D → Option D
  | .int i => some (.int i)
  | .bl b => some (.int (if b then 1 else 0))
  | _ => none
theorem int_J : OpL T (fun xs H Q => (∃ i, xs = [.int i] ∧ Q (.int i) H) ∨ ∃ k, xs = [.bl k] ∧ Q (.int (if k then 1 else 0)) H) (on1 intD) := opL_1 fun U G H σ ρ x d c Q R rx hg q => by
  cases d <;> simp only [intD] at hg <;> first | (cases hg; done) | skip
  · cases hg
    exact .inr ⟨_, by rw [rx.bl], q _ G H R (L2.Same.refl _) rfl⟩
  · cases hg
    exact .inl ⟨_, by rw [rx.int], q _ G H R (L2.Same.refl _) rfl⟩
/-- tuple(x) -/
def tupD : D → Option D
  | .tup ds => some (.tup ds)
  | .lst ds => some (.tup ds)
  | _ => none
theorem tup_J (k : X.K = T.K) : OpL T (fun xs H Q => ∃ p ys, xs = [.ref p] ∧ ((SqL X.K H p ys ∧ ∀ l, H l = none → Q (.ref l) (upd H l (.tup ys))) ∨ (SqT X.K H p ys ∧ Q (.ref p) H))) (on1 tupD) := opL_1 fun U G H σ ρ x d c Q R rx hg q => by
  rw [k]
  cases d <;> simp only [tupD] at hg <;> first | (cases hg; done) | skip
  · cases hg
    obtain ⟨a, xs, rfl, h, hG, r⟩ := rx.tup R.same
    exact ⟨a, xs, rfl, .inr ⟨h, q _ G H R (L2.Same.refl _) ⟨a, xs, rfl, hG, r⟩⟩⟩
  · cases hg
    obtain ⟨a, xs, rfl, h, r⟩ := rx.lst R.same
    exact ⟨a, xs, rfl, .inl ⟨.of h, mkTup R r q⟩⟩
/-- list(x) -/
def lstD : D → Option D
  | .tup ds => some (.lst ds)
  | .lst ds => some (.lst ds)
  | _ => none
theorem lst_J (k : X.K = T.K) : OpLO T (fun xs H Q => ∃ p ys, xs = [.ref p] ∧ (SqL X.K H p ys ∨ SqT X.K H p ys) ∧ ∀ l, H l = none → Q (.ref l) (upd H l (.lst ys))) (on1 lstD) := opLO_1 fun U G H σ ρ x d c Q R rx hg q => by
  rw [k]
  cases d <;> simp only [lstD] at hg <;> first | (cases hg; done) | skip
  · cases hg
    obtain ⟨a, xs, rfl, h, hG, r⟩ := rx.tup R.same
    exact ⟨a, xs, rfl, .inr h, mkList R r q⟩
  · cases hg
    obtain ⟨a, xs, rfl, h, r⟩ := rx.lst R.same
    exact ⟨a, xs, rfl, .inl (.of h), mkList R r q⟩
/-- lists of ints, of truths -/
def intsD : List D → Option (List Int)
  | [] => some []
  | .int i :: r => (intsD r).map (i :: ·)
  | _ => none
theorem ints_ok {G : Hp} : ∀ {ds : List D} {xs : List V} {ns : List Int}, Reps T G xs ds → intsD ds = some ns → xs = ns.map V.int
  | [], _, _, r, e => by cases e; exact r
  | d :: ds, _, ns, ⟨x, r, ex, rx, rr⟩, e => by
    cases d <;> simp only [intsD] at e <;> first | (cases e; done) | skip
    rename_i i
    cases e2 : intsD ds with
    | none => rw [e2] at e; cases e
    | some ms =>
      rw [e2] at e
      cases e
      rw [ex, ints_ok rr e2, show x = .int i from rx]; rfl
def blsD : List D → Option (List Bool)
  | [] => some []
  | .bl i :: r => (blsD r).map (i :: ·)
  | _ => none
theorem bls_ok {G : Hp} : ∀ {ds : List D} {xs : List V} {ns : List Bool}, Reps T G xs ds → blsD ds = some ns → xs = ns.map V.bl
  | [], _, _, r, e => by cases e; exact r
  | d :: ds, _, ns, ⟨x, r, ex, rx, rr⟩, e => by
    cases d <;> simp only [blsD] at e <;> first | (cases e; done) | skip
    rename_i i
    cases e2 : blsD ds with
    | none => rw [e2] at e; cases e
    | some ms =>
      rw [e2] at e
      cases e
      rw [ex, bls_ok rr e2, show x = .bl i from rx]; rfl
@[simp] theorem intsD_map (ns : List Int) : intsD (ns.map D.int) = some ns := by
  induction ns with
  | nil => rfl
  | cons a r ih => simp [intsD, ih]
@[simp] theorem blsD_map (ns : List Bool) : blsD (ns.map D.bl) = some ns := by
  induction ns with
  | nil => rfl
  | cons a r ih => simp [blsD, ih]
def onL {α : Type} (rd : List D → Option α) (g : α → Option D) : D → Option D
  | .lst ds => (rd ds).bind g
  | _ => none
def sumD : D → Option D := onL intsD fun ns => some (.int ns.sum)
theorem sum_J (k : X.K = T.K) : OpL T (rSum X.K) (on1 sumD) := opL_1 fun U G H σ ρ x d c Q R rx hg q => by
  rw [k]
  cases d <;> simp only [sumD, onL] at hg <;> first | (cases hg; done) | skip
  rename_i ds
  cases e : intsD ds with
  | none => rw [e] at hg; cases hg
  | some ns =>
    rw [e] at hg
    cases hg
    obtain ⟨a, xs, rfl, h, r⟩ := rx.lst R.same
    exact ⟨a, ns, rfl, .of (by rw [← ints_ok r e]; exact h), q _ G H R (L2.Same.refl _) rfl⟩
def maxL : List Int → Option Int
  | [] => none
  | a :: r => some (r.foldl max a)
def minL : List Int → Option Int
  | [] => none
  | a :: r => some (r.foldl min a)
theorem foldl_max (r : List Int) : ∀ a : Int, (a ≤ r.foldl max a ∧ ∀ y ∈ r, y ≤ r.foldl max a) ∧ (r.foldl max a = a ∨ r.foldl max a ∈ r) := by
  induction r with
  | nil => intro a; simp
  | cons b r ih =>
    intro a
    obtain ⟨⟨h1, h2⟩, h3⟩ := ih (max a b)
    refine ⟨⟨by simp only [List.foldl_cons]; omega, fun y hy => ?_⟩, ?_⟩
    · rcases List.mem_cons.mp hy with rfl | hy
      · simp only [List.foldl_cons]; omega
      · exact h2 y hy
    · simp only [List.foldl_cons]
      rcases h3 with h3 | h3
      · by_cases hab : a ≤ b
        · right; rw [h3, show max a b = b by omega]; exact List.mem_cons_self
        · left; rw [h3]; omega
      · right; exact List.mem_cons_of_mem _ h3
theorem foldl_min (r : List Int) : ∀ a : Int, (r.foldl min a ≤ a ∧ ∀ y ∈ r, r.foldl min a ≤ y) ∧ (r.foldl min a = a ∨ r.foldl min a ∈ r) := by
  induction r with
  | nil => intro a; simp
  | cons b r ih =>
    intro a
    obtain ⟨⟨h1, h2⟩, h3⟩ := ih (min a b)
    refine ⟨⟨by simp only [List.foldl_cons]; omega, fun y hy => ?_⟩, ?_⟩
    · rcases List.mem_cons.mp hy with rfl | hy
      · simp only [List.foldl_cons]; omega
      · exact h2 y hy
    · simp only [List.foldl_cons]
      rcases h3 with h3 | h3
      · by_cases hab : a ≤ b
        · left; rw [h3]; omega
        · right; rw [h3, show min a b = b by omega]; exact List.mem_cons_self
      · right; exact List.mem_cons_of_mem _ h3
theorem maxL_ok {ns : List Int} {m n : Int} (h : maxL ns = some m) (hn : n ∈ ns) (hh : ∀ y, y ∈ ns → y ≤ n) : n = m := by
  cases ns with
  | nil => cases h
  | cons a r =>
    cases h
    obtain ⟨⟨h1, h2⟩, h3⟩ := foldl_max r a
    have q : n ≤ r.foldl max a := by
      rcases List.mem_cons.mp hn with rfl | hn
      · exact h1
      · exact h2 n hn
    have q2 : r.foldl max a ≤ n := by
      rcases h3 with h3 | h3
      · rw [h3]; exact hh a List.mem_cons_self
      · exact hh _ (List.mem_cons_of_mem _ h3)
    omega
theorem minL_ok {ns : List Int} {m n : Int} (h : minL ns = some m) (hn : n ∈ ns) (hh : ∀ y, y ∈ ns → n ≤ y) : n = m := by
  cases ns with
  | nil => cases h
  | cons a r =>
    cases h
    obtain ⟨⟨h1, h2⟩, h3⟩ := foldl_min r a
    have q : r.foldl min a ≤ n := by
      rcases List.mem_cons.mp hn with rfl | hn
      · exact h1
      · exact h2 n hn
    have q2 : n ≤ r.foldl min a := by
      rcases h3 with h3 | h3
      · rw [h3]; exact hh a List.mem_cons_self
      · exact hh _ (List.mem_cons_of_mem _ h3)
    omega
def maxD : D → Option D := onL intsD fun ns => (maxL ns).map D.int
def minD : D → Option D := onL intsD fun ns => (minL ns).map D.int
theorem max_J (k : X.K = T.K) : OpL T (rMax X.K) (on1 maxD) := opL_1 fun U G H σ ρ x d c Q R rx hg q => by
  rw [k]
  cases d <;> simp only [maxD, onL] at hg <;> first | (cases hg; done) | skip
  rename_i ds
  cases e : intsD ds with
  | none => rw [e] at hg; cases hg
  | some ns =>
    rw [e] at hg
    simp only [Option.bind_some] at hg
    cases e2 : maxL ns with
    | none => rw [e2] at hg; cases hg
    | some m =>
      rw [e2] at hg
      cases hg
      obtain ⟨a, xs, rfl, h, r⟩ := rx.lst R.same
      refine ⟨a, ns, rfl, .of (by rw [← ints_ok r e]; exact h), by cases ns <;> simp_all [maxL], fun n h1 h2 => ?_⟩
      rw [maxL_ok e2 h1 h2]
      exact q _ G H R (L2.Same.refl _) rfl
theorem min_J (k : X.K = T.K) : OpL T (rMin X.K) (on1 minD) := opL_1 fun U G H σ ρ x d c Q R rx hg q => by
  rw [k]
  cases d <;> simp only [minD, onL] at hg <;> first | (cases hg; done) | skip
  rename_i ds
  cases e : intsD ds with
  | none => rw [e] at hg; cases hg
  | some ns =>
    rw [e] at hg
    simp only [Option.bind_some] at hg
    cases e2 : minL ns with
    | none => rw [e2] at hg; cases hg
    | some m =>
      rw [e2] at hg
      cases hg
      obtain ⟨a, xs, rfl, h, r⟩ := rx.lst R.same
      refine ⟨a, ns, rfl, .of (by rw [← ints_ok r e]; exact h), by cases ns <;> simp_all [minL], fun n h1 h2 => ?_⟩
      rw [minL_ok e2 h1 h2]
      exact q _ G H R (L2.Same.refl _) rfl
def max2D : D → D → Option D
  | .int i, .int j => some (.int (if j > i then j else i))
  | _, _ => none
def min2D : D → D → Option D
  | .int i, .int j => some (.int (if j < i then j else i))
  | _, _ => none
theorem max2_J : OpL T (fun xs H Q => ∃ i j, xs = [.int i, .int j] ∧ Q (.int (if j > i then j else i)) H) (on2 max2D) := opL_2 fun U G H σ ρ x y d e c Q R rx ry hg q => by
  cases d <;> cases e <;> simp only [max2D] at hg <;> first | (cases hg; done) | skip
  cases hg
  exact ⟨_, _, by rw [rx.int, ry.int], q _ G H R (L2.Same.refl _) rfl⟩
theorem min2_J : OpL T (fun xs H Q => ∃ i j, xs = [.int i, .int j] ∧ Q (.int (if j < i then j else i)) H) (on2 min2D) := opL_2 fun U G H σ ρ x y d e c Q R rx ry hg q => by
  cases d <;> cases e <;> simp only [min2D] at hg <;> first | (cases hg; done) | skip
  cases hg
  exact ⟨_, _, by rw [rx.int, ry.int], q _ G H R (L2.Same.refl _) rfl⟩
def anyD : D → Option D := onL blsD fun bs => some (.bl (bs.any _root_.id))
def allD : D → Option D := onL blsD fun bs => some (.bl (bs.all _root_.id))
theorem any_J (k : X.K = T.K) : OpL T (rAny X.K) (on1 anyD) := opL_1 fun U G H σ ρ x d c Q R rx hg q => by
  rw [k]
  cases d <;> simp only [anyD, onL] at hg <;> first | (cases hg; done) | skip
  rename_i ds
  cases e : blsD ds with
  | none => rw [e] at hg; cases hg
  | some ns =>
    rw [e] at hg
    cases hg
    obtain ⟨a, xs, rfl, h, r⟩ := rx.lst R.same
    exact ⟨a, ns, rfl, .of (by rw [← bls_ok r e]; exact h), q _ G H R (L2.Same.refl _) rfl⟩
theorem all_J (k : X.K = T.K) : OpL T (rAll X.K) (on1 allD) := opL_1 fun U G H σ ρ x d c Q R rx hg q => by
  rw [k]
  cases d <;> simp only [allD, onL] at hg <;> first | (cases hg; done) | skip
  rename_i ds
  cases e : blsD ds with
  | none => rw [e] at hg; cases hg
  | some ns =>
    rw [e] at hg
    cases hg
    obtain ⟨a, xs, rfl, h, r⟩ := rx.lst R.same
    exact ⟨a, ns, rfl, .of (by rw [← bls_ok r e]; exact h), q _ G H R (L2.Same.refl _) rfl⟩
def strD : D → Option D
  | .int i => if i.natAbs.log2 < 1920 then some (.str (toString i)) else none
  | _ => none
end

/-! ### isinstance -/
section
variable {X : Cx} {T : Tab} {W : WX}
def tyN : D → Option String
  | .non => some "NoneType"
  | .bl _ => some "bool"
  | .int _ => some "int"
  | .str _ => some "str"
  | .tup _ => some "tuple"
  | .lst _ => some "list"
  | .dct _ _ => some "dict"
  | .scr _ => some "list"
  | _ => none
theorem ty_ok {G H : Hp} {v : V} {d : D} {t : String} (s : L2.Same G H) (r : RepH T G H v d) (e : tyN d = some t) : TyX T.K H v (.type t) := by
  cases d <;> simp only [tyN] at e <;> first | (cases e; done) | skip
  · cases e; rw [r.non]; exact .base .non
  · cases e; rw [r.bl]; exact .base (.bl _)
  · cases e; rw [r.int]; exact .base (.int _)
  · cases e; rw [r.str.1]; exact .base (.str _)
  · cases e
    obtain ⟨a, xs, rfl, h, _, _⟩ := r.tup s
    rcases h with (h | ⟨o, h⟩) | ⟨o, its, n, hk, hc, _⟩
    · exact .base (.tup h)
    · exact .fTuple h
    · exact .kTuple hk hc
  · cases e
    obtain ⟨a, xs, rfl, h, _⟩ := r.lst s
    exact .base (.lst h)
  · cases e
    obtain ⟨a, kk, rfl, h, _⟩ := r.dct s
    exact .base (.dK h)
  · cases e
    obtain ⟨a, xs, rfl, h, _⟩ := r.scr s
    rcases h with (h | ⟨o, h⟩) | ⟨o, its, n, hk, hc, _⟩
    · exact .base (.lst h)
    · exact .base (.frz h)
    · exact .kList hk hc
/-- isinstance(x, t) -/
def isTD (t : String) (d : D) : Option D := (tyN d).bind fun a => (kitB a t).map D.bl
/-- isinstance(x, (t, ..)) -/
def anyTD : List String → String → Option Bool
  | [], _ => some false
  | t :: ts, a => match kitB a t with
    | some true => some true
    | some false => anyTD ts a
    | none => none
def isTsD (ts : List String) (d : D) : Option D := (tyN d).bind fun a => (anyTD ts a).map D.bl
theorem kitAny_ok {K : PySem.W.Frag} : ∀ {ts : List String} {a : String} {b : Bool}, anyTD ts a = some b → PySem.W.kitAny K (.type a) (ts.map Value.type) = some b
  | [], a, b, h => by cases h; rfl
  | t :: ts, a, b, h => by
    simp only [anyTD] at h
    cases e : kitB a t with
    | none => rw [e] at h; cases h
    | some c =>
      rw [e] at h
      cases c with
      | true => cases h; exact kitAny_cons (kit_ty e) (fun z => by cases z) (fun _ => rfl)
      | false => exact kitAny_cons (kit_ty e) (fun _ => kitAny_ok h) (fun z => by cases z)
end
end J

set_option Elab.async false
set_option linter.all false
set_option maxRecDepth 100000
set_option maxHeartbeats 4000000
namespace J
open PySem PySem.Spec PyProof.Rows L2
section
variable {X : Cx} {T : Tab} {W : WX}
/-! ### places and slices -/
theorem Reps.atI {G : Hp} {ds : List D} {xs : List V} {i : Int} {d : D} (r : Reps T G xs ds) (h : L2.atI ds i = some d) : ∃ x, L2.atI xs i = some x ∧ Rep T G x d := by
  unfold L2.atI at h ⊢
  rw [r.length]
  cases e : ixN ds.length i with
  | none => rw [e] at h; cases h
  | some j =>
    rw [e] at h
    exact r.getD (show ds[j]? = some d from h)
def sign (c : Nat) : Str := ⟨#[c]⟩
def ixD : D → D → Option D
  | .lst ds, .int i => atI ds i
  | .tup ds, .int i => atI ds i
  | .scr ds, .int i => atI ds i
  | .str z, .int i => (atI z.cps.toList i).map fun c => .str (sign c)
  | _, _ => none
theorem SOk.sign {z : Str} (h : SOk z) {c : Nat} (hc : c ∈ z.cps.toList) : SOk (sign c) := by
  refine ⟨by show 1 ≤ sizeLine; rw [sizeLine_eq]; omega, ?_⟩
  have h2 : z.cps.all (· < 0x110000) = true := h.2
  rw [← Array.all_toList, List.all_eq_true] at h2
  show (#[c] : Array Nat).all (· < 0x110000) = true
  have := h2 c hc
  simpa using this
theorem atI_mem {α : Type} {xs : List α} {i : Int} {c : α} (h : L2.atI xs i = some c) : c ∈ xs := by
  unfold L2.atI at h
  cases e : ixN xs.length i with
  | none => rw [e] at h; cases h
  | some j => rw [e] at h; exact List.mem_of_getElem? (show xs[j]? = some c from h)
theorem ix_J (k : X.K = T.K) : Op2 T (rIx X.K) ixD := by
  intro U G H σ ρ x y d e c Q R rx ry hg q
  rw [k]
  cases d <;> cases e <;> simp only [ixD] at hg <;> first | (cases hg; done) | skip
  · rename_i z i
    cases e : atI z.cps.toList i with
    | none => rw [e] at hg; cases hg
    | some cc =>
      rw [e] at hg
      cases hg
      obtain ⟨rfl, o⟩ := rx.str
      exact .inr (.inr ⟨z, i, cc, rfl, ry.int, o.1, e, q _ G H R (L2.Same.refl _) ⟨rfl, o.sign (atI_mem e)⟩⟩)
  · obtain ⟨a, xs, rfl, h, hG, r⟩ := rx.tup R.same
    obtain ⟨v, e, rv⟩ := r.atI hg
    exact .inr (.inl ⟨a, xs, _, v, rfl, ry.int, h, e, q _ G H R (L2.Same.refl _) rv⟩)
  · obtain ⟨a, xs, rfl, h, r⟩ := rx.lst R.same
    obtain ⟨v, e, rv⟩ := r.atI hg
    exact .inl ⟨a, xs, _, v, rfl, ry.int, .of h, e, q _ G H R (L2.Same.refl _) rv⟩
  · obtain ⟨a, xs, rfl, h, r⟩ := rx.scr R.same
    obtain ⟨v, e, rv⟩ := r.atI hg
    exact .inl ⟨a, xs, _, v, rfl, ry.int, h, e, q _ G H R (L2.Same.refl _) rv⟩
theorem j_ix {a b : Expr} {pos : Pos} {fa fb : En → Rs Ar} (ha : JR X T W a fa) (hb : JR X T W b fb) (hs : PlainIx b := by exact fun _ _ => rfl) : JE X T W (.Subscript a b pos) (f2 ixD fa fb) :=
  ⟨ha.k, pe_imp (pe_ix ix_seq ha.run hb.run hs) (op2_run (a := a) (b := b) (ix_J ha.k) rfl rfl)⟩
/-- a part of a slice -/
structure JP (X : Cx) (T : Tab) (W : WX) (e : Option Expr) (f : En → Rs (Option Int)) : Prop where
  run : PO X e (fun σ H Q => ∃ U G ρ, Rel T U G H σ ρ ∧ Pst T U σ G (f ρ) (fun o _ H' _ => Q o H') W)
theorem po_imp {X : Cx} {e : Option Expr} {t t' : TO} (h : PO X e t) (hi : ∀ σ H Q, t' σ H Q → t σ H Q) : PO X e t' := ⟨fun pins s σ H Q I q => h.run pins s σ H Q I (hi _ _ _ q)⟩
def pNo : En → Rs (Option Int) := fun ρ => .ok none ρ
def pSome (f : EF) : En → Rs (Option Int) := fun ρ => (f ρ).bnd fun d ρ' => match d with
  | .int i => .ok (some i) ρ'
  | _ => .bad
theorem jp_no : JP X T W none pNo := ⟨po_imp po_none fun σ H Q ⟨U, G, ρ, R, q⟩ => q G H R (L2.Same.refl _)⟩
theorem jp_some {e : Expr} {f : EF} (h : JE X T W e f) : JP X T W (some e) (pSome f) := by
  refine ⟨po_imp (po_some h.run) fun σ H Q ⟨U, G, ρ, R, q⟩ => ?_⟩
  refine ⟨U, G, ρ, R, (Pst.bnd q).mono (L2.Same.refl _) fun d G1 H1 ρ1 _ ⟨R1, s1, p⟩ v r => ?_⟩
  cases d with
  | int i => exact ⟨i, r, p G1 H1 R1 (L2.Same.refl _)⟩
  | _ => exact p.elim
def cutL {α : Type} (xs : List α) (lo hi : Option Int) : List α := (xs.drop (HT.sIx xs.length 0 lo)).take (HT.sIx xs.length xs.length hi - HT.sIx xs.length 0 lo)
def cutD (lo hi : Option Int) : D → Option D
  | .lst ds => some (.lst (cutL ds lo hi))
  | .tup ds => some (.tup (cutL ds lo hi))
  | .str z => some (.str (cutS z lo hi))
  | _ => none
theorem Reps.cut {G : Hp} {ds : List D} {xs : List V} {lo hi : Option Int} (r : Reps T G xs ds) : Reps T G (cutV xs lo hi) (cutL ds lo hi) := by
  unfold cutV cutL
  rw [r.length]
  exact (r.drop _).take _
theorem cutL_whole {α : Type} {xs : List α} {lo hi : Option Int} (h : HT.sIx xs.length 0 lo = 0 ∧ HT.sIx xs.length xs.length hi = xs.length) : cutL xs lo hi = xs := by
  unfold cutL
  rw [h.1, h.2]
  simp
theorem SOk.cut {z : Str} (h : SOk z) (lo hi : Option Int) : SOk (cutS z lo hi) := by
  have hl : z.cps.toList.length = z.length := by simp [Str.length]
  refine ⟨?_, ?_⟩
  · show (cutS z lo hi).cps.size ≤ sizeLine
    unfold cutS
    rw [List.size_toArray, List.length_take, List.length_drop, hl]
    have := h.1
    omega
  · have h2 : z.cps.all (· < 0x110000) = true := h.2
    rw [← Array.all_toList, List.all_eq_true] at h2
    show (cutS z lo hi).cps.all (· < 0x110000) = true
    rw [← Array.all_toList, List.all_eq_true]
    intro c hc
    unfold cutS at hc
    exact h2 c (List.mem_of_mem_drop (List.mem_of_mem_take hc))
def eCut (fa : En → Rs Ar) (fl fh : En → Rs (Option Int)) : EF := fun ρ => (fa ρ).bnd fun a ρ1 => (fl ρ1).bnd fun lo ρ2 => (fh ρ2).bnd fun hi ρ3 => match look ρ3 a with
  | some d => opt (cutD lo hi d) ρ3
  | none => .bad
abbrev rSlJ (K : PySem.W.Frag) : V → Option Int → Option Int → Hp → VK → Prop := fun x lo hi H Q => rSlL K x lo hi H Q ∨ rSlA K x lo hi H Q ∨ rSlS x lo hi H Q
theorem sl_J : SlR X (rSlJ X.K) := SlR.or sl_list (SlR.or sl_tupA sl_str)
theorem j_slice {a : Expr} {lo hi : Option Expr} {p2 pos : Pos} {fa : En → Rs Ar} {fl fh : En → Rs (Option Int)} (ha : JR X T W a fa) (hl : JP X T W lo fl) (hh : JP X T W hi fh) : JE X T W (.Subscript a (.Slice lo hi none p2) pos) (eCut fa fl fh) := by
  refine ⟨ha.k, pe_imp (pe_slice sl_J ha.run hl.run hh.run) fun σ H Q ⟨U, G, ρ, R, q⟩ => ?_⟩
  refine ⟨U, G, ρ, R, (Pst.bnd q).mono (L2.Same.refl _) fun d G1 H1 ρ1 _ ⟨R1, s1, p1⟩ v av => ?_⟩
  refine ⟨U, G1, ρ1, R1, (Pst.bnd p1).mono (L2.Same.refl _) fun l G2 H2 ρ2 _ ⟨R2, s2, p2⟩ => ?_⟩
  refine ⟨U, G2, ρ2, R2, (Pst.bnd p2).mono (L2.Same.refl _) fun u G3 H3 ρ3 _ ⟨R3, s3, p3⟩ => ?_⟩
  cases e : look ρ3 d with
  | none => rw [e] at p3; exact p3.elim
  | some dd =>
    rw [e] at p3
    obtain ⟨c, e2, p⟩ := Pst.opt p3
    have rx := look_ok R3 (av.mono (s2.trans s3)) e
    rw [ha.k]
    cases dd <;> simp only [cutD] at e2 <;> first | (cases e2; done) | skip
    · cases e2
      obtain ⟨rfl, o⟩ := rx.str
      exact .inr (.inr ⟨_, rfl, o.1, p G3 H3 R3 (L2.Same.refl _) _ ⟨rfl, o.cut l u⟩⟩)
    · cases e2
      rename_i ds _
      obtain ⟨b, xs, rfl, h, hG, r⟩ := rx.tup R3.same
      refine .inr (.inl ⟨b, xs, rfl, h, fun hw => ?_, fun _ => mkTup R3 r.cut fun v G' H' R' s' rv => p G' H' R' s' v rv⟩)
      refine p G3 H3 R3 (L2.Same.refl _) _ ⟨b, xs, rfl, hG, ?_⟩
      rw [r.length] at hw
      rw [cutL_whole hw]
      exact r
    · cases e2
      obtain ⟨b, xs, rfl, h, r⟩ := rx.lst R3.same
      refine .inl ⟨b, xs, rfl, .of h, fun lp hlp => ?_⟩
      have s := same_upd (o := .lst (cutV xs l u)) (R3.gfree hlp)
      exact p _ _ (R3.alloc hlp) s _ ⟨lp, _, rfl, upd_same, r.cut.mono s⟩

/-! ### isinstance -/
def eIsT (t : String) (f : En → Rs Ar) : EF := fun ρ => (f ρ).bnd fun a ρ1 => match look ρ1 a with
  | some d => opt (isTD t d) ρ1
  | none => .bad
def eIsTs (ts : List String) (f : En → Rs Ar) : EF := fun ρ => (f ρ).bnd fun a ρ1 => match look ρ1 a with
  | some d => opt (isTsD ts d) ρ1
  | none => .bad
theorem j_isT {a b : Expr} {p pos : Pos} {t : String} {f : En → Rs Ar} (ha : JR X T W a f) (hb : PE X b (tC (.ty t))) (hm : X.mg "isinstance" = none) (hgl : Gl X "isinstance" := by rfl)
    (hs : starEach [a, b] X.env = (false, eval a X.env) :: starEach [b] X.env := by rfl) (hs2 : starEach [b] X.env = (false, eval b X.env) :: starEach [] X.env := by rfl) (hpl : (backTo pos (starEach [b] X.env)).any (·.1) = false := by rfl) :
    JE X T W (.Call (.Name "isinstance" p) [a, b] [] pos) (eIsT t f) := by
  refine ⟨ha.k, pe_imp (pe_callB call_isi hgl hm (by decide +kernel) (pa_cons ha.run (pa_cons hb pa_nil hs2) hs) (by decide) (by decide) hs hpl) fun σ H Q ⟨U, G, ρ, R, q⟩ => ?_⟩
  refine ⟨U, G, ρ, R, (Pst.bnd q).mono (L2.Same.refl _) fun d G1 H1 ρ1 _ ⟨R1, s1, p1⟩ v av => ?_⟩
  cases e : look ρ1 d with
  | none => rw [e] at p1; exact p1.elim
  | some dd =>
    rw [e] at p1
    obtain ⟨c, e2, p2⟩ := Pst.opt p1
    have rx := look_ok R1 av e
    unfold isTD at e2
    cases e3 : tyN dd with
    | none => rw [e3] at e2; cases e2
    | some ty =>
      rw [e3] at e2
      simp only [Option.bind_some] at e2
      cases e4 : kitB ty t with
      | none => rw [e4] at e2; cases e2
      | some b =>
        rw [e4] at e2
        cases e2
        rw [ha.k]
        exact ⟨v, .ty t, _, .type t, b, rfl, .ty t, ty_ok R1.same rx e3, kit_ty e4, p2 G1 H1 R1 (L2.Same.refl _) _ rfl⟩
theorem clsV_tys : ∀ ts : List String, Paired ClsV (ts.map V.ty) (ts.map Value.type)
  | [] => .nil
  | t :: ts => .cons (.ty t) (clsV_tys ts)
/-- the tuple of built-in classes that is written as the second argument -/
theorem j_isTs {a b : Expr} {p pos : Pos} {ts : List String} {f : En → Rs Ar} (ha : JR X T W a f) (hb : PE X b (fun σ H Q => ∀ l, H l = none → Q (.ref l) (upd H l (.tup (ts.map V.ty))))) (hm : X.mg "isinstance" = none) (hgl : Gl X "isinstance" := by rfl)
    (hs : starEach [a, b] X.env = (false, eval a X.env) :: starEach [b] X.env := by rfl) (hs2 : starEach [b] X.env = (false, eval b X.env) :: starEach [] X.env := by rfl) (hpl : (backTo pos (starEach [b] X.env)).any (·.1) = false := by rfl) :
    JE X T W (.Call (.Name "isinstance" p) [a, b] [] pos) (eIsTs ts f) := by
  refine ⟨ha.k, pe_imp (pe_callB call_isiT hgl hm (by decide +kernel) (pa_cons ha.run (pa_cons hb pa_nil hs2) hs) (by decide) (by decide) hs hpl) fun σ H Q ⟨U, G, ρ, R, q⟩ => ?_⟩
  refine ⟨U, G, ρ, R, (Pst.bnd q).mono (L2.Same.refl _) fun d G1 H1 ρ1 _ ⟨R1, s1, p1⟩ v av => fun l hl => ?_⟩
  cases e : look ρ1 d with
  | none => rw [e] at p1; exact p1.elim
  | some dd =>
    rw [e] at p1
    obtain ⟨c, e2, p2⟩ := Pst.opt p1
    have s := same_upd (o := .tup (ts.map V.ty)) (R1.gfree hl)
    have R2 := R1.alloc (o := .tup (ts.map V.ty)) hl
    have rx := look_ok R2 (av.mono s) e
    unfold isTsD at e2
    cases e3 : tyN dd with
    | none => rw [e3] at e2; cases e2
    | some ty =>
      rw [e3] at e2
      simp only [Option.bind_some] at e2
      cases e4 : anyTD ts ty with
      | none => rw [e4] at e2; cases e2
      | some b =>
        rw [e4] at e2
        cases e2
        rw [ha.k]
        exact ⟨v, l, _, _, _, b, rfl, upd_same, clsV_tys ts, ty_ok R2.same rx e3, kitAny_ok e4, p2 _ _ R2 s _ rfl⟩
theorem ty1 {x : Str} {t : String} {pos : Pos} (hm : X.mg x = none) (hv : bootBuiltins x = some (.type t)) (hgl : Gl X x := by rfl) (hn : x ≠ "__name__" := by decide) (hd : (x == ("__debug__" : Str)) = false := by decide) : PE X (.Name x pos) (tC (.ty t)) := pe_bltn hgl hm hv rfl hn hd
theorem ty2 {a b : Expr} {t u : String} {x1} {pos : Pos} (ha : PE X a (tC (.ty t))) (hb : PE X b (tC (.ty u))) (hs : starEach [a, b] X.env = (false, eval a X.env) :: starEach [b] X.env := by rfl) (hs2 : starEach [b] X.env = (false, eval b X.env) :: starEach [] X.env := by rfl) :
    PE X (.Tuple [a, b] x1 pos) (fun σ H Q => ∀ l, H l = none → Q (.ref l) (upd H l (.tup ([t, u].map V.ty)))) :=
  pe_imp (pe_tup (pa_cons ha (pa_cons hb pa_nil hs2) hs)) fun σ H Q q => ⟨by show 2 ≤ sizeLine; rw [sizeLine_eq]; omega, q⟩
end
end J

set_option Elab.async false
set_option linter.all false
set_option maxRecDepth 100000
set_option maxHeartbeats 4000000
namespace J
open PySem PySem.Spec PyProof.Rows L2
section
variable {X : Cx} {T : Tab} {W : WX}
theorem Keeps.refl (ws : List Nat) (σ : L2.St) : Keeps ws σ σ := ⟨rfl, fun _ _ => rfl⟩
theorem Keeps.trans {ws : List Nat} {σ σ' σ'' : L2.St} (a : Keeps ws σ σ') (b : Keeps ws σ' σ'') : Keeps ws σ σ'' := ⟨b.1.trans a.1, fun j h => (b.2 j h).trans (a.2 j h)⟩
theorem Keeps.mono {ws ws' : List Nat} {σ σ' : L2.St} (a : Keeps ws σ σ') (h : ∀ j, j ∈ ws → j ∈ ws') : Keeps ws' σ σ' := ⟨a.1, fun j hj => a.2 j fun z => hj (h j z)⟩
theorem Keeps.set {i : Nat} {σ : L2.St} {v : Option V} : Keeps [i] σ (σ.set i v) := ⟨by simp, fun j h => set_get_ne (by simpa using h)⟩
theorem PstS.mono {ws ws' : List Nat} {D D' : Ends} {U G G1 : Hp} {σ σ1 : L2.St} {r : Rs Fl} (h : PstS T W ws D U σ G r) (s : L2.Same G G1) (k : Keeps ws σ σ1) (hn : ∀ σ' H', D.nx σ' H' → D'.nx σ' H') (hr : ∀ v H', D.rt v H' → D'.rt v H') : PstS T W ws D' U σ1 G1 r := by
  cases r with
  | ok a ρ' =>
    cases a with
    | nx => exact fun σ' G' H' R s' k' => hn _ _ (h σ' G' H' R (s.trans s') (k.trans k'))
    | rt d => exact fun v σ' G' H' R s' k' r => hr _ _ (h v σ' G' H' R (s.trans s') (k.trans k') r)
  | ex c ns vs ρ' => exact fun cls dx σ' G' H' R s' k' x => h cls dx σ' G' H' R (s.trans s') (k.trans k') x
  | bad => exact h
theorem PstS.wide {ws ws' : List Nat} {D : Ends} {U G : Hp} {σ : L2.St} {r : Rs Fl} (h : PstS T W ws' D U σ G r) (hw : ∀ j, j ∈ ws → j ∈ ws') : PstS T W ws D U σ G r := by
  cases r with
  | ok a ρ' =>
    cases a with
    | nx => exact fun σ' G' H' R s' k' => h σ' G' H' R s' (k'.mono hw)
    | rt d => exact fun v σ' G' H' R s' k' r => h v σ' G' H' R s' (k'.mono hw) r
  | ex c ns vs ρ' => exact fun cls dx σ' G' H' R s' k' x => h cls dx σ' G' H' R s' (k'.mono hw) x
  | bad => exact h
/-- an expression first -/
theorem PstS.bndE {α : Type} {ws : List Nat} {D : Ends} {U G : Hp} {σ : L2.St} {r : Rs α} {k : α → En → Rs Fl} (h : PstS T W ws D U σ G (r.bnd k)) :
    Pst T U σ G r (fun a G' H' ρ' => Rel T U G' H' σ ρ' ∧ L2.Same G G' ∧ PstS T W ws D U σ G' (k a ρ')) W := by
  cases r with
  | ok a ρ' => exact fun G' H' R s => ⟨R, s, PstS.mono (r := k a ρ') (ws' := ws) h s (Keeps.refl _ _) (fun _ _ z => z) fun _ _ z => z⟩
  | ex c ns vs ρ' => exact fun cls dx G' H' R s x => h cls dx σ G' H' R s (Keeps.refl _ _) x
  | bad => exact h
/-- a statement first -/
def Rs.sq (r : Rs Fl) (k : SF) : Rs Fl := r.bnd fun fl ρ => match fl with
  | .nx => k ρ
  | .rt d => .ok (.rt d) ρ
@[simp] theorem Rs.sq_nx (ρ : En) (k : SF) : (Rs.ok .nx ρ : Rs Fl).sq k = k ρ := rfl
@[simp] theorem Rs.sq_rt (d : D) (ρ : En) (k : SF) : (Rs.ok (.rt d) ρ : Rs Fl).sq k = .ok (.rt d) ρ := rfl
@[simp] theorem Rs.sq_ex (c : Nat) (ns : List Nat) (vs : List D) (ρ : En) (k : SF) : (Rs.ex c ns vs ρ : Rs Fl).sq k = .ex c ns vs ρ := rfl
@[simp] theorem Rs.sq_bad (k : SF) : (Rs.bad : Rs Fl).sq k = .bad := rfl
theorem PstS.sq {ws : List Nat} {D : Ends} {U G : Hp} {σ : L2.St} {r : Rs Fl} {k : SF} (h : PstS T W ws D U σ G (r.sq k)) {D' : Ends} (hr : ∀ v H', D.rt v H' → D'.rt v H')
    (hn : ∀ σ' G' H' ρ', Rel T U G' H' σ' ρ' → L2.Same G G' → Keeps ws σ σ' → PstS T W ws D U σ' G' (k ρ') → D'.nx σ' H') : PstS T W ws D' U σ G r := by
  cases r with
  | ok a ρ' =>
    cases a with
    | nx => exact fun σ' G' H' R s k' => hn σ' G' H' ρ' R s k' (PstS.mono (r := k ρ') (ws' := ws) h s k' (fun _ _ z => z) fun _ _ z => z)
    | rt d => exact fun v σ' G' H' R s k' r => hr _ _ (h v σ' G' H' R s k' r)
  | ex c ns vs ρ' => exact h
  | bad => exact h

/-! ### blocks -/
def sNil : SF := fun ρ => .ok .nx ρ
def sCons (f g : SF) : SF := fun ρ => (f ρ).sq g
theorem js_nil (k : X.K = T.K) : JSs X T W [] [] sNil := by
  refine ⟨k, pss_imp pss_nil fun D σ H ⟨U, G, ρ, R, q⟩ => ?_⟩
  exact q σ G H R (L2.Same.refl _) (Keeps.refl _ _)
theorem js_cons {st : Stmt} {sts : List Stmt} {ws ws' : List Nat} {f g : SF} (h : JS X T W ws st f) (h' : JSs X T W ws' sts g) : JSs X T W (ws ++ ws') (st :: sts) (sCons f g) := by
  refine ⟨h.k, pss_imp (pss_cons h.run h'.run) fun D σ H ⟨U, G, ρ, R, q⟩ => ?_⟩
  refine ⟨U, G, ρ, R, PstS.wide (ws' := ws ++ ws') ?_ fun j hj => List.mem_append_left _ hj⟩
  refine PstS.sq q (fun _ _ z => z) fun σ' G' H' ρ' R' s' k' p => ?_
  exact ⟨U, G', ρ', R', p.wide fun j hj => List.mem_append_right _ hj⟩
theorem js_one {st : Stmt} {ws : List Nat} {f : SF} (h : JS X T W ws st f) : JSs X T W ws [st] f := ⟨h.k, pss_one h.run⟩
theorem j_pass (k : X.K = T.K) {pos : Pos} : JS X T W [] (.Pass pos) sNil := by
  refine ⟨k, ps_imp ps_pass fun D σ H ⟨U, G, ρ, R, q⟩ => ?_⟩
  exact q σ G H R (L2.Same.refl _) (Keeps.refl _ _)
theorem j_doc (k : X.K = T.K) {x j pos pos'} : JS X T W [] (.Expr (.Constant (.str x) j pos) pos') sNil := by
  refine ⟨k, ps_imp ps_doc fun D σ H ⟨U, G, ρ, R, q⟩ => ?_⟩
  exact q σ G H R (L2.Same.refl _) (Keeps.refl _ _)
def sExpr (f : EF) : SF := fun ρ => (f ρ).bnd fun _ ρ' => .ok .nx ρ'
theorem j_expr {e : Expr} {pos : Pos} {f : EF} (h : JE X T W e f) (hs : swapsWith e none pos.line X.env = pure false := by rfl) : JS X T W [] (.Expr e pos) (sExpr f) := by
  refine ⟨h.k, ps_imp (ps_expr h.run hs) fun D σ H ⟨U, G, ρ, R, q⟩ => ?_⟩
  refine ⟨U, G, ρ, R, (PstS.bndE q).mono (L2.Same.refl _) fun d G' H' ρ' _ ⟨R', s, p⟩ v r => ?_⟩
  exact p σ G' H' R' (L2.Same.refl _) (Keeps.refl _ _)
def sRet (f : EF) : SF := fun ρ => (f ρ).bnd fun d ρ' => .ok (.rt d) ρ'
theorem j_ret {e : Expr} {pos : Pos} {f : EF} (h : JE X T W e f) : JS X T W [] (.Return (some e) pos) (sRet f) := by
  refine ⟨h.k, ps_imp (ps_ret h.run) fun D σ H ⟨U, G, ρ, R, q⟩ => ?_⟩
  refine ⟨U, G, ρ, R, (PstS.bndE q).mono (L2.Same.refl _) fun d G' H' ρ' _ ⟨R', s, p⟩ v r => ?_⟩
  exact p v σ G' H' R' (L2.Same.refl _) (Keeps.refl _ _) r
def sIf (t : TF) (f g : SF) : SF := fun ρ => (t ρ).bnd fun b ρ' => if b = true then f ρ' else g ρ'
theorem j_ifs {c : Expr} {a b : List Stmt} {pos : Pos} {t : TF} {f g : SF} {ws ws' : List Nat} (hc : JT X T W c t) (ha : JSs X T W ws a f) (hb : JSs X T W ws' b g) : JS X T W (ws ++ ws') (.If c a b pos) (sIf t f g) := by
  refine ⟨hc.k, ps_imp (ps_if hc.run ha.run hb.run) fun D σ H ⟨U, G, ρ, R, q⟩ => ?_⟩
  refine ⟨U, G, ρ, R, (PstS.bndE q).mono (L2.Same.refl _) fun d G' H' ρ' _ ⟨R', s, p⟩ => ?_⟩
  cases d with
  | true => exact ⟨U, G', ρ', R', PstS.wide p fun j hj => List.mem_append_left _ hj⟩
  | false => exact ⟨U, G', ρ', R', PstS.wide p fun j hj => List.mem_append_right _ hj⟩

/-! ### stores -/
def sSet (i : Nat) (f : EF) : SF := fun ρ => (f ρ).bnd fun d ρ' => .ok .nx (ρ'.set i (.sh d))
def sSetO (i : Nat) (f : EF) : SF := fun ρ => (f ρ).bnd fun d ρ' => .ok .nx (ρ'.set i (.ow d))
theorem j_set {i : Nat} {x : Str} {e : Expr} {pos pos' : Pos} {f : EF} (hN : X.N.Nodup) (h : JE X T W e f) (hi : X.N[i]? = some x := by rfl) (hx : Loc X.env.scope x := by first | exact Or.inl rfl | exact Or.inr rfl)
    (hs : swapsWith e (some (.Name x pos')) pos.line X.env = pure false := by rfl) (hf : X.fn x = true ∨ X.env.scope.names.lookup x = some .local := by first | exact .inl rfl | exact .inr rfl) : JS X T W [i] (.Assign [.Name x pos'] e pos) (sSet i f) := by
  refine ⟨h.k, ps_imp (ps_set hN hi hx h.run hs hf) fun D σ H ⟨U, G, ρ, R, q⟩ => ?_⟩
  refine ⟨U, G, ρ, R, (PstS.bndE q).mono (L2.Same.refl _) fun d G' H' ρ' _ ⟨R', s, p⟩ v r => ?_⟩
  exact p _ G' H' (R'.setSh r) (L2.Same.refl _) Keeps.set
theorem j_setO {i : Nat} {x : Str} {e : Expr} {pos pos' : Pos} {f : EF} (hN : X.N.Nodup) (h : JO X T W e f) (hi : X.N[i]? = some x := by rfl) (hx : Loc X.env.scope x := by first | exact Or.inl rfl | exact Or.inr rfl)
    (hs : swapsWith e (some (.Name x pos')) pos.line X.env = pure false := by rfl) (hf : X.fn x = true ∨ X.env.scope.names.lookup x = some .local := by first | exact .inl rfl | exact .inr rfl) : JS X T W [i] (.Assign [.Name x pos'] e pos) (sSetO i f) := by
  refine ⟨h.k, ps_imp (ps_set hN hi hx h.run hs hf) fun D σ H ⟨U, G, ρ, R, q⟩ => ?_⟩
  refine ⟨U, G, ρ, R, (PstS.bndE q).mono (L2.Same.refl _) fun d G' H' ρ' _ ⟨R', s, p⟩ a o g u hh r hn => ?_⟩
  exact p _ G' H' (R'.setOw u g hh r hn) (L2.Same.refl _) Keeps.set

/-! ### while -/
def whileS (c : TF) (b : SF) : Nat → SF
  | 0, _ => .bad
  | n + 1, ρ => (c ρ).bnd fun t ρ1 => if t = true then (b ρ1).sq (whileS c b n) else .ok .nx ρ1
theorem j_while (n : Nat) {c : Expr} {body : List Stmt} {pos : Pos} {t : TF} {f : SF} {ws : List Nat} (hp : PassesOwn (model X.prog X.w) X.A X.env X.xe) (hc : JT X T W c t) (hb : JSs X T W ws body f) : JS X T W ws (.While c body [] pos) (whileS t f n) := by
  refine ⟨hc.k, ps_imp (ps_while hp hc.run hb.run) fun D σ H ⟨U, G, ρ, R, q⟩ => ?_⟩
  refine ⟨fun m σ' H' => ∃ G' ρ', Rel T U G' H' σ' ρ' ∧ PstS T W ws D U σ' G' (whileS t f m ρ'), ⟨n, G, ρ, R, q⟩, ?_⟩
  rintro m σ' H' ⟨G', ρ', R', q'⟩
  cases m with
  | zero => exact False.elim q'
  | succ m =>
    refine ⟨U, G', ρ', R', (PstS.bndE q').mono (L2.Same.refl _) fun b G2 H2 ρ2 _ ⟨R2, s2, p2⟩ => ?_⟩
    cases b with
    | true =>
      rw [if_pos rfl]
      refine ⟨fun σ3 H3 => ∃ G3 ρ3, Rel T U G3 H3 σ3 ρ3 ∧ PstS T W ws D U σ3 G3 (whileS t f m ρ3), fun σ3 H3 z => ⟨m, Nat.lt_succ_self _, z⟩, U, G2, ρ2, R2, ?_⟩
      refine PstS.sq p2 (fun _ _ z => z) fun σ3 G3 H3 ρ3 R3 s3 k3 p3 => ⟨G3, ρ3, R3, p3⟩
    | false =>
      rw [if_neg Bool.false_ne_true]
      exact p2 σ' G2 H2 R2 (L2.Same.refl _) (Keeps.refl _ _)

/-! ### targets -/
abbrev BF := D → En → Option En
def tG (T : Tab) (ws : List Nat) (b : BF) : TG := fun v σ H Q => ∃ U G ρ d ρ', Rel T U G H σ ρ ∧ Rep T G v d ∧ b d ρ = some ρ' ∧ ∀ σ', Rel T U G H σ' ρ' → Keeps ws σ σ' → Q σ' H
abbrev BFs := List D → En → Option En
def tGs (T : Tab) (ws : List Nat) (b : BFs) : TGs := fun vs σ H Q => ∃ U G ρ ds ρ', Rel T U G H σ ρ ∧ Reps T G vs ds ∧ b ds ρ = some ρ' ∧ ∀ σ', Rel T U G H σ' ρ' → Keeps ws σ σ' → Q σ' H
structure JG (X : Cx) (T : Tab) (ws : List Nat) (e : Expr) (b : BF) : Prop where
  run : PG X e (tG T ws b)
structure JGs (X : Cx) (T : Tab) (ws : List Nat) (es : List Expr) (b : BFs) : Prop where
  run : PGs X es (tGs T ws b)
theorem pg_imp {X : Cx} {e : Expr} {t t' : TG} (h : PG X e t) (hi : ∀ v σ H Q, t' v σ H Q → t v σ H Q) : PG X e t' := ⟨fun pins s σ H v u Q I r q => h.run pins s σ H v u Q I r (hi _ _ _ _ q)⟩
theorem pgs_imp {X : Cx} {e : List Expr} {t t' : TGs} (h : PGs X e t) (hi : ∀ v σ H Q, t' v σ H Q → t v σ H Q) : PGs X e t' := ⟨fun pins s σ H v u Q I r q => h.run pins s σ H v u Q I r (hi _ _ _ _ q)⟩
def bName (i : Nat) : BF := fun d ρ => some (ρ.set i (.sh d))
theorem jg_name {i : Nat} {x : Str} {pos : Pos} (hN : X.N.Nodup) (hi : X.N[i]? = some x := by rfl) (hx : Loc X.env.scope x := by first | exact Or.inl rfl | exact Or.inr rfl)
    (hf : X.fn x = true ∨ X.env.scope.names.lookup x = some .local := by first | exact .inl rfl | exact .inr rfl) : JG X T [i] (.Name x pos) (bName i) := by
  refine ⟨pg_imp (pg_name hN hi hx hf) fun v σ H Q ⟨U, G, ρ, d, ρ', R, r, e, q⟩ => ?_⟩
  cases e
  exact q _ (R.setSh r) Keeps.set
def bNil : BFs := fun ds ρ => match ds with
  | [] => some ρ
  | _ => none
def bCons (b : BF) (c : BFs) : BFs := fun ds ρ => match ds with
  | d :: r => (b d ρ).bind (c r)
  | [] => none
theorem jgs_nil : JGs X T [] [] bNil := by
  refine ⟨pgs_imp pgs_nil fun v σ H Q ⟨U, G, ρ, ds, ρ', R, r, e, q⟩ => ?_⟩
  cases ds with
  | nil => cases e; exact ⟨r, q σ R (Keeps.refl _ _)⟩
  | cons _ _ => cases e
theorem jgs_cons {e : Expr} {es : List Expr} {ws ws' : List Nat} {b : BF} {c : BFs} (h : JG X T ws e b) (h' : JGs X T ws' es c) (hs : (assignEach (e :: es) X.env).map (·.2) = assign e X.env :: (assignEach es X.env).map (·.2) := by rfl) : JGs X T (ws ++ ws') (e :: es) (bCons b c) := by
  refine ⟨pgs_imp (pgs_cons h.run h'.run hs) fun vs σ H Q ⟨U, G, ρ, ds, ρ', R, r, e, q⟩ => ?_⟩
  cases ds with
  | nil => cases e
  | cons d ds =>
    obtain ⟨x, rest, rfl, r1, r2⟩ := r
    simp only [bCons] at e
    cases e1 : b d ρ with
    | none => rw [e1] at e; cases e
    | some ρ1 =>
      rw [e1] at e
      refine ⟨x, rest, rfl, U, G, ρ, d, ρ1, R, r1, e1, fun σ1 R1 k1 => ?_⟩
      exact ⟨U, G, ρ1, ds, ρ', R1, r2, e, fun σ2 R2 k2 => q σ2 R2 ((k1.mono fun j hj => List.mem_append_left _ hj).trans (k2.mono fun j hj => List.mem_append_right _ hj))⟩
def bTup (n : Nat) (b : BFs) : BF := fun d ρ => match d with
  | .tup ds => if ds.length = n then b ds ρ else none
  | _ => none
theorem jg_tup {es : List Expr} {k : Nat} {pos : Pos} {ws : List Nat} {b : BFs} {n : Nat} (hc : X.calm = true) (hk : X.K = T.K) (h : JGs X T ws es b)
    (hn : (assignEach es X.env).length = n := by rfl) (hst : (assignEach es X.env).findIdx? (·.1) = none := by rfl) : JG X T ws (.Tuple es k pos) (bTup n b) := by
  refine ⟨pg_imp (pg_tup hc h.run hn hst) fun v σ H Q ⟨U, G, ρ, d, ρ', R, r, e, q⟩ => ?_⟩
  cases d <;> simp only [bTup] at e <;> first | (cases e; done) | skip
  rename_i ds
  split at e
  · rename_i hl
    obtain ⟨a, xs, rfl, h1, r⟩ := r
    rw [hk]
    exact ⟨a, xs, rfl, Same.seqT R.same h1, by rw [r.length]; exact hl, U, G, ρ, ds, ρ', R, r, e, q⟩
  · cases e
/-- target = value -/
def sAsg (f : EF) (b : BF) : SF := fun ρ => (f ρ).bnd fun d ρ' => match b d ρ' with
  | some ρ2 => .ok .nx ρ2
  | none => .bad
theorem j_asg {tg e : Expr} {pos : Pos} {f : EF} {b : BF} {ws : List Nat} (h : JE X T W e f) (hg : JG X T ws tg b) (hs : swapsWithSole [tg] e pos.line X.env = pure false := by rfl) (hw : swappedStores [tg] e X.env = pure none := by rfl)
    (h1 : (assignEach [tg] X.env).map (·.2) = [assign tg X.env] := by rfl) : JS X T W ws (.Assign [tg] e pos) (sAsg f b) := by
  refine ⟨h.k, ps_imp (ps_asg h.run hg.run hs hw h1) fun D σ H ⟨U, G, ρ, R, q⟩ => ?_⟩
  refine ⟨U, G, ρ, R, (PstS.bndE q).mono (L2.Same.refl _) fun d G' H' ρ' _ ⟨R', s, p⟩ v r => ?_⟩
  cases e : b d ρ' with
  | none => rw [e] at p; exact p.elim
  | some ρ2 =>
    rw [e] at p
    exact ⟨U, G', ρ', d, ρ2, R', r, e, fun σ' R2 k => p σ' G' H' R2 (L2.Same.refl _) k⟩

/-! ### x += e -/
def sAug (i : Nat) (g : D → D → Option D) (f : EF) : SF := fun ρ => match ρ[i]? with
  | some (.sh a) => (f ρ).bnd fun b ρ' => match g a b with
    | some c => .ok .nx (ρ'.set i (.sh c))
    | none => .bad
  | _ => .bad
theorem j_aug {i : Nat} {x : Str} {e : Expr} {op : Operator} {r : R2} {g : D → D → Option D} {pos pos' : Pos} {f : EF} (hN : X.N.Nodup) (ho : OpR X (inplaceOp op) r) (hg : Op2 T r g) (h : JE X T W e f) (hi : X.N[i]? = some x := by rfl) (hx : Loc X.env.scope x := by first | exact Or.inl rfl | exact Or.inr rfl)
    (hf : X.fn x = true ∨ X.env.scope.names.lookup x = some .local := by first | exact .inl rfl | exact .inr rfl) : JS X T W [i] (.AugAssign (.Name x pos') op e pos) (sAug i g f) := by
  refine ⟨h.k, ps_imp (ps_aug hN hi hx h.run (ti := r) (fun pins s σ H x y v u Q I r1 r2 q => ho pins s σ H x y v u Q I r1 r2 q) hf) fun D σ H ⟨U, G, ρ, R, q⟩ => ?_⟩
  unfold sAug at q
  cases e1 : ρ[i]? with
  | none => rw [e1] at q; exact q.elim
  | some sl =>
    rw [e1] at q
    cases sl with
    | no => exact q.elim
    | ex _ _ _ => exact q.elim
    | ow _ => exact q.elim
    | sh a =>
      obtain ⟨v, ev, rv⟩ := R.sh i a e1
      refine ⟨v, ev, U, G, ρ, R, (PstS.bndE q).mono (L2.Same.refl _) fun b G' H' ρ' _ ⟨R', s, p⟩ u ru => ?_⟩
      cases e2 : g a b with
      | none => rw [e2] at p; exact p.elim
      | some c =>
        rw [e2] at p
        refine hg U G' H' σ ρ' v u a b c _ R' (.inl (rv.mono s)) (.inl ru) e2 fun w G2 H2 R2 s2 rw' => ?_
        exact p _ G2 H2 (R2.setSh rw') s2 Keeps.set
theorem iadd_J : Op2 T (fun x y H Q => (rI0 fun i j => .int (i + j)) x y H Q ∨ (∃ i j, x = .str i ∧ y = .str j ∧ i.length + j.length ≤ sizeLine ∧ Q (.str (i ++ j)) H)) (fun d e => match d, e with
    | .int a, .int b => some (.int (a + b))
    | .str a, .str b => if a.length + b.length ≤ sizeLine then some (.str (a ++ b)) else none
    | _, _ => none) := by
  intro U G H σ ρ x y d e c Q R rx ry hg q
  cases d <;> cases e <;> simp only at hg <;> first | (cases hg; done) | skip
  · cases hg
    exact .inl ⟨_, _, rx.int, ry.int, q _ G H R (L2.Same.refl _) rfl⟩
  · split at hg
    · rename_i hl
      cases hg
      obtain ⟨e1, o1⟩ := rx.str
      obtain ⟨e2, o2⟩ := ry.str
      exact .inr ⟨_, _, e1, e2, hl, q _ G H R (L2.Same.refl _) ⟨rfl, o1.app o2 hl⟩⟩
    · cases hg
end
end J

set_option Elab.async false
set_option linter.all false
set_option maxRecDepth 100000
set_option maxHeartbeats 4000000
namespace J
open PySem PySem.Spec PyProof.Rows L2
/-! ### what is walked -/
/-- J gives the items ds one after another, while C holds of the heap; C holds as long as what stood in G0 stands, and U' has what P asks -/
def Yl (T : Tab) (G0 : Hp) (J : It) (ds : List D) (P : Hp → Prop) : Prop := ds.length ≤ sizeLine ∧ ∃ (C : Hp → Prop) (Y : Nat → Hp → V → Hp → Prop), Walk J ds.length C Y ∧
  (∀ U' G H σ ρ, Rel T U' G H σ ρ → L2.Same G0 G → P U' → C H) ∧
  ∀ i H x H' U' σ ρ G, i < ds.length → Y i H x H' → Rel T U' G H σ ρ → L2.Same G0 G → ∃ G' d, Rel T U' G' H' σ ρ ∧ L2.Same G G' ∧ ds[i]? = some d ∧ Rep T G' x d
structure JI (X : Cx) (T : Tab) (W : WX) (tg iter : Expr) (f : LF) : Prop where
  k : X.K = T.K
  run : PI X tg iter (fun σ H R => ∃ U G ρ, Rel T U G H σ ρ ∧ Pst T U σ G (f ρ) (fun ds G' H' _ => ∀ J, Yl T G' J ds (fun _ => True) → R J H') W)
theorem pi_imp {X : Cx} {tg e : Expr} {t t' : TI} (h : PI X tg e t) (hi : ∀ σ H Q, t' σ H Q → t σ H Q) : PI X tg e t' := ⟨fun pins s σ H Q I q => h.run pins s σ H Q I (hi _ _ _ q)⟩
section
variable {X : Cx} {T : Tab} {W : WX} {tg : Expr}
theorem yl_list {G0 : Hp} {a : Addr} {xs : List V} {ds : List D} (hl : ds.length ≤ sizeLine) (r : Reps T G0 xs ds) (h : SqL T.K G0 a xs) : Yl T G0 (Itl T.K a) ds (fun _ => True) := by
  refine ⟨hl, fun H => SqL T.K H a xs, YAt xs, r.length ▸ walk_list, fun U' G H σ ρ R s _ => (s.trans R.same).seq h, fun i H x H' U' σ ρ G hi y R s => ?_⟩
  obtain ⟨rfl, e⟩ := y
  obtain ⟨d, e2, rd⟩ := r.get e
  exact ⟨G, d, R, L2.Same.refl _, e2, rd.mono s⟩
theorem yl_tup {G0 : Hp} {a : Addr} {xs : List V} {ds : List D} (hl : ds.length ≤ sizeLine) (r : Reps T G0 xs ds) (h : SqT T.K G0 a xs) : Yl T G0 (Itt T.K a) ds (fun _ => True) := by
  refine ⟨hl, fun H => SqT T.K H a xs, YAt xs, r.length ▸ walk_tup, fun U' G H σ ρ R s _ => Same.seqT (s.trans R.same) h, fun i H x H' U' σ ρ G hi y R s => ?_⟩
  obtain ⟨rfl, e⟩ := y
  obtain ⟨d, e2, rd⟩ := r.get e
  exact ⟨G, d, R, L2.Same.refl _, e2, rd.mono s⟩
/-- an owned list, held in U' -/
theorem yl_own {G0 : Hp} {a : Addr} {xs : List V} {ds : List D} (hl : ds.length ≤ sizeLine) (r : Reps T G0 xs ds) : Yl T G0 (Itl T.K a) ds (fun U' => U' a = some (.lst xs)) := by
  refine ⟨hl, fun H => SqL T.K H a xs, YAt xs, r.length ▸ walk_list, fun U' G H σ ρ R s h => .of (R.out _ _ h).1, fun i H x H' U' σ ρ G hi y R s => ?_⟩
  obtain ⟨rfl, e⟩ := y
  obtain ⟨d, e2, rd⟩ := r.get e
  exact ⟨G, d, R, L2.Same.refl _, e2, rd.mono s⟩
def signs (z : Str) : List D := z.cps.toList.map fun c => .str (sign c)
theorem yl_str {G0 : Hp} {z : Str} (h : SOk z) : Yl T G0 (Its z) (signs z) (fun _ => True) := by
  have hl : (signs z).length = z.cps.size := by unfold signs; simp
  refine ⟨by rw [hl]; exact h.1, _, _, hl ▸ walk_str, fun _ _ _ _ _ _ _ _ => True.intro, fun i H x H' U' σ ρ G hi y R s => ?_⟩
  obtain ⟨rfl, c, e, rfl⟩ := y
  refine ⟨G, .str (sign c), R, L2.Same.refl _, ?_, rfl, h.sign ?_⟩
  · unfold signs
    rw [List.getElem?_map, Array.getElem?_toList, e]
    rfl
  · rw [← Array.getElem?_toList] at e
    exact List.mem_of_getElem? e
def rangeL (lo : Int) (n : Nat) : List D := (List.range n).map fun i => .int (lo + (i : Nat))
theorem yl_range {G0 : Hp} {lo : Int} {n : Nat} (h : n ≤ 16777216) : Yl T G0 (Itr lo n) (rangeL lo n) (fun _ => True) := by
  have hl : (rangeL lo n).length = n := by unfold rangeL; simp
  refine ⟨by rw [hl, sizeLine_eq]; exact h, fun _ => True, YFn fun i => V.int (lo + (i : Nat)), by rw [hl]; exact walk_range, fun _ _ _ _ _ _ _ _ => True.intro, fun i H x H' U' σ ρ G hi y R s => ?_⟩
  obtain ⟨rfl, rfl⟩ := y
  rw [hl] at hi
  exact ⟨G, .int (lo + (i : Nat)), R, L2.Same.refl _, by unfold rangeL; simp [hi], rfl⟩

/-- a list, a tuple or a text that is walked -/
def iSeqJ (K : PySem.W.Frag) (tl : TE) : TI := fun σ H R => tl σ H fun x H1 => (∃ a xs, x = .ref a ∧ SqL K H1 a xs ∧ (xs.length ≤ sizeLine → R (Itl K a) H1)) ∨ (∃ a xs, x = .ref a ∧ SqT K H1 a xs ∧ (xs.length ≤ sizeLine → R (Itt K a) H1)) ∨ ∃ z, x = .str z ∧ R (Its z) H1
theorem pi_seqJ {l : Expr} {tl : TE} (hl : PE X l tl) : PI X tg l (iSeqJ X.K tl) := by
  refine ⟨fun pins s σ H R I h => ?_⟩
  refine thn (hl.run pins s σ H _ I h) fun v s1 ⟨x, H1, I1, r1, q1⟩ => ?_
  rcases q1 with ⟨a, xs, e, hq, q⟩ | ⟨a, xs, e, hq, q⟩ | ⟨z, e, q⟩
  · subst e
    cases r1
    obtain ⟨its, rv, p, hz⟩ := I1.list hq
    refine wpAny_pyIter_list p.isList ?_
    refine ⟨s1.heap.objs.size, [s1.heap.objs.size], _, _, H1, rfl, I1.kept (t' := s1.toks) fun b o e => Heap.get?_push_of_some _ e, turn_list a _, ⟨_, Heap.get?_push_size _ rfl, rfl, rfl⟩, fun b hb => ?_, q hz⟩
    have e : b = s1.heap.objs.size := by simpa using hb
    subst e
    exact I1.fpOk (Nat.le_refl _) (I1.hok.fresh (Nat.le_refl _))
  · subst e
    cases r1
    obtain ⟨its, rv, p, hz⟩ := I1.tuple hq
    refine wpAny_pyIter_tuple (show s1.heap.IsTuple a its.toArray from p) ?_
    refine ⟨s1.heap.objs.size, [s1.heap.objs.size], _, _, H1, rfl, I1.kept (t' := s1.toks) fun b o e => Heap.get?_push_of_some _ e, turn_tuple a _, ⟨_, Heap.get?_push_size _ rfl, rfl, rfl⟩, fun b hb => ?_, q hz⟩
    have e : b = s1.heap.objs.size := by simpa using hb
    subst e
    exact I1.fpOk (Nat.le_refl _) (I1.hok.fresh (Nat.le_refl _))
  · subst e
    obtain ⟨t, rfl⟩ := r1
    cases ha : z.cps.all (· < 128)
    · exact wpAny_pyIter_wide ha (pi_one (tk := s1.toks) I1 _ (turn_str _ z t "str_iterator" (.inr rfl)) ⟨_, Heap.get?_push_size _ rfl, rfl, rfl⟩ q)
    · exact wpAny_pyIter_ascii ha (pi_one (tk := s1.toks) I1 _ (turn_str _ z t "str_ascii_iterator" (.inl rfl)) ⟨_, Heap.get?_push_size _ rfl, rfl, rfl⟩ q)
def itemsD : D → Option (List D)
  | .lst ds => some ds
  | .tup ds => some ds
  | .scr ds => some ds
  | .str z => some (signs z)
  | _ => none
def iSeq (f : EF) : LF := fun ρ => (f ρ).bnd fun d ρ' => opt (itemsD d) ρ'
theorem ji_seq {e : Expr} {f : EF} (h : JE X T W e f) : JI X T W tg e (iSeq f) := by
  refine ⟨h.k, pi_imp (pi_seqJ h.run) fun σ H R ⟨U, G, ρ, R0, q⟩ => ?_⟩
  refine ⟨U, G, ρ, R0, (Pst.bnd q).mono (L2.Same.refl _) fun d G1 H1 ρ1 _ ⟨R1, s1, p1⟩ v rv => ?_⟩
  obtain ⟨ds, e1, p⟩ := Pst.opt p1
  have q2 := p G1 H1 R1 (L2.Same.refl _)
  rw [h.k]
  cases d <;> simp only [itemsD] at e1 <;> first | (cases e1; done) | skip
  · cases e1
    obtain ⟨rfl, o⟩ := rv
    exact .inr (.inr ⟨_, rfl, q2 _ (yl_str o)⟩)
  · cases e1
    obtain ⟨a, xs, rfl, hs, r⟩ := rv
    exact .inr (.inl ⟨a, xs, rfl, Same.seqT R1.same hs, fun hl => q2 _ (yl_tup (r.length ▸ hl) r hs)⟩)
  · cases e1
    obtain ⟨a, xs, rfl, hs, r⟩ := rv
    exact .inl ⟨a, xs, rfl, .of (R1.same _ _ hs), fun hl => q2 _ (yl_list (r.length ▸ hl) r (.of hs))⟩
  · cases e1
    obtain ⟨a, xs, rfl, hs, r⟩ := rv
    exact .inl ⟨a, xs, rfl, R1.same.seq hs, fun hl => q2 _ (yl_list (r.length ▸ hl) r hs)⟩
/-- range(n), range(a, b) -/
def rng1 : List D → Option (List D)
  | [.int j] => if -(2 ^ 62) ≤ j ∧ j ≤ 16777216 then some (rangeL 0 j.toNat) else none
  | _ => none
def rng2 : List D → Option (List D)
  | [.int i, .int j] => if (-(2 ^ 62) ≤ i ∧ i < 2 ^ 62 ∧ -(2 ^ 62) ≤ j ∧ j < 2 ^ 62) ∧ j - i ≤ 16777216 then some (rangeL i (j - i).toNat) else none
  | _ => none
def iRng (g : List D → Option (List D)) (f : AF) : LF := fun ρ => (f ρ).bnd fun as ρ' => match looks ρ' as with
  | some ds => opt (g ds) ρ'
  | none => .bad
theorem ji_range1 {a : Expr} {p pos : Pos} {f : AF} (ha : JA X T W [a] f) (hm : X.mg "range" = none) (hg : Gl X "range" := by rfl) (hs : starEach [a] X.env = [(false, eval a X.env)] := by rfl) : JI X T W tg (.Call (.Name "range" p) [a] [] pos) (iRng rng1 f) := by
  refine ⟨ha.k, pi_imp (pi_range1 hg hm ha.run hs) fun σ H R ⟨U, G, ρ, R0, q⟩ => ?_⟩
  refine ⟨U, G, ρ, R0, (Pst.bnd q).mono (L2.Same.refl _) fun as G1 H1 ρ1 _ ⟨R1, s1, p1⟩ vs avs => ?_⟩
  cases e : looks ρ1 as with
  | none => rw [e] at p1; exact p1.elim
  | some ds =>
    rw [e] at p1
    obtain ⟨xs, e1, p⟩ := Pst.opt p1
    have rs := looks_ok R1 avs e
    unfold rng1 at e1
    split at e1
    · rename_i j
      split at e1
      · rename_i hj
        cases e1
        obtain ⟨x, rfl, rx⟩ := rs.one
        exact ⟨j, by rw [rx.int], hj.1, by omega, p G1 H1 R1 (L2.Same.refl _) _ (yl_range (by omega))⟩
      · cases e1
    · cases e1
theorem ji_range2 {a b : Expr} {p pos : Pos} {f : AF} (ha : JA X T W [a, b] f) (hm : X.mg "range" = none) (hg : Gl X "range" := by rfl) (hs : starEach [a, b] X.env = [(false, eval a X.env), (false, eval b X.env)] := by rfl) (hs2 : starEach [b] X.env = [(false, eval b X.env)] := by rfl) : JI X T W tg (.Call (.Name "range" p) [a, b] [] pos) (iRng rng2 f) := by
  refine ⟨ha.k, pi_imp (pi_range2 hg hm ha.run hs hs2) fun σ H R ⟨U, G, ρ, R0, q⟩ => ?_⟩
  refine ⟨U, G, ρ, R0, (Pst.bnd q).mono (L2.Same.refl _) fun as G1 H1 ρ1 _ ⟨R1, s1, p1⟩ vs avs => ?_⟩
  cases e : looks ρ1 as with
  | none => rw [e] at p1; exact p1.elim
  | some ds =>
    rw [e] at p1
    obtain ⟨xs, e1, p⟩ := Pst.opt p1
    have rs := looks_ok R1 avs e
    unfold rng2 at e1
    split at e1
    · rename_i i j
      split at e1
      · rename_i hj
        cases e1
        obtain ⟨x, y, rfl, rx, ry⟩ := rs.two
        exact ⟨i, j, by rw [rx.int, ry.int], hj.1, p G1 H1 R1 (L2.Same.refl _) _ (yl_range (by omega))⟩
      · cases e1
    · cases e1

/-! ### for -/
def forS (b : BF) (body : SF) : List D → SF
  | [], ρ => .ok .nx ρ
  | d :: ds, ρ => match b d ρ with
    | some ρ1 => (body ρ1).sq (forS b body ds)
    | none => .bad
def sFor (f : LF) (b : BF) (body : SF) : SF := fun ρ => (f ρ).bnd fun ds ρ' => forS b body ds ρ'
theorem for_core {ws wb : List Nat} {En0 : Ends} {U G1 H1 : Hp} {σ : L2.St} {ρ1 : En} {J : It} {ds : List D} {P : Hp → Prop} {b : BF} {body : SF} (hP : P U) (y : Yl T G1 J ds P) (R1 : Rel T U G1 H1 σ ρ1) (p : PstS T W (wb ++ ws) En0 U σ G1 (forS b body ds ρ1)) :
    ∃ W' : Nat → Nat → L2.St → Hp → Prop, (∃ m, W' 0 m σ H1) ∧ ∀ i m σ H, W' i m σ H →
      (J.stop i H ∧ En0.nx σ H) ∨ (J.go i H ∧ ∃ N : L2.St → Hp → Prop, (∀ σ' H', N σ' H' → ∃ m', m' < m ∧ W' (i + 1) m' σ' H') ∧ ∀ x H', J.yld i H x H' → tG T wb b x σ H' fun σ2 H2 => tS T W ws body { En0 with nx := N, ct := N, bk := En0.nx } σ2 H2) := by
  obtain ⟨hl, C, Y, wk, hold, yld⟩ := y
  refine for_it wk (fun i σ' H' => ∃ G' ρ', Rel T U G' H' σ' ρ' ∧ L2.Same G1 G' ∧ PstS T W (wb ++ ws) En0 U σ' G' (forS b body (ds.drop i) ρ')) ⟨G1, ρ1, R1, L2.Same.refl _, p⟩ (fun i σ' H' _ ⟨G', ρ', R', s', _⟩ => hold U G' H' σ' ρ' R' s' hP) ?_ ?_
  · rintro i x σ' H' H'' hi ⟨G', ρ', R', s', p'⟩ yy
    obtain ⟨G2, d, R2, s2, e2, rd⟩ := yld i H' x H'' U σ' ρ' G' hi yy R' s'
    have hd : ds.drop i = d :: ds.drop (i + 1) := by
      rw [List.drop_eq_getElem_cons hi]
      rw [List.getElem?_eq_getElem hi] at e2
      rw [Option.some.inj e2]
    rw [hd] at p'
    simp only [forS] at p'
    cases e3 : b d ρ' with
    | none => rw [e3] at p'; exact p'.elim
    | some ρ2 =>
      rw [e3] at p'
      refine ⟨U, G2, ρ', d, ρ2, R2, rd, e3, fun σ2 R3 k3 => ⟨U, G2, ρ2, R3, ?_⟩⟩
      have p2 : PstS T W (wb ++ ws) En0 U σ2 G2 ((body ρ2).sq (forS b body (ds.drop (i + 1)))) := PstS.mono (ws' := ws) p' s2 (k3.mono fun j hj => List.mem_append_left _ hj) (fun _ _ z => z) fun _ _ z => z
      refine PstS.wide (ws' := wb ++ ws) ?_ fun j hj => List.mem_append_right _ hj
      refine PstS.sq p2 (fun _ _ z => z) fun σ4 G4 H4 ρ4 R4 s4 k4 p4 => ⟨G4, ρ4, R4, (s'.trans s2).trans s4, p4⟩
  · rintro σ' H' ⟨G', ρ', R', s', p'⟩
    rw [List.drop_length] at p'
    exact p' σ' G' H' R' (L2.Same.refl _) (Keeps.refl _ _)
theorem j_for {iter : Expr} {body : List Stmt} {pos : Pos} {f : LF} {b : BF} {g : SF} {wb ws : List Nat} (hp : PassesOwn (model X.prog X.w) X.A X.env X.xe) (hc : X.calm = true) (hi : JI X T W tg iter f) (hg : JG X T wb tg b) (hb : JSs X T W ws body g)
    (hs : ∀ x, foldedSetIterable iter X.env x = pure x := by intro _; rfl) : JS X T W (wb ++ ws) (.For tg iter body [] pos) (sFor f b g) := by
  refine ⟨hi.k, ps_imp (ps_for hp hc hi.run hg.run hb.run hs) fun D σ H ⟨U, G, ρ, R, q⟩ => ?_⟩
  refine ⟨U, G, ρ, R, (PstS.bndE q).mono (L2.Same.refl _) fun ds G1 H1 ρ1 _ ⟨R1, s1, p⟩ J y => ?_⟩
  exact for_core True.intro y R1 p

/-! ### comprehensions -/
def wipeE (ρ : En) : List Nat → En
  | [] => ρ
  | v :: vs => (wipeE ρ vs).set v .no
/-- the slots vs of ρ laid over ρ' -/
def rst (ρ ρ' : En) : List Nat → En
  | [] => ρ'
  | v :: vs => match ρ[v]? with
    | some s => (rst ρ ρ' vs).set v s
    | none => rst ρ ρ' vs
def noOw (ρ : En) (vs : List Nat) : Bool := vs.all fun v => match ρ[v]? with
  | some (.ow _) => false
  | _ => true
def Rs.calm {α : Type} (r : Rs α) : Rs α := match r with
  | .ok a ρ => .ok a ρ
  | _ => .bad
@[simp] theorem Rs.calm_ok {α : Type} (a : α) (ρ : En) : (Rs.ok a ρ).calm = .ok a ρ := rfl
def lcS (b : BF) (vs : List Nat) (t : TF) (f : EF) : List D → List D → En → Rs D
  | [], acc, ρ => .ok (.lst acc) ρ
  | d :: ds, acc, ρ => match b d (wipeE ρ vs) with
    | none => .bad
    | some ρ1 => (t ρ1).calm.bnd fun ok ρ2 => if ok = true then (f ρ2).calm.bnd fun y ρ3 => lcS b vs t f ds (acc ++ [y]) (rst ρ ρ3 vs) else lcS b vs t f ds acc (rst ρ ρ2 vs)
def eLc (i : LF) (b : BF) (vs : List Nat) (t : TF) (f : EF) : EF := fun ρ => (i ρ).bnd fun ds ρ' => if noOw ρ' vs = true then lcS b vs t f ds [] ρ' else .bad
theorem wipeE_len (ρ : En) : ∀ vs : List Nat, (wipeE ρ vs).length = ρ.length
  | [] => rfl
  | v :: vs => by simp [wipeE, wipeE_len ρ vs]
theorem wipeE_get {ρ : En} {vs : List Nat} {i : Nat} {s : Sl} (h : (wipeE ρ vs)[i]? = some s) (hs : s ≠ .no) : i ∉ vs ∧ ρ[i]? = some s := by
  induction vs with
  | nil => exact ⟨by simp, h⟩
  | cons v vs ih =>
    rcases get_set h with ⟨_, e⟩ | ⟨hi, h⟩
    · exact absurd e.symm hs
    · obtain ⟨h1, h2⟩ := ih h
      exact ⟨by simp [hi, h1], h2⟩
theorem wipe_get_out {σ : L2.St} {vs : List Nat} {i : Nat} (h : i ∉ vs) : (wipe σ vs)[i]? = σ[i]? := wipe_out h
theorem Rel.wiped {U G H : Hp} {σ : L2.St} {ρ : En} {vs : List Nat} (R : Rel T U G H σ ρ) : Rel T U G H (wipe σ vs) (wipeE ρ vs) := by
  refine ⟨R.same, by rw [wipe_length, wipeE_len, R.len], fun i d h => ?_, fun i d h => ?_, fun i j di dj a h1 h2 h3 h4 => ?_, R.out, fun i c ns vs h => by
    obtain ⟨hi, e⟩ := wipeE_get h (by intro z; cases z)
    exact (R.exn i c ns vs e).at (wipe_get_out hi)⟩
  · obtain ⟨hi, e⟩ := wipeE_get h (by intro z; cases z)
    rw [wipe_get_out hi]
    exact R.sh i d e
  · obtain ⟨hi, e⟩ := wipeE_get h (by intro z; cases z)
    rw [wipe_get_out hi]
    exact R.ow i d e
  · obtain ⟨hi, e1⟩ := wipeE_get h1 (by intro z; cases z)
    obtain ⟨hj, e2⟩ := wipeE_get h2 (by intro z; cases z)
    rw [wipe_get_out hi] at h3
    rw [wipe_get_out hj] at h4
    exact R.dist i j di dj a e1 e2 h3 h4
theorem rst_len (ρ ρ' : En) : ∀ vs : List Nat, (rst ρ ρ' vs).length = ρ'.length
  | [] => rfl
  | v :: vs => by
    simp only [rst]
    split
    · rw [List.length_set, rst_len ρ ρ' vs]
    · exact rst_len ρ ρ' vs
theorem rst_get {ρ ρ' : En} (hl : ρ.length = ρ'.length) {vs : List Nat} {i : Nat} : (rst ρ ρ' vs)[i]? = if i ∈ vs then ρ[i]? else ρ'[i]? := by
  induction vs with
  | nil => simp [rst]
  | cons v vs ih =>
    simp only [rst]
    cases e : ρ[v]? with
    | none =>
      show (rst ρ ρ' vs)[i]? = _
      rw [ih]
      by_cases hiv : i = v
      · subst hiv
        have hn : ρ'[i]? = none := by
          rw [List.getElem?_eq_none_iff] at e ⊢
          omega
        simp [e, hn]
      · simp [hiv]
    | some s =>
      show ((rst ρ ρ' vs).set v s)[i]? = _
      by_cases hiv : i = v
      · subst hiv
        have hlt : i < (rst ρ ρ' vs).length := by
          rw [rst_len, ← hl]
          exact (List.getElem?_eq_some_iff.mp e).1
        rw [set_get_same hlt]
        simp [e]
      · rw [set_get_ne hiv, ih]
        simp [hiv]
/-- behind a turn: the block's names are forgotten -/
theorem Rel.back {U G G' H H' : Hp} {σ σ2 : L2.St} {ρ ρ3 : En} {vs : List Nat} (R0 : Rel T U G H σ ρ) (hno : noOw ρ vs = true) (R : Rel T U G' H' σ2 ρ3) (s : L2.Same G G') (hw : wipe σ2 vs = wipe σ vs) : Rel T U G' H' σ (rst ρ ρ3 vs) := by
  have hl2 : σ2.length = σ.length := by have := congrArg List.length hw; rwa [wipe_length, wipe_length] at this
  have hl : ρ.length = ρ3.length := by rw [← R0.len, ← R.len, hl2]
  have out : ∀ {i : Nat}, i ∉ vs → σ2[i]? = σ[i]? := fun {i} hi => by rw [← wipe_get_out hi, hw, wipe_get_out hi]
  have noow : ∀ {i : Nat} {d : D}, i ∈ vs → ρ[i]? ≠ some (.ow d) := fun {i d} hi e => by
    have := List.all_eq_true.mp hno i hi
    rw [e] at this
    cases this
  refine ⟨R.same, by rw [rst_len, ← R.len, hl2], fun i d h => ?_, fun i d h => ?_, fun i j di dj a h1 h2 h3 h4 => ?_, R.out, fun i c ns us h => by
    rw [rst_get hl] at h
    by_cases hi : i ∈ vs
    · rw [if_pos hi] at h
      exact (R0.exn i c ns us h).mono s
    · rw [if_neg hi] at h
      exact (R.exn i c ns us h).at (out hi).symm⟩
  · rw [rst_get hl] at h
    by_cases hi : i ∈ vs
    · rw [if_pos hi] at h
      obtain ⟨v, e, r⟩ := R0.sh i d h
      exact ⟨v, e, r.mono s⟩
    · rw [if_neg hi] at h
      rw [← out hi]
      exact R.sh i d h
  · rw [rst_get hl] at h
    by_cases hi : i ∈ vs
    · rw [if_pos hi] at h
      exact absurd h (noow hi)
    · rw [if_neg hi] at h
      rw [← out hi]
      exact R.ow i d h
  · rw [rst_get hl] at h1 h2
    by_cases hi : i ∈ vs
    · rw [if_pos hi] at h1
      exact absurd h1 (noow hi)
    · by_cases hj : j ∈ vs
      · rw [if_pos hj] at h2
        exact absurd h2 (noow hj)
      · rw [if_neg hi] at h1
        rw [if_neg hj] at h2
        rw [← out hi] at h3
        rw [← out hj] at h4
        exact R.dist i j di dj a h1 h2 h3 h4
theorem noOw_rst {ρ ρ' : En} (hl : ρ.length = ρ'.length) {vs : List Nat} (h : noOw ρ vs = true) : noOw (rst ρ ρ' vs) vs = true := by
  unfold noOw at h ⊢
  rw [List.all_eq_true] at h ⊢
  intro v hv
  rw [rst_get hl, if_pos hv]
  exact h v hv
theorem wipe_keeps {σ σ' : L2.St} {ws vs : List Nat} (k : Keeps ws (wipe σ vs) σ') (hl : σ'.length = σ.length) (h : ∀ j, j ∈ ws → j ∈ vs) : wipe σ' vs = wipe σ vs := by
  apply List.ext_getElem?
  intro i
  by_cases hi : i ∈ vs
  · have key : ∀ {τ : L2.St}, τ.length = σ.length → (wipe τ vs)[i]? = if i < σ.length then some none else none := fun {τ} ht => by
      by_cases hlt : i < σ.length
      · rw [if_pos hlt]
        have hlt' : i < (wipe τ vs).length := by rw [wipe_length, ht]; exact hlt
        rw [List.getElem?_eq_getElem hlt']
        congr 1
        cases e : (wipe τ vs)[i] with
        | none => rfl
        | some x =>
          have e' : (wipe τ vs)[i]? = some (some x) := by rw [List.getElem?_eq_getElem hlt', e]
          exact absurd hi (wipe_some e').2
      · rw [if_neg hlt, List.getElem?_eq_none_iff.mpr]
        rw [wipe_length, ht]; omega
    rw [key hl, key rfl]
  · rw [wipe_get_out hi, k.2 i fun z => hi (h i z), wipe_get_out hi]
abbrev WF : WX := fun _ _ _ _ => False
theorem lc_coreJ {U G1 H1 : Hp} {σ : L2.St} {ρ1 : En} {J : It} {ds : List D} {P : Hp → Prop} {b : BF} {vs wb : List Nat} {t : TF} {f : EF} {Q : VK} (hP : ∀ U', P U → (∀ a o, U a = some o → U' a = some o) → P U') (hPU : P U) (y : Yl T G1 J ds P) (R1 : Rel T U G1 H1 σ ρ1) (hno : noOw ρ1 vs = true) (hwb : ∀ j, j ∈ wb → j ∈ vs)
    (p : Pst T U σ G1 (lcS b vs t f ds [] ρ1) (fun d G' H' ρ' => ∀ p o, G' p = none → U p = none → H' p = some o → RepO T G' o d → (∀ (i : Nat) (d : D), ρ'[i]? = some (.ow d) → σ[i]? ≠ some (some (.ref p))) → Q (.ref p) H') WF) :
    ∀ D, H1 D = none → ∃ W : Nat → Nat → Hp → Prop, (∃ m, W 0 m (upd H1 D (.lst []))) ∧ ∀ i m H, W i m H →
      (J.stop i H ∧ Q (.ref D) H) ∨ (J.go i H ∧ ∃ Nx : Hp → Prop, (∀ H', Nx H' → ∃ m', m' < m ∧ W (i + 1) m' H') ∧ ∀ x H', J.yld i H x H' → tG T wb b x (wipe σ vs) H' fun σ2 H2 => wipe σ2 vs = wipe σ vs ∧ tT T WF t σ2 H2 fun c H3 =>
        if c = true then tE T WF f σ2 H3 fun y H4 => ∃ acc, H4 D = some (.lst acc) ∧ acc.length < sizeLine ∧ Nx (upd H4 D (.lst (acc ++ [y]))) else Nx H3) := by
  intro Dp hD
  obtain ⟨hl, C, Y, wk, hold, yld⟩ := y
  have UD := R1.ufree hD
  have PU : ∀ o, P (upd U Dp o) := fun o => hP _ hPU fun a q e => by
    have ne : a ≠ Dp := fun z => by subst z; rw [UD] at e; cases e
    rw [upd_ne ne]; exact e
  refine lc_it wk (fun i H' => ∃ (acc : List D) (vacc : List V) (G' : Hp) (ρ' : En), acc.length ≤ i ∧ Reps T G' vacc acc ∧ Rel T (upd U Dp (.lst vacc)) G' H' σ ρ' ∧ L2.Same G1 G' ∧ noOw ρ' vs = true ∧
    Pst T U σ G' (lcS b vs t f (ds.drop i) acc ρ') (fun d G' H' ρ' => ∀ p o, G' p = none → U p = none → H' p = some o → RepO T G' o d → (∀ (i : Nat) (d : D), ρ'[i]? = some (.ow d) → σ[i]? ≠ some (some (.ref p))) → Q (.ref p) H') WF)
    ⟨[], [], G1, ρ1, Nat.le_refl _, rfl, R1.hold hD, L2.Same.refl _, hno, p⟩ (fun i H' _ ⟨acc, vacc, G', ρ', _, _, R', s', _⟩ => hold _ G' H' σ ρ' R' s' (PU _)) ?_ ?_
  · rintro i x H' H'' hi ⟨acc, vacc, G', ρ', hacc, ra, R', s', hno', p'⟩ yy
    obtain ⟨G2, d, R2, s2, e2, rd⟩ := yld i H' x H'' _ σ ρ' G' hi yy R' s'
    have hd : ds.drop i = d :: ds.drop (i + 1) := by
      rw [List.drop_eq_getElem_cons hi]
      rw [List.getElem?_eq_getElem hi] at e2
      rw [Option.some.inj e2]
    rw [hd] at p'
    simp only [lcS] at p'
    cases e3 : b d (wipeE ρ' vs) with
    | none => rw [e3] at p'; exact p'.elim
    | some ρ2 =>
      rw [e3] at p'
      dsimp only at p'
      refine ⟨_, G2, wipeE ρ' vs, d, ρ2, R2.wiped, rd, e3, fun σ2 R3 k3 => ?_⟩
      have hlen2 : σ2.length = σ.length := by rw [k3.1, wipe_length]
      have hw := wipe_keeps k3 hlen2 hwb
      cases e4 : t ρ2 with
      | ex c ns vs2 ρ3 => rw [e4] at p'; exact p'.elim
      | bad => rw [e4] at p'; exact p'.elim
      | ok c ρ3 =>
      rw [e4] at p'
      refine ⟨hw, _, G2, ρ2, R3, ?_⟩
      rw [e4]
      intro G3 H3 R4 s4
      have hl3 : ρ'.length = ρ3.length := by rw [← R'.len, ← R4.len, hlen2]
      have p3 : Pst T U σ G3 (if c = true then (f ρ3).calm.bnd fun y ρ3 => lcS b vs t f (ds.drop (i + 1)) (acc ++ [y]) (rst ρ' ρ3 vs) else lcS b vs t f (ds.drop (i + 1)) acc (rst ρ' ρ3 vs)) (fun d G' H' ρ' => ∀ p o, G' p = none → U p = none → H' p = some o → RepO T G' o d → (∀ (i : Nat) (d : D), ρ'[i]? = some (.ow d) → σ[i]? ≠ some (some (.ref p))) → Q (.ref p) H') WF := Pst.mono (G1 := G3) p' (s2.trans s4) fun _ _ _ _ _ z => z
      cases c with
      | false =>
        rw [if_neg Bool.false_ne_true] at p3
        show (if false = true then _ else _)
        rw [if_neg Bool.false_ne_true]
        exact ⟨acc, vacc, G3, _, Nat.le_succ_of_le hacc, ra.mono (s2.trans s4), Rel.back R' hno' R4 (s2.trans s4) hw, (s'.trans s2).trans s4, noOw_rst hl3 hno', p3⟩
      | true =>
        rw [if_pos rfl] at p3
        show (if true = true then _ else _)
        rw [if_pos rfl]
        refine ⟨_, G3, ρ3, R4, ?_⟩
        cases e5 : f ρ3 with
        | ex c ns vs2 ρ3 => rw [e5] at p3; exact p3.elim
        | bad => rw [e5] at p3; exact p3.elim
        | ok y ρ4 =>
        rw [e5] at p3
        intro G4 H4 R5 s5 v rv
        have hl4 : ρ'.length = ρ4.length := by rw [← R'.len, ← R5.len, hlen2]
        have hO := R5.out Dp _ upd_same
        have R6 := (Rel.back R' hno' R5 ((s2.trans s4).trans s5) hw).held (o' := .lst (vacc ++ [v])) upd_same
        rw [upd_upd] at R6
        refine ⟨vacc, hO.1, ?_, acc ++ [y], vacc ++ [v], G4, rst ρ' ρ4 vs, ?_, (ra.mono ((s2.trans s4).trans s5)).app (.one rv), R6, ((s'.trans s2).trans s4).trans s5, noOw_rst hl4 hno', Pst.mono (G1 := G4) p3 s5 fun _ _ _ _ _ z => z⟩
        · rw [ra.length]; omega
        · rw [List.length_append, List.length_singleton]; omega
  · rintro H' ⟨acc, vacc, G', ρ', hacc, ra, R', s', hno', p'⟩
    rw [List.drop_length] at p'
    have hH := (R'.out Dp _ upd_same)
    have eU : unheld (upd U Dp (.lst vacc)) Dp = U := by
      funext a
      by_cases ha : a = Dp
      · subst ha; rw [unheld_same, UD]
      · rw [unheld_ne ha, upd_ne ha]
    have R2 : Rel T U G' H' σ ρ' := eU ▸ R'.unhold (p := Dp)
    exact p' G' H' R2 (L2.Same.refl _) Dp _ hH.2 UD hH.1 ⟨vacc, rfl, ra⟩ fun j e h1 h2 => by
      obtain ⟨a, o, e1, _, u, _⟩ := R'.ow j e h1
      rw [h2] at e1
      cases e1
      rw [upd_same] at u
      cases u
theorem lcS_nox {b : BF} {vs : List Nat} {t : TF} {f : EF} : ∀ (ds acc : List D) (ρ : En) c ns vs2 ρ', lcS b vs t f ds acc ρ ≠ .ex c ns vs2 ρ' := by
  intro ds
  induction ds with
  | nil => intro acc ρ c ns vs2 ρ' h; cases h
  | cons d ds ih =>
    intro acc ρ c ns vs2 ρ' h
    simp only [lcS] at h
    cases e : b d (wipeE ρ vs) with
    | none => rw [e] at h; cases h
    | some ρ1 =>
      rw [e] at h
      dsimp only at h
      cases e2 : t ρ1 with
      | ex _ _ _ _ => rw [e2] at h; cases h
      | bad => rw [e2] at h; cases h
      | ok c2 ρ2 =>
        rw [e2] at h
        simp only [Rs.calm_ok, Rs.bnd_ok] at h
        cases c2 with
        | false => exact ih _ _ _ _ _ _ h
        | true =>
          rw [if_pos rfl] at h
          cases e3 : f ρ2 with
          | ex _ _ _ _ => rw [e3] at h; cases h
          | bad => rw [e3] at h; cases h
          | ok y ρ3 =>
            rw [e3] at h
            exact ih _ _ _ _ _ _ h
/-- [elt for tg in iter if t] -/
theorem j_lcO {elt iter : Expr} {ifs : List Expr} {scope : Scope} {own : List (Str × Nat)} {pos : Pos} {i : LF} {b : BF} {wb : List Nat} {t : TF} {f : EF} (hc : X.calm = true) (hN : X.N.Nodup) (hi : JI X T W tg iter i) (ok : BlkOk X.N X.env.scope scope own) (hwb : ∀ j, j ∈ wb → j ∈ own.map (·.2))
    (hg : ∀ (s : Shared) (H : Hp) (C : Addr) (cl : List (Str × Addr)) (fp : List Addr), JG (X.blk s H scope (compEnvC scope cl C X.env) fp) T wb tg b)
    (ht : ∀ (s : Shared) (H : Hp) (C : Addr) (cl : List (Str × Addr)) (fp : List Addr), PTs (X.blk s H scope (compEnvC scope cl C X.env) fp) ifs (tT T WF t))
    (he : ∀ (s : Shared) (H : Hp) (C : Addr) (cl : List (Str × Addr)) (fp : List Addr), JE (X.blk s H scope (compEnvC scope cl C X.env) fp) T WF elt f) (hs : ∀ x, foldedSetIterable iter X.env x = pure x := by intro _; rfl) :
    JO X T W (.ListComp elt [⟨tg, iter, ifs, 0⟩] scope pos) (eLc i b (own.map (·.2)) t f) := by
  refine ⟨hi.k, pe_imp (pe_lc hc hN hi.run ok (fun s H C cl fp => (hg s H C cl fp).run) ht (fun s H C cl fp => (he s H C cl fp).run) hs) fun σ H Q ⟨U, G, ρ, R, q⟩ => ?_⟩
  exact lc_red hwb R q
where
  lc_red {own : List (Str × Nat)} {i : LF} {b : BF} {wb : List Nat} {t : TF} {f : EF} {U G H : Hp} {σ : L2.St} {ρ : En} {Q : VK} (hwb : ∀ j, j ∈ wb → j ∈ own.map (·.2)) (R : Rel T U G H σ ρ)
    (q : Pst T U σ G (eLc i b (own.map (·.2)) t f ρ) (fun d G' H' ρ' => ∀ p o, G' p = none → U p = none → H' p = some o → RepO T G' o d → (∀ (i : Nat) (d : D), ρ'[i]? = some (.ow d) → σ[i]? ≠ some (some (.ref p))) → Q (.ref p) H') W) :
      tLc (fun σ H R => ∃ U G ρ, Rel T U G H σ ρ ∧ Pst T U σ G (i ρ) (fun ds G' H' _ => ∀ J, Yl T G' J ds (fun _ => True) → R J H') W) (tG T wb b) (tT T WF t) (tE T WF f) (own.map (·.2)) σ H Q := by
    refine ⟨U, G, ρ, R, (Pst.bnd q).mono (L2.Same.refl _) fun ds G1 H1 ρ1 _ ⟨R1, s1, p⟩ J y => ?_⟩
    cases e : noOw ρ1 (own.map (·.2)) with
    | false => rw [e] at p; exact p.elim
    | true =>
      rw [e, if_pos rfl] at p
      exact lc_coreJ (P := fun _ => True) (fun _ _ _ => True.intro) True.intro y R1 e hwb (lc_nox p)
  lc_nox {U G : Hp} {σ : L2.St} {ρ : En} {b : BF} {vs : List Nat} {t : TF} {f : EF} {ds acc : List D} {Q : D → Hp → Hp → En → Prop} (p : Pst T U σ G (lcS b vs t f ds acc ρ) Q W) : Pst T U σ G (lcS b vs t f ds acc ρ) Q WF := by
    cases e : lcS b vs t f ds acc ρ with
    | ok a ρ' => rw [e] at p; exact p
    | ex c ns vs2 ρ' => exact absurd e (lcS_nox _ _ _ _ _ _ _)
    | bad => rw [e] at p; exact p
/-- no test -/
def tYesJ : TF := fun ρ => .ok true ρ
theorem jts_nil : PTs X [] (tT T WF tYesJ) := by
  refine ⟨fun pins s σ H Q I ⟨U, G, ρ, R, q⟩ => pts_nil.run pins s σ H Q I (q G H R (L2.Same.refl _))⟩
theorem jts_one {c : Expr} {t : TF} (h : JT X T WF c t) : PTs X [c] (tT T WF t) := pts_one h.run
/-- y = [..], on one line -/
theorem j_setLc {i : Nat} {y : Str} {py : Pos} {elt iter : Expr} {ifs : List Expr} {scope : Scope} {own : List (Str × Nat)} {pos spos : Pos} {it : LF} {b : BF} {wb : List Nat} {t : TF} {f : EF} (hc : X.calm = true) (hN : X.N.Nodup) (hi : JI X T W tg iter it) (ok : BlkOk X.N X.env.scope scope own) (hwb : ∀ j, j ∈ wb → j ∈ own.map (·.2))
    (hg : ∀ (s : Shared) (H : Hp) (C : Addr) (cl : List (Str × Addr)) (fp : List Addr), JG (X.blk s H scope (compEnvC scope cl C X.env) fp) T wb tg b)
    (ht : ∀ (s : Shared) (H : Hp) (C : Addr) (cl : List (Str × Addr)) (fp : List Addr), PTs (X.blk s H scope (compEnvC scope cl C X.env) fp) ifs (tT T WF t))
    (he : ∀ (s : Shared) (H : Hp) (C : Addr) (cl : List (Str × Addr)) (fp : List Addr), JE (X.blk s H scope (compEnvC scope cl C X.env) fp) T WF elt f)
    (hsw : swapsWith (.ListComp elt [⟨tg, iter, ifs, 0⟩] scope pos) (some (.Name y py)) spos.line X.env = pure true)
    (hy : X.N[i]? = some y := by rfl) (hyl : X.env.scope.names.lookup y = some .local := by rfl) (hs : ∀ x, foldedSetIterable iter X.env x = pure x := by intro _; rfl) :
    JS X T W [i] (.Assign [.Name y py] (.ListComp elt [⟨tg, iter, ifs, 0⟩] scope pos) spos) (sSetO i (eLc it b (own.map (·.2)) t f)) := by
  refine ⟨hi.k, ps_imp (ps_setLc hc hN hy hyl hsw hi.run ok (fun s H C cl fp => (hg s H C cl fp).run) ht (fun s H C cl fp => (he s H C cl fp).run) hs) fun D σ H ⟨U, G, ρ, R, q⟩ => ?_⟩
  refine j_lcO.lc_red (Q := fun x H1 => gName i x σ H1 D.nx) hwb R ?_
  exact (PstS.bndE q).mono (L2.Same.refl _) fun d G' H' ρ' _ ⟨R', s, p⟩ a o g u hh r hn => p _ G' H' (R'.setOw u g hh r hn) (L2.Same.refl _) Keeps.set
end
end J

set_option Elab.async false
set_option linter.all false
set_option maxRecDepth 100000
set_option maxHeartbeats 4000000
namespace J
open PySem PySem.Spec PyProof.Rows L2

/-! ### defs as functions -/
inductive Rv where
  | ok (d : D) | ex (c : Nat) (ns : List Nat) (vs : List D) | bad
def Rv.at (r : Rv) (ρ : En) : Rs D := match r with
  | .ok d => .ok d ρ
  | .ex c ns vs => .ex c ns vs ρ
  | .bad => .bad
@[simp] theorem Rv.at_ok (d : D) (ρ : En) : (Rv.ok d).at ρ = .ok d ρ := rfl
@[simp] theorem Rv.at_ex (c : Nat) (ns : List Nat) (vs : List D) (ρ : En) : (Rv.ex c ns vs).at ρ = .ex c ns vs ρ := rfl
@[simp] theorem Rv.at_bad (ρ : En) : Rv.bad.at ρ = .bad := rfl
abbrev FV := List D → Rv
def PstV (T : Tab) (U G : Hp) (r : Rv) (Q : VK) (E : XK) : Prop := match r with
  | .ok d => ∀ G' H', Rel T U G' H' [] [] → L2.Same G G' → ∀ v, Rep T G' v d → Q v H'
  | .ex c ns vs => ∀ cls dx G' H', Rel T U G' H' [] [] → L2.Same G G' → XRep T G' c ns vs cls dx → E cls dx H'
  | .bad => False
/-- a def of n values -/
def spV (T : Tab) (n : Nat) (F : FV) : Sp := fun vs H Q E => vs.length = n ∧ ∃ U G ds, Rel T U G H [] [] ∧ Reps T G vs ds ∧ PstV T U G (F ds) Q E
/-- a def of an owned object, lent, and n values; it raises nothing -/
abbrev FL := D → List D → Option (D × D)
def spL (T : Tab) (n : Nat) (F : FL) : Sp := fun vs H Q E => vs.length = n + 1 ∧ ∃ U G d0 ds p vs', vs = .ref p :: vs' ∧ Rel T U G H [some (.ref p)] [.ow d0] ∧ Reps T G vs' ds ∧
  match F d0 ds with
  | some (d, d1) => ∀ G' H', Rel T U G' H' [some (.ref p)] [.ow d1] → L2.Same G G' → ∀ v, Rep T G' v d → Q v H'
  | none => False
def fnV (m : Nat) (body : SF) : FV := fun ds => match body (ds.map .sh ++ List.replicate m .no) with
  | .ok .nx _ => .ok .non
  | .ok (.rt d) _ => .ok d
  | .ex c ns vs _ => .ex c ns vs
  | .bad => .bad
def ow0 (ρ : En) (d : D) : Option (D × D) := match (ρ[0]? : Option Sl) with
  | some (Sl.ow d1) => some (d, d1)
  | _ => none
def fnL (m : Nat) (body : SF) : FL := fun d0 ds => match body (.ow d0 :: (ds.map .sh ++ List.replicate m .no)) with
  | .ok .nx ρ => ow0 ρ .non
  | .ok (.rt d) ρ => ow0 ρ d
  | .ex _ _ _ _ => none
  | .bad => none

section
variable {T : Tab} {U G H : Hp}
theorem Rel.nil {σ : L2.St} {ρ : En} (R : Rel T U G H σ ρ) : Rel T U G H [] [] :=
  ⟨R.same, rfl, fun i d h => by simp at h, fun i d h => by simp at h, fun i j d d' a h => by simp at h, R.out, fun i c ns vs h => by simp at h⟩
theorem Rel.entry {vs : List V} {ds : List D} (R : Rel T U G H [] []) (r : Reps T G vs ds) (m : Nat) : Rel T U G H (vs.map some ++ List.replicate m none) (ds.map .sh ++ List.replicate m .no) := by
  have hl := r.length
  have key : ∀ (i : Nat) (s : Sl), (ds.map Sl.sh ++ List.replicate m .no)[i]? = some s → s ≠ .no → ∃ d, ds[i]? = some d ∧ s = .sh d := fun i s h hs => by
    by_cases hi : i < ds.length
    · rw [List.getElem?_append_left (by simpa using hi), List.getElem?_map] at h
      rw [List.getElem?_eq_getElem hi] at h ⊢
      exact ⟨_, rfl, by cases h; rfl⟩
    · rw [List.getElem?_append_right (by simpa using hi), List.getElem?_replicate] at h
      split at h
      · cases h; exact absurd rfl hs
      · cases h
  refine ⟨R.same, by simp [hl], fun i d h => ?_, fun i d h => ?_, fun i j d d' a h => ?_, R.out, fun i c ns vs h => by
    obtain ⟨d', e, e2⟩ := key i _ h (by intro z; cases z)
    cases e2⟩
  · obtain ⟨d', e, e2⟩ := key i _ h (by intro z; cases z)
    cases e2
    obtain ⟨x, e3, r3⟩ := r.getD e
    refine ⟨x, ?_, r3⟩
    have hi := (List.getElem?_eq_some_iff.mp e3).1
    rw [List.getElem?_append_left (by simpa using hi), List.getElem?_map, e3]
    rfl
  · obtain ⟨d', e, e2⟩ := key i _ h (by intro z; cases z)
    cases e2
  · obtain ⟨d', e, e2⟩ := key i _ h (by intro z; cases z)
    cases e2
theorem Rel.entryL {p : Addr} {d0 : D} {vs : List V} {ds : List D} (R : Rel T U G H [some (.ref p)] [.ow d0]) (r : Reps T G vs ds) (m : Nat) :
    Rel T U G H (some (.ref p) :: (vs.map some ++ List.replicate m none)) (.ow d0 :: (ds.map .sh ++ List.replicate m .no)) := by
  have E := Rel.entry R.nil r m
  refine ⟨R.same, by simpa using E.len, fun i d h => ?_, fun i d h => ?_, fun i j d d' a h1 h2 h3 h4 => ?_, R.out, fun i c ns vs h => by
    cases i with
    | zero => cases h
    | succ i => exact E.exn i c ns vs h⟩
  · cases i with
    | zero => cases h
    | succ i => exact E.sh i d h
  · cases i with
    | zero => exact R.ow 0 d h
    | succ i => exact E.ow i d h
  · cases i with
    | zero =>
      cases j with
      | zero => rfl
      | succ j => exact absurd h2 (noOw' j d')
    | succ i => exact absurd h1 (noOw' i d)
where
  noOw' {ds : List D} {m : Nat} (i : Nat) (d : D) : (ds.map Sl.sh ++ List.replicate m .no)[i]? ≠ some (.ow d) := fun h => by
    rcases List.mem_append.mp (List.mem_of_getElem? h) with h | h
    · obtain ⟨_, _, z⟩ := List.mem_map.mp h
      cases z
    · cases (List.eq_of_mem_replicate h)
theorem Rel.exitL {p : Addr} {σ' : L2.St} {ρ' : En} {d1 : D} (R : Rel T U G H σ' ρ') (hσ : σ'[0]? = some (some (.ref p))) (hρ : ρ'[0]? = some (.ow d1)) : Rel T U G H [some (.ref p)] [.ow d1] := by
  refine ⟨R.same, rfl, fun i d h => ?_, fun i d h => ?_, fun i j d d' a h1 h2 h3 h4 => ?_, R.out, fun i c ns vs h => by
    cases i with
    | zero => cases h
    | succ i => simp at h⟩
  · cases i with
    | zero => cases h
    | succ i => simp at h
  · cases i with
    | zero =>
      cases h
      obtain ⟨a, o, e, r⟩ := R.ow 0 _ hρ
      rw [hσ] at e
      exact ⟨a, o, e, r⟩
    | succ i => simp at h
  · cases i with
    | zero =>
      cases j with
      | zero => rfl
      | succ j => simp at h2
    | succ i => simp at h1
/-- what a callee must leave alone -/
def lift (H G : Hp) : Hp := fun a => match G a with
  | some _ => none
  | none => H a
theorem lift_ok {H G : Hp} {a : Addr} {o : HO} : lift H G a = some o ↔ H a = some o ∧ G a = none := by
  unfold lift
  cases e : G a with
  | some _ => simp
  | none => simp
theorem Rel.lift {σ : L2.St} {ρ : En} (R : Rel T U G H σ ρ) : Rel T (lift H G) G H [] [] :=
  ⟨R.same, rfl, fun i d h => by simp at h, fun i d h => by simp at h, fun i j d d' a h => by simp at h, fun a o h => lift_ok.mp h, fun i c ns vs h => by simp at h⟩
theorem Rel.over {σ : L2.St} {ρ : En} {G' H' : Hp} (R : Rel T U G H σ ρ) (R2 : Rel T (J.lift H G) G' H' [] []) (s : L2.Same G G') : Rel T U G' H' σ ρ := by
  refine ⟨R2.same, R.len, fun i d h => ?_, fun i d h => ?_, R.dist, fun a o h => ?_, fun i c ns vs h => (R.exn i c ns vs h).mono s⟩
  · obtain ⟨v, e, r⟩ := R.sh i d h
    exact ⟨v, e, r.mono s⟩
  · obtain ⟨a, o, e, g, u, hh, r⟩ := R.ow i d h
    obtain ⟨h1, h2⟩ := R2.out a o (lift_ok.mpr ⟨hh, g⟩)
    exact ⟨a, o, e, h2, u, h1, r.mono s⟩
  · obtain ⟨h1, h2⟩ := R.out a o h
    exact R2.out a o (lift_ok.mpr ⟨h1, h2⟩)
theorem Rel.lend {σ : L2.St} {ρ : En} {i : Nat} {d : D} (R : Rel T U G H σ ρ) (h : ρ[i]? = some (.ow d)) :
    ∃ p, σ[i]? = some (some (.ref p)) ∧ Rel T (unheld (J.lift H G) p) G H [some (.ref p)] [.ow d] := by
  obtain ⟨p, o, e, g, u, hh, r⟩ := R.ow i d h
  refine ⟨p, e, R.same, rfl, fun j d' h' => ?_, fun j d' h' => ?_, fun j k d1 d2 a h1 h2 _ _ => ?_, fun a q h' => ?_, fun j c ns vs h' => by
    cases j with
    | zero => cases h'
    | succ j => simp at h'⟩
  · cases j with
    | zero => cases h'
    | succ j => simp at h'
  · cases j with
    | zero =>
      cases h'
      exact ⟨p, o, rfl, g, unheld_same, hh, r⟩
    | succ j => simp at h'
  · cases j with
    | zero =>
      cases k with
      | zero => rfl
      | succ j => simp at h2
    | succ j => simp at h1
  · by_cases ha : a = p
    · rw [ha, unheld_same] at h'; cases h'
    · rw [unheld_ne ha] at h'
      exact lift_ok.mp h'
theorem Rel.overL {σ : L2.St} {ρ : En} {G' H' : Hp} {i : Nat} {d d1 : D} {p : Addr} (R : Rel T U G H σ ρ) (h : ρ[i]? = some (.ow d)) (hp : σ[i]? = some (some (.ref p))) (R2 : Rel T (unheld (J.lift H G) p) G' H' [some (.ref p)] [.ow d1]) (s : L2.Same G G') :
    Rel T U G' H' σ (ρ.set i (.ow d1)) := by
  obtain ⟨p', o', e, g, u, hh, r⟩ := R.ow i d h
  rw [hp] at e
  cases e
  refine ⟨R2.same, by simp [R.len], fun j e h' => ?_, fun j e h' => ?_, fun j k dj dk a h1 h2 h3 h4 => ?_, fun a o h' => ?_, fun j c ns vs h' => by
    rcases get_set h' with ⟨_, z⟩ | ⟨_, h'⟩
    · cases z
    · exact (R.exn j c ns vs h').mono s⟩
  · rcases get_set h' with ⟨_, z⟩ | ⟨hj, h'⟩
    · cases z
    · obtain ⟨v, e1, r1⟩ := R.sh j e h'
      exact ⟨v, e1, r1.mono s⟩
  · rcases get_set h' with ⟨rfl, z⟩ | ⟨hj, h'⟩
    · cases z
      obtain ⟨a, o, e1, g1, _, h1, r1⟩ := R2.ow 0 _ rfl
      cases e1
      exact ⟨_, o, hp, g1, u, h1, r1⟩
    · obtain ⟨a, o, e1, g1, u1, h1, r1⟩ := R.ow j e h'
      have ne : a ≠ p := fun z => by subst z; exact hj (R.dist j i e d a h' h e1 hp)
      obtain ⟨h3, h4⟩ := R2.out a o (by rw [unheld_ne ne]; exact lift_ok.mpr ⟨h1, g1⟩)
      exact ⟨a, o, e1, h4, u1, h3, r1.mono s⟩
  · have key : ∀ {k : Nat} {dk : D}, (ρ.set i (Sl.ow d1))[k]? = some (Sl.ow dk) → ∃ dk', ρ[k]? = some (Sl.ow dk') := fun {k dk} h' => by
      rcases get_set h' with ⟨e, _⟩ | ⟨_, h'⟩
      · exact ⟨d, by rw [e]; exact h⟩
      · exact ⟨dk, h'⟩
    obtain ⟨d1, k1⟩ := key h1
    obtain ⟨d2, k2⟩ := key h2
    exact R.dist j k d1 d2 a k1 k2 h3 h4
  · obtain ⟨h1, h2⟩ := R.out a o h'
    have ne : a ≠ p := fun z => by subst z; rw [u] at h'; cases h'
    exact R2.out a o (by rw [unheld_ne ne]; exact lift_ok.mpr ⟨h1, h2⟩)
end

/-! ### a def by its body -/
abbrev WO (E : XK) : WX := fun cls d _ H => E cls d H
section
variable {P : Program} {w : World} {K : PySem.W.Frag} {mg : Str → Option Value} {base : Heap} {T : Tab}
theorem start_at {N ps : List Str} {vs : List V} {m : Nat} (hN : N.length = ps.length + m) (hl : vs.length = ps.length) : L2.start N vs = vs.map some ++ List.replicate m none := by
  unfold L2.start
  rw [hN, hl, Nat.add_sub_cancel_left]
theorem fnV_ok {x qual : Str} {st : Stmt} {f : Addr} {fd : FuncData} {N ps : List Str} {k m : Nat} {ws : List Nat} {body : SF} (F : Fun K x qual st f fd) (S : FnScope N ps (defScope st)) (hN : N.length = ps.length + m)
    (hbody : ∀ (cdv : Value) (A : Around) (outer : List Env) (s : Shared) (H : Hp) (E : XK), Room k (A.deeper (envOfC qual (defScope st) s.heap.objs.size f cdv)) →
      JSs (cxOf (L2.CX P w) P w K mg base N qual (defScope st) f cdv A outer s H E) T (WO E) ws (defBody st) body) : FnOk P w K mg base (L2.CX P w) (k + 1) f fd ps (spV T ps.length (fnV m body)) := by
  refine F.okX S (fun vs H Q E h => h.1) (fun cdv A outer s H vs Q E hr h => ?_)
  obtain ⟨hl, U, G, ds, R, r, p⟩ := h
  refine ⟨_, (hbody cdv A outer s H E hr).run, U, G, _, start_at hN hl ▸ R.entry r m, ?_⟩
  unfold fnV at p
  cases e : body (ds.map .sh ++ List.replicate m .no) with
  | ok a ρ' =>
    rw [e] at p
    cases a with
    | nx => exact fun σ' G' H' R' s' _ => p G' H' R'.nil s' _ rfl
    | rt d => exact fun v σ' G' H' R' s' _ r' => p G' H' R'.nil s' v r'
  | ex c ns vs ρ' => rw [e] at p; exact fun cls dx σ' G' H' R' s' _ x => p cls dx G' H' R'.nil s' x
  | bad => rw [e] at p; exact p.elim
theorem fnL_ok {x qual : Str} {st : Stmt} {f : Addr} {fd : FuncData} {N ps : List Str} {k m n : Nat} {ws : List Nat} {body : SF} (F : Fun K x qual st f fd) (S : FnScope N ps (defScope st)) (hN : N.length = ps.length + m) (hn : ps.length = n + 1) (hw : 0 ∉ ws)
    (hbody : ∀ (cdv : Value) (A : Around) (outer : List Env) (s : Shared) (H : Hp) (E : XK), Room k (A.deeper (envOfC qual (defScope st) s.heap.objs.size f cdv)) →
      JSs (cxOf (L2.CX P w) P w K mg base N qual (defScope st) f cdv A outer s H E) T (WO E) ws (defBody st) body) : FnOk P w K mg base (L2.CX P w) (k + 1) f fd ps (spL T n (fnL m body)) := by
  refine F.okX S (fun vs H Q E h => h.1.trans hn.symm) (fun cdv A outer s H vs Q E hr h => ?_)
  obtain ⟨hl, U, G, d0, ds, q, vs', rfl, R, r, p⟩ := h
  refine ⟨_, (hbody cdv A outer s H E hr).run, U, G, _, (by rw [start_at hN (hl.trans hn.symm)]; exact R.entryL r m), ?_⟩
  have hσ : ∀ σ', Keeps ws (L2.start N (V.ref q :: vs')) σ' → σ'[0]? = some (some (.ref q)) := fun σ' k => by
    rw [k.2 0 hw, start_at hN (hl.trans hn.symm)]
    rfl
  unfold fnL at p
  cases e : body (.ow d0 :: (ds.map .sh ++ List.replicate m .no)) with
  | ok a ρ' =>
    rw [e] at p
    cases a with
    | nx =>
      simp only [ow0] at p
      split at p
      · rename_i d d1 e2
        split at e2
        · rename_i e3
          cases e2
          exact fun σ' G' H' R' s' k' => p G' H' (R'.exitL (hσ σ' k') e3) s' _ rfl
        · cases e2
      · exact p.elim
    | rt d =>
      simp only [ow0] at p
      split at p
      · rename_i d d1 e2
        split at e2
        · rename_i e3
          cases e2
          exact fun v σ' G' H' R' s' k' r' => p G' H' (R'.exitL (hσ σ' k') e3) s' v r'
        · cases e2
      · exact p.elim
  | ex c ns vs ρ' => rw [e] at p; exact p.elim
  | bad => rw [e] at p; exact p.elim
end

/-! ### calls -/
section
variable {X : Cx} {T : Tab} {W : WX} {k n : Nat} {f : Addr} {fd : FuncData} {ps : List Str} {x : Str} {p pos : Pos} {e : Expr} {es : List Expr}
def eCall (F : FV) (dd : List D) (g : AF) : EF := fun ρ => (g ρ).bnd fun as ρ' => match vals as with
  | some ds => (F (ds ++ dd)).at ρ'
  | none => .bad
theorem call_red {F : FV} {g : AF} {dd : List D} {dv : List V} (hlen : ∀ ρ as ρ', g ρ = .ok as ρ' → as.length + dd.length = n) (hdd : ∀ G, Reps T G dv dd) {σ : L2.St} {H : Hp} {Q : VK} (q : tE T W (eCall F dd g) σ H Q) : tCallSD (spV T n F) dv (WE W) (tA T W g) σ H Q := by
  obtain ⟨U, G, ρ, R, q⟩ := q
  refine ⟨U, G, ρ, R, ?_⟩
  have q' := Pst.bnd q
  cases hf : g ρ with
  | ok as ρ' =>
    rw [hf] at q'
    intro G1 H1 R1 s1 vs avs
    obtain ⟨_, _, p⟩ := q' G1 H1 R1 s1
    cases e2 : vals as with
    | none => rw [e2] at p; exact p.elim
    | some ds =>
      rw [e2] at p
      have rs := vals_ok avs e2
      refine ⟨?_, J.lift H1 G1, G1, ds ++ dd, R1.lift, rs.app (hdd G1), ?_⟩
      · rw [List.length_append, ars_len avs, (hdd G1).length]
        exact hlen _ _ _ hf
      · dsimp only at p
        cases e3 : F (ds ++ dd) with
        | ok d => rw [e3] at p; exact fun G2 H2 R2 s2 v r => p G2 H2 (R1.over R2 s2) s2 v r
        | ex c ns vs => rw [e3] at p; exact fun cls dx G2 H2 R2 s2 x => p cls dx G2 H2 (R1.over R2 s2) s2 x
        | bad => rw [e3] at p; exact p.elim
  | ex c ns vs ρ' => rw [hf] at q'; exact q'
  | bad => rw [hf] at q'; exact q'
theorem j_call {F : FV} {g : AF} {dd : List D} {dv : List V} {dvs : List Value} (Fo : FnOk X.prog X.w X.K X.mg X.base (L2.CX X.prog X.w) k f fd ps (spV T n F)) (hr : Room k X.A) (hm : X.mg x = some (.ref f)) (hk : PySem.W.keepIn X.K (.ref f) = true) (hb : Binds X.K fd ps dvs) (hd : Vals dv dvs) (hdd : ∀ G, Reps T G dv dd) (tk : Takes X W)
    (ha : JA X T W (e :: es) g) (hn : (e :: es).length + dd.length = n) (hg : Gl X x := by rfl) (hdb : (x == ("__debug__" : Str)) = false := by decide) (he : starEach (e :: es) X.env = (false, eval e X.env) :: starEach es X.env := by rfl) (hpl : (backTo pos (starEach es X.env)).any (·.1) = false := by rfl) :
    JE X T W (.Call (.Name x p) (e :: es) [] pos) (eCall F dd g) :=
  ⟨ha.k, pe_imp (pe_callSD Fo hr hg hm hk hb hd (passAt tk) ha.run hdb he hpl) fun σ H Q q => call_red (fun ρ as ρ' h => by rw [ha.len _ _ _ h]; exact hn) hdd q⟩
/-- f() -/
theorem j_call0 {F : FV} {dd : List D} {dv : List V} {dvs : List Value} (Fo : FnOk X.prog X.w X.K X.mg X.base (L2.CX X.prog X.w) k f fd ps (spV T n F)) (hr : Room k X.A) (hm : X.mg x = some (.ref f)) (hk : PySem.W.keepIn X.K (.ref f) = true) (hb : Binds X.K fd ps dvs) (hd : Vals dv dvs) (hdd : ∀ G, Reps T G dv dd) (tk : Takes X W)
    (hK : X.K = T.K) (hn : dd.length = n) (hg : Gl X x := by rfl) (hdb : (x == ("__debug__" : Str)) = false := by decide) : JE X T W (.Call (.Name x p) [] [] pos) (eCall F dd aNil) := by
  refine ⟨hK, ⟨fun pins s σ H Q I q => ?_⟩⟩
  have q2 := call_red (n := n) (dv := dv) (fun ρ as ρ' h => by cases h; simpa using hn) hdd q
  obtain ⟨U, G, ρ, R, q3⟩ := q2
  refine wpAny_Call_Name_kw (ld_glob I hg hm ?_ hdb)
  refine PySem.W.callWith_K0 I.kIn hk ?_
  exact run_fnSD (us := []) (vs := []) Fo hr hb hd (passAt tk σ) I .nil (q3 G H R (L2.Same.refl _) [] True.intro)
/-- f(o, ..), o lent -/
def eCallL (F : FL) (g : AF) : EF := fun ρ => (g ρ).bnd fun as ρ' => match as with
  | .s i :: r => (match ρ'[i]?, vals r with
    | some (.ow d0), some ds => (match F d0 ds with
      | some (d, d1) => .ok d (ρ'.set i (.ow d1))
      | none => .bad)
    | _, _ => .bad)
  | _ => .bad
theorem j_callL {F : FL} {g : AF} (Fo : FnOk X.prog X.w X.K X.mg X.base (L2.CX X.prog X.w) k f fd ps (spL T n F)) (hr : Room k X.A) (hm : X.mg x = some (.ref f)) (hk : PySem.W.keepIn X.K (.ref f) = true) (hb : Binds X.K fd ps []) (tk : Takes X W)
    (ha : JA X T W (e :: es) g) (hn : (e :: es).length = n + 1) (hg : Gl X x := by rfl) (hdb : (x == ("__debug__" : Str)) = false := by decide) (he : starEach (e :: es) X.env = (false, eval e X.env) :: starEach es X.env := by rfl) (hpl : (backTo pos (starEach es X.env)).any (·.1) = false := by rfl) :
    JE X T W (.Call (.Name x p) (e :: es) [] pos) (eCallL F g) := by
  refine ⟨ha.k, pe_imp (pe_callS (E := WE W) Fo hr hg hm hk hb (passAt tk) ha.run hdb he hpl) fun σ H Q ⟨U, G, ρ, R, q⟩ => ⟨U, G, ρ, R, ?_⟩⟩
  have q' := Pst.bnd q
  cases hf : g ρ with
  | ok as ρ' =>
    rw [hf] at q'
    intro G1 H1 R1 s1 vs avs
    obtain ⟨_, _, p⟩ := q' G1 H1 R1 s1
    have hl := ha.len _ _ _ hf
    match as, vs, avs, p, hl with
    | .v _ :: _, _, _, p, _ => exact p.elim
    | [], _, _, p, _ => exact p.elim
    | .s i :: r, [], avs, p, _ => exact avs.elim
    | .s i :: r, v :: vs', avs, p, hl =>
      dsimp only at p
      split at p
      · rename_i d0 ds e1 e2
        split at p
        · rename_i d d1 e3
          obtain ⟨q1, e4, RL⟩ := R1.lend e1
          have e5 : σ[i]? = some (some v) := avs.1
          rw [e4] at e5
          cases e5
          refine ⟨?_, _, G1, d0, ds, q1, vs', rfl, RL, vals_ok avs.2 e2, ?_⟩
          · rw [List.length_cons, ars_len avs.2]
            exact hl.trans hn
          · rw [e3]
            exact fun G2 H2 R2 s2 v r => p G2 H2 (R1.overL e1 e4 R2 s2) s2 v r
        · exact p.elim
      · exact p.elim
  | ex c ns vs ρ' => rw [hf] at q'; exact q'
  | bad => rw [hf] at q'; exact q'
end
end J

set_option Elab.async false
set_option linter.all false
set_option maxRecDepth 100000
set_option maxHeartbeats 4000000
namespace J
open PySem PySem.Spec PyProof.Rows L2 NdefX

/-! ### the __init__ of an exception -/
def spXi (C : Addr) (fs : List Str) : Sp := fun vs H Q _ => vs.length = fs.length + 1 ∧ ∃ a ys, vs = .ref a :: ys ∧ H a = some (exo a C none) ∧
  ∀ dx, H dx = none → dx ≠ a → Q .non (upd (upd H dx (exd dx (fs.zip ys).reverse)) a (exo a C (some dx)))
abbrev supCall (p0 p1 p2 p3 p4 : Pos) (es : List Expr) : Stmt := .Expr (.Call (.Attribute (.Call (.Name "super" p0) [] [] p1) "__init__" p2) es [] p3) p4
section
variable {P : Program} {w : World} {K : PySem.W.Frag} {mg : Str → Option Value} {base : Heap} {k : Nat} {f cc cda C : Addr} {name qual : Str} {params : Arguments} {scope : Scope} {dV kV doc pm ct oc : Value} {an od : Option Addr}
    {osl : Array (Option Value)} {p0 p1 p2 p3 p4 q1 q2 q3 q4 q5 q6 q7 q8 q9 r1 : Pos} {a1 a2 f1 f2 : Str} {pl : Env → Sem Bool}
theorem fn_x1 (lk : K.lookup f = some ⟨oc, od, .func (PySem.W.ksFn name qual params [supCall p0 p1 p2 p3 p4 [.Name a1 q1], .Assign [.Attribute (.Name "self" q2) f1 q3] (.Name a1 q4) q5] scope dV kV doc pm an (.ref cda) ct cc), osl⟩)
    (hcd : PySem.W.codeIn K (.ref cda) qual = true) (S : NScope ["self", a1, "__class__"] ["self", a1] ["__class__"] scope) (T : SupC K P C cc cda) (TO : OexC K C) (har : ∃ ar, (params.posonlyargs ++ params.args).head? = some ar ∧ ar.arg = "self")
    (hsup : scope.names.lookup ("super" : Str) = some .globalImplicit) (hms : mg "super" = none) (hf1 : PySem.W.findIn K (.ref C) f1 = some none) (hd1 : (a1 == ("__debug__" : Str)) = false) (hc1 : (a1 == ("__classdict__" : Str)) = false)
    (hev : ∀ env, eval (.Call (.Attribute (.Call (.Name "super" p0) [] [] p1) "__init__" p2) [.Name a1 q1] [] p3) env = (do
      let ov ← attributeBase (.Call (.Name "super" p0) [] [] p1) "__init__" env (eval (.Call (.Name "super" p0) [] [] p1) env)
      standAt p2.atName
      let (f, first) ← holding [ov] (getMethod ov "__init__" (pl env))
      callWith p3 f first (backTo p3 (starEach [.Name a1 q1] env)) []) := by intro _; rfl) :
    FnOk P w K mg base C8.CX0 (k + 1) f (PySem.W.ksFn name qual params [supCall p0 p1 p2 p3 p4 [.Name a1 q1], .Assign [.Attribute (.Name "self" q2) f1 q3] (.Name a1 q4) q5] scope dV kV doc pm an (.ref cda) ct cc) ["self", a1] (spXi C [f1]) := by
  obtain ⟨ar, har1, har2⟩ := har
  have hs : scope.names.lookup ("self" : Str) = some .local := S.par _ (by simp)
  have h1 : scope.names.lookup a1 = some .local := S.par _ (by simp)
  refine fnok_super (pl := pl) lk hcd S T TO rfl har1 (by rw [har2]; rfl) (by rw [har2]; exact hs) hsup hms (fun vs H Q E h => h.1) (fun A outer s H vs Q E h => ?_) hev
  obtain ⟨hl, a, ys, rfl, ha, q⟩ := h
  match ys, hl with
  | [y], _ =>
  refine ⟨a, _, _, rfl, ha, pa_cons (pe_var (i := 1) rfl (.inl h1) hd1 hc1) pa_nil, pss_one (ps_ost (pe_var (i := 0) rfl (.inl hs)) (pe_var (i := 1) rfl (.inl h1) hd1 hc1)), ?_⟩
  refine ⟨y, rfl, by simp, ha, y, rfl, _, rfl, a, C, rfl, TO, hf1, .inl ⟨ha, fun dx hx hne => q dx hx hne⟩⟩
theorem fn_x2 (lk : K.lookup f = some ⟨oc, od, .func (PySem.W.ksFn name qual params [supCall p0 p1 p2 p3 p4 [.Name a1 q1, .Name a2 q2], .Assign [.Attribute (.Name "self" q3) f1 q4] (.Name a1 q5) q6, .Assign [.Attribute (.Name "self" q7) f2 q8] (.Name a2 q9) r1] scope dV kV doc pm an (.ref cda) ct cc), osl⟩)
    (hcd : PySem.W.codeIn K (.ref cda) qual = true) (S : NScope ["self", a1, a2, "__class__"] ["self", a1, a2] ["__class__"] scope) (T : SupC K P C cc cda) (TO : OexC K C) (har : ∃ ar, (params.posonlyargs ++ params.args).head? = some ar ∧ ar.arg = "self")
    (hsup : scope.names.lookup ("super" : Str) = some .globalImplicit) (hms : mg "super" = none) (hf1 : PySem.W.findIn K (.ref C) f1 = some none) (hf2 : PySem.W.findIn K (.ref C) f2 = some none) (hd1 : (a1 == ("__debug__" : Str)) = false) (hc1 : (a1 == ("__classdict__" : Str)) = false) (hd2 : (a2 == ("__debug__" : Str)) = false) (hc2 : (a2 == ("__classdict__" : Str)) = false)
    (hev : ∀ env, eval (.Call (.Attribute (.Call (.Name "super" p0) [] [] p1) "__init__" p2) [.Name a1 q1, .Name a2 q2] [] p3) env = (do
      let ov ← attributeBase (.Call (.Name "super" p0) [] [] p1) "__init__" env (eval (.Call (.Name "super" p0) [] [] p1) env)
      standAt p2.atName
      let (f, first) ← holding [ov] (getMethod ov "__init__" (pl env))
      callWith p3 f first (backTo p3 (starEach [.Name a1 q1, .Name a2 q2] env)) []) := by intro _; rfl) :
    FnOk P w K mg base C8.CX0 (k + 1) f (PySem.W.ksFn name qual params [supCall p0 p1 p2 p3 p4 [.Name a1 q1, .Name a2 q2], .Assign [.Attribute (.Name "self" q3) f1 q4] (.Name a1 q5) q6, .Assign [.Attribute (.Name "self" q7) f2 q8] (.Name a2 q9) r1] scope dV kV doc pm an (.ref cda) ct cc) ["self", a1, a2] (spXi C [f1, f2]) := by
  obtain ⟨ar, har1, har2⟩ := har
  have hs : scope.names.lookup ("self" : Str) = some .local := S.par _ (by simp)
  have h1 : scope.names.lookup a1 = some .local := S.par _ (by simp)
  have h2 : scope.names.lookup a2 = some .local := S.par _ (by simp)
  refine fnok_super (pl := pl) lk hcd S T TO rfl har1 (by rw [har2]; rfl) (by rw [har2]; exact hs) hsup hms (fun vs H Q E h => h.1) (fun A outer s H vs Q E h => ?_) hev
  obtain ⟨hl, a, ys, rfl, ha, q⟩ := h
  match ys, hl with
  | [y, z], _ =>
  refine ⟨a, _, _, rfl, ha, pa_cons (pe_var (i := 1) rfl (.inl h1) hd1 hc1) (pa_cons (pe_var (i := 2) rfl (.inl h2) hd2 hc2) pa_nil), pss_cons (ps_ost (pe_var (i := 0) rfl (.inl hs)) (pe_var (i := 1) rfl (.inl h1) hd1 hc1)) (pss_one (ps_ost (pe_var (i := 0) rfl (.inl hs)) (pe_var (i := 2) rfl (.inl h2) hd2 hc2))), ?_⟩
  refine ⟨y, rfl, z, rfl, by simp, ha, y, rfl, _, rfl, a, C, rfl, TO, hf1, .inl ⟨ha, fun dx hx hne => ?_⟩⟩
  refine ⟨z, rfl, _, rfl, a, C, rfl, TO, hf2, .inr ⟨dx, _, upd_same, by rw [upd_ne hne, upd_same], by simp, ?_⟩⟩
  have e : upd (upd (upd H dx (exd dx [(f1, y)])) a (exo a C (some dx))) dx (exd dx [(f2, z), (f1, y)]) = upd (upd H dx (exd dx ([f1, f2].zip [y, z]).reverse)) a (exo a C (some dx)) := by
    funext b
    by_cases hb : b = dx
    · subst hb; rw [upd_same, upd_ne hne, upd_same]; rfl
    · rw [upd_ne hb]
      by_cases hb2 : b = a
      · subst hb2; rw [upd_same, upd_same]
      · rw [upd_ne hb2, upd_ne hb2, upd_ne hb, upd_ne hb]
  rw [e]
  exact q dx hx hne
end

/-! ### raise -/
/-- an own exception class whose __init__ keeps its arguments in the fields fs -/
structure ExK (P : Program) (w : World) (K : PySem.W.Frag) (mg : Str → Option Value) (base : Heap) (x : Str) (C : Addr) (fs : List Str) (k : Nat) : Prop where
  ox : OexC K C
  ini : ∃ fI fd ps, PySem.W.findIn K (.ref C) "__init__" = some (some (.ref fI)) ∧ PySem.W.typeIn K (.ref fI) = some (.type "function") ∧ FnOk P w K mg base C8.CX0 k fI fd ps (spXi C fs) ∧ Binds K fd ps []
  mgC : mg x = some (.ref C)
theorem Reps.rev {T : Tab} {G : Hp} : ∀ {ds : List D} {xs : List V}, Reps T G xs ds → Reps T G xs.reverse ds.reverse
  | [], _, r => by cases r; rfl
  | d :: ds, _, ⟨x, r, e, a, b⟩ => by
    subst e
    rw [List.reverse_cons, List.reverse_cons]
    exact (Reps.rev b).app (.one a)
section
variable {X : Cx} {T : Tab} {W : WX} {k : Nat} {C : Addr} {x : Str} {fs : List Str} {p pos pos' : Pos} {e : Expr} {es : List Expr}
def sRaise (c : Nat) (ns : List Nat) (g : AF) : SF := fun ρ => (g ρ).bnd fun as ρ' => match vals as with
  | some ds => .ex c ns ds.reverse ρ'
  | none => .bad
theorem zip_fst {α β : Type} : ∀ {a : List α} {b : List β}, a.length = b.length → (a.zip b).map (·.1) = a
  | [], _, _ => rfl
  | _ :: _, [], h => by simp at h
  | a :: as, b :: bs, h => by simp [zip_fst (by simpa using h : as.length = bs.length)]
theorem zip_snd {α β : Type} : ∀ {a : List α} {b : List β}, a.length = b.length → (a.zip b).map (·.2) = b
  | [], [], _ => rfl
  | [], _ :: _, h => by simp at h
  | _ :: _, [], h => by simp at h
  | a :: as, b :: bs, h => by simp [zip_snd (by simpa using h : as.length = bs.length)]
theorem j_raise {c : Nat} {ns : List Nat} {g : AF} (ek : ExK X.prog X.w X.K X.mg X.base x C fs k) (hr : Room (k + 1) X.A) (tk : Takes X W) (hC : T.exc c = C) (hns : fs.reverse = ns.map T.fnm) (ha : JA X T W (e :: es) g) (hl : (e :: es).length = fs.length) (hc : X.calm = true := by rfl) (hl2 : (e :: es).length ≤ 1000 := by decide)
    (hg : Gl X x := by rfl) (hdb : (x == ("__debug__" : Str)) = false := by decide) (he : starEach (e :: es) X.env = (false, eval e X.env) :: starEach es X.env := by rfl) (hpl : (backTo pos (starEach es X.env)).any (·.1) = false := by rfl) :
    JS X T W [] (.Raise (some (.Call (.Name x p) (e :: es) [] pos)) none pos') (sRaise c ns g) := by
  obtain ⟨fI, fd, ps, iC, tI, F1, hb⟩ := ek.ini
  refine ⟨ha.k, ps_imp (ps_raise hc tk (pmk_oex ek.ox iC tI F1 hr hb .nil C8.pass0 hg ek.mgC ha.run hdb he hpl)) fun D σ H ⟨U, G, ρ, R, q⟩ => ⟨U, G, ρ, R, ?_⟩⟩
  have q' := PstS.bndE q
  cases hf : g ρ with
  | ok as ρ' =>
    rw [hf] at q'
    intro G1 H1 R1 s1 vs avs
    obtain ⟨_, _, p⟩ := q' G1 H1 R1 s1
    cases e2 : vals as with
    | none => rw [e2] at p; exact p.elim
    | some ds =>
      rw [e2] at p
      have rs := vals_ok avs e2
      have hvl : vs.length = fs.length := by rw [ars_len avs, ha.len _ _ _ hf, hl]
      refine ⟨by omega, fun a hfa => ⟨by simp [hvl], a, vs ++ [], rfl, upd_same, fun dx hx hne => ⟨rfl, dx, (fs.zip (vs ++ [])).reverse, upd_same, by rw [upd_ne hne, upd_same], by rw [upd_ne hne] at hx; exact hx, ?_⟩⟩⟩
      rw [upd_ne hne] at hx
      rw [List.append_nil]
      have e3 : upd (del (upd (upd (upd H1 a (exo a C none)) dx (exd dx (fs.zip vs).reverse)) a (exo a C (some dx))) a) dx (.xd (fs.zip vs).reverse) = upd H1 dx (.xd (fs.zip vs).reverse) := by
        funext b
        by_cases hb : b = dx
        · subst hb; rw [upd_same, upd_same]
        · rw [upd_ne hb, upd_ne hb]
          by_cases hb2 : b = a
          · subst hb2; rw [del_same, hfa]
          · rw [del_ne hb2, upd_ne hb2, upd_ne hb, upd_ne hb2]
      rw [e3]
      have s2 := same_upd (o := .xd (fs.zip vs).reverse) (R1.gfree hx)
      refine p (.ref C) (some dx) σ _ _ (R1.alloc hx) s2 (Keeps.refl _ _) ⟨by rw [hC], (fs.zip vs).reverse, upd_same, ?_, ?_⟩
      · rw [List.map_reverse, zip_fst hvl.symm, hns]
      · rw [List.map_reverse, zip_snd hvl.symm]
        exact (rs.mono s2).rev
  | ex c ns vs ρ' => rw [hf] at q'; exact q'
  | bad => rw [hf] at q'; exact q'
end

/-! ### try -/
section
variable {T : Tab} {x : Option (Addr × Value × Option Addr)}
def eaT (T : Tab) (x : Option (Addr × Value × Option Addr)) : Tab := { T with ea := x }
mutual
theorem Rep.ea {G : Hp} : ∀ {d : D} {v : V}, Rep T G v d → Rep (eaT T x) G v d
  | .non, _, r => r
  | .bl _, _, r => r
  | .int _, _, r => r
  | .str _, _, r => r
  | .tup _, _, ⟨a, xs, e, q, r⟩ => ⟨a, xs, e, q, Reps.ea r⟩
  | .lst _, _, ⟨a, xs, e, q, r⟩ => ⟨a, xs, e, q, Reps.ea r⟩
  | .scr _, _, ⟨a, xs, e, q, r⟩ => ⟨a, xs, e, q, Reps.ea r⟩
  | .dct _ _, _, ⟨a, kk, e, q, k, n, r⟩ => ⟨a, kk, e, q, k, n, Reps.ea r⟩
  | .obj _ _ _, _, ⟨a, dx, fs, e, q, k, r⟩ => ⟨a, dx, fs, e, q, k, Reps.ea r⟩
  | .fn _, _, r => r
theorem Reps.ea {G : Hp} : ∀ {ds : List D} {xs : List V}, Reps T G xs ds → Reps (eaT T x) G xs ds
  | [], _, r => r
  | _ :: _, _, ⟨y, r, e, a, b⟩ => ⟨y, r, e, Rep.ea a, Reps.ea b⟩
end
theorem RepO.ea {G : Hp} {o : HO} {d : D} (r : RepO T G o d) : RepO (eaT T x) G o d := by
  cases d with
  | lst ds => obtain ⟨xs, e, r⟩ := r; exact ⟨xs, e, r.ea⟩
  | dct ks vs => obtain ⟨kk, e, k, n, r⟩ := r; exact ⟨kk, e, k, n, r.ea⟩
  | obj c ns vs => obtain ⟨dx, fs, e, k, r⟩ := r; exact ⟨dx, fs, e, k, r.ea⟩
  | _ => exact r.elim
theorem XRep.ea {G : Hp} {c : Nat} {ns : List Nat} {vs : List D} {cls : Value} {dx : Option Addr} (r : XRep T G c ns vs cls dx) : XRep (eaT T x) G c ns vs cls dx := by
  obtain ⟨e, r⟩ := r
  refine ⟨e, ?_⟩
  cases dx with
  | none => exact r
  | some d =>
    obtain ⟨fs, h1, h2, h3⟩ := r
    exact ⟨fs, h1, h2, h3.ea⟩
def isEx : Sl → Bool
  | .ex _ _ _ => true
  | _ => false
def noEx (ρ : En) : Bool := ρ.all fun s => !isEx s
theorem noEx_at {ρ : En} (h : noEx ρ = true) {i c : Nat} {ns : List Nat} {vs : List D} : ρ[i]? ≠ some (.ex c ns vs) := fun e => by
  have q := List.all_eq_true.mp h _ (List.mem_of_getElem? e)
  cases q
theorem Rel.ea {U G H : Hp} {σ : L2.St} {ρ : En} (R : Rel T U G H σ ρ) (h : noEx ρ = true) : Rel (eaT T x) U G H σ ρ := by
  refine ⟨R.same, R.len, fun i d e => ?_, fun i d e => ?_, R.dist, R.out, fun i c ns vs e => absurd e (noEx_at h)⟩
  · obtain ⟨v, e1, r⟩ := R.sh i d e
    exact ⟨v, e1, r.ea⟩
  · obtain ⟨a, o, e1, g, u, hh, r⟩ := R.ow i d e
    exact ⟨a, o, e1, g, u, hh, r.ea⟩
theorem eaT_back : eaT (eaT T x) T.ea = T := rfl
theorem Rel.aeN {U G H : Hp} {σ : L2.St} {ρ : En} {i : Nat} (R : Rel (eaT T x) U G H σ ρ) (h : noEx (ρ.set i .no) = true) : Rel T U G H (σ.set i none) (ρ.set i .no) := by
  have q := Rel.ea (x := T.ea) (R.setNo (i := i)) h
  rw [eaT_back] at q
  refine ⟨q.same, by rw [List.length_set]; exact q.len, fun j d e => ?_, fun j d e => ?_, fun j k dj dk a h1 h2 h3 h4 => ?_, q.out, fun j c ns vs e => absurd e (noEx_at h)⟩
  · rcases get_set e with ⟨_, z⟩ | ⟨hj, _⟩
    · cases z
    · rw [set_get_ne hj]; exact q.sh j d e
  · rcases get_set e with ⟨_, z⟩ | ⟨hj, _⟩
    · cases z
    · rw [set_get_ne hj]; exact q.ow j d e
  · rcases get_set h1 with ⟨_, z⟩ | ⟨hj, _⟩
    · cases z
    · rcases get_set h2 with ⟨_, z⟩ | ⟨hk, _⟩
      · cases z
      · rw [set_get_ne hj] at h3
        rw [set_get_ne hk] at h4
        exact q.dist j k dj dk a h1 h2 h3 h4
theorem Rel.ae {U G H : Hp} {σ : L2.St} {ρ : En} (R : Rel (eaT T x) U G H σ ρ) (h : noEx ρ = true) : Rel T U G H σ ρ := by
  have q := Rel.ea (x := T.ea) R h
  rwa [eaT_back] at q
/-- the caught exception stands in slot i -/
theorem Rel.setEx {U G H : Hp} {σ : L2.St} {ρ : En} {i c : Nat} {ns : List Nat} {vs : List D} {a : Addr} {cls : Value} {dx : Option Addr} (R : Rel T U G H σ ρ) (h : noEx ρ = true) (xr : XRep T G c ns vs cls dx) :
    Rel (eaT T (some (a, cls, dx))) U G H (σ.set i (some (.ref a))) (ρ.set i (.ex c ns vs)) := by
  have q := Rel.ea (x := some (a, cls, dx)) R h
  refine ⟨q.same, by simp [q.len], fun j d e => ?_, fun j d e => ?_, fun j k dj dk a h1 h2 h3 h4 => ?_, q.out, fun j c ns vs e => ?_⟩
  · rcases get_set e with ⟨_, z⟩ | ⟨hj, e⟩
    · cases z
    · rw [set_get_ne hj]; exact q.sh j d e
  · rcases get_set e with ⟨_, z⟩ | ⟨hj, e⟩
    · cases z
    · rw [set_get_ne hj]; exact q.ow j d e
  · rcases get_set h1 with ⟨_, z⟩ | ⟨hj, h1⟩
    · cases z
    · rcases get_set h2 with ⟨_, z⟩ | ⟨hk, h2⟩
      · cases z
      · rw [set_get_ne hj] at h3
        rw [set_get_ne hk] at h4
        exact q.dist j k dj dk a h1 h2 h3 h4
  · have hl := (List.getElem?_eq_some_iff.mp e).1
    rcases get_set e with ⟨hj, z⟩ | ⟨hj, e⟩
    · cases z
      subst hj
      refine ⟨a, cls, dx, set_get_same (by rw [q.len]; simpa using hl), rfl, xr.ea⟩
    · exact absurd e (noEx_at h)
end
section
variable {X : Cx} {T : Tab} {W : WX}
/-- behind a suite -/
def Rs.out (i : Nat) (r : Rs Fl) : Rs Fl := match r with
  | .ok fl ρ => if noEx (ρ.set i .no) = true then .ok fl (ρ.set i .no) else .bad
  | _ => .bad
@[simp] theorem Rs.out_ok (i : Nat) (fl : Fl) (ρ : En) : (Rs.ok fl ρ).out i = if noEx (ρ.set i .no) = true then .ok fl (ρ.set i .no) else .bad := rfl
/-- try: f except x as <slot i>: g; hm: which exceptions the clause catches -/
def sTryAs (i : Nat) (hm : Nat → Option Bool) (f g : SF) : SF := fun ρ => match f ρ with
  | .ok fl ρ' => .ok fl ρ'
  | .bad => .bad
  | .ex c ns vs ρ' => (match hm c with
    | some true => if noEx ρ' = true then (g (ρ'.set i (.ex c ns vs))).out i else .bad
    | some false => .ex c ns vs ρ'
    | none => .bad)
theorem j_try_as {x n : Str} {cl : Value} {i : Nat} {hm : Nat → Option Bool} {body suite : List Stmt} {b₀ : Stmt} {np pos pos' : Pos} {f g : SF} {wb ws : List Nat} (hK : X.K = T.K) (hN : X.N.Nodup) (hi : X.N[i]? = some n) (hln : X.env.kindOf n = some .local) (hc : Names X x cl) (tk : Takes X W)
    (hx : ∀ c b, hm c = some b → PySem.W.exmOne X.K (.ref (T.exc c)) cl = some b)
    (hb : ∀ (W : WX) (pn : List (Addr × Obj)) (xe : Value → Shared → Prop), Takes (X.tr pn xe) W → PassesOwn (model X.prog X.w) X.A X.env xe → JSs (X.tr pn xe) T W wb body f)
    (hsu : ∀ (a : Addr) (oe : Obj) (cls : Value) (d : Option Addr) (pn : List (Addr × Obj)), Zc cls d oe → (∃ vs, oe.data = .fields vs) → JSs (X.suite a ((a, oe) :: pn)) (eaT T (some (a, cls, d))) WF ws (b₀ :: suite) g)
    (hs : X.stack = X.env :: X.outer := by rfl) (hf : X.env.frame = some X.env.locals := by rfl) :
    JS X T W (wb ++ (i :: ws)) (.Try body [.ExceptHandler (some (.Name x np)) (some n) (b₀ :: suite) pos'] [] [] pos) (sTryAs i hm f g) := by
  refine ⟨hK, ps_imp (ps_try_as (tb := fun W => tS T W wb f) (ts := fun a cls d => tS (eaT T (some (a, cls, d))) WF ws g) hs hf hN hi hln hc tk (fun W pn xe t p => (hb W pn xe t p).run) (fun a oe cls d pn z v => (hsu a oe cls d pn z v).run)) fun D σ H ⟨U, G, ρ, R, q⟩ => ⟨U, G, ρ, R, ?_⟩⟩
  unfold sTryAs at q
  have wl : ∀ j, j ∈ wb → j ∈ wb ++ (i :: ws) := fun j hj => List.mem_append_left _ hj
  cases e : f ρ with
  | bad => rw [e] at q; exact q.elim
  | ok fl ρ' =>
    rw [e] at q
    cases fl with
    | nx => exact fun σ' G' H' R' s k => q σ' G' H' R' s (k.mono wl)
    | rt d => exact fun v σ' G' H' R' s k => q v σ' G' H' R' s (k.mono wl)
  | ex c ns vs ρ' =>
    rw [e] at q
    dsimp only at q
    intro cls dx σ' G' H' R' s k xr
    have hcls : cls = .ref (T.exc c) := xr.1
    cases eb : hm c with
    | none => rw [eb] at q; exact q.elim
    | some b =>
      refine ⟨b, by rw [hcls]; exact hx c b eb, fun ht a hfa => ?_, fun ht => ?_⟩
      · subst ht
        rw [eb] at q
        dsimp only at q
        split at q
        · rename_i hne
          refine ⟨U, G', _, R'.setEx hne xr, ?_⟩
          have kk : ∀ {σ2 : L2.St}, Keeps ws (σ'.set i (some (.ref a))) σ2 → Keeps (wb ++ (i :: ws)) σ (σ2.set i none) := fun {σ2} k2 => by
            refine ⟨by rw [List.length_set, k2.1, List.length_set, k.1], fun j hj => ?_⟩
            have h1 : j ≠ i := fun z => hj (List.mem_append_right _ (by rw [z]; exact List.mem_cons_self))
            have h2 : j ∉ ws := fun z => hj (List.mem_append_right _ (List.mem_cons_of_mem _ z))
            have h3 : j ∉ wb := fun z => hj (wl j z)
            rw [set_get_ne h1, k2.2 j h2, set_get_ne h1, k.2 j h3]
          cases e2 : g (ρ'.set i (.ex c ns vs)) with
          | bad => rw [e2] at q; exact q.elim
          | ex _ _ _ _ => rw [e2] at q; exact q.elim
          | ok fl ρ2 =>
            rw [e2] at q
            simp only [Rs.out_ok] at q
            split at q
            · rename_i hn2
              cases fl with
              | nx => exact fun σ2 G2 H2 R2 s2 k2 => q _ G2 H2 (R2.aeN hn2) (s.trans s2) (kk k2)
              | rt d => exact fun v σ2 G2 H2 R2 s2 k2 r2 => q v _ G2 H2 (R2.aeN hn2) (s.trans s2) (kk k2) (by have r3 := Rep.ea (x := T.ea) r2; rwa [eaT_back] at r3)
            · exact q.elim
        · exact q.elim
      · subst ht
        rw [eb] at q
        exact q cls dx σ' G' H' R' s (k.mono wl) xr
/-- try: f except x: g -/
def Rs.out0 (r : Rs Fl) : Rs Fl := match r with
  | .ok fl ρ => if noEx ρ = true then .ok fl ρ else .bad
  | _ => .bad
@[simp] theorem Rs.out0_ok (fl : Fl) (ρ : En) : (Rs.ok fl ρ).out0 = if noEx ρ = true then .ok fl ρ else .bad := rfl
def sTry (hm : Nat → Option Bool) (f g : SF) : SF := fun ρ => match f ρ with
  | .ok fl ρ' => .ok fl ρ'
  | .bad => .bad
  | .ex c ns vs ρ' => (match hm c with
    | some true => g ρ'
    | some false => .ex c ns vs ρ'
    | none => .bad)
theorem j_try {x : Str} {cl : Value} {hm : Nat → Option Bool} {body suite : List Stmt} {b₀ : Stmt} {np pos pos' : Pos} {f g : SF} {wb ws : List Nat} (hK : X.K = T.K) (hc : Names X x cl) (tk : Takes X W)
    (hx : ∀ c b, hm c = some b → PySem.W.exmOne X.K (.ref (T.exc c)) cl = some b)
    (hb : ∀ (W : WX) (pn : List (Addr × Obj)) (xe : Value → Shared → Prop), Takes (X.tr pn xe) W → PassesOwn (model X.prog X.w) X.A X.env xe → JSs (X.tr pn xe) T W wb body f)
    (hsu : ∀ (a : Addr) (oe : Obj) (pn : List (Addr × Obj)), JSs (X.suite a ((a, oe) :: pn)) T WF ws (b₀ :: suite) g)
    (hg : ∀ ρ c ns vs ρ', g ρ ≠ .ex c ns vs ρ')
    (hs : X.stack = X.env :: X.outer := by rfl) (hf : X.env.frame = some X.env.locals := by rfl) :
    JS X T W (wb ++ ws) (.Try body [.ExceptHandler (some (.Name x np)) none (b₀ :: suite) pos'] [] [] pos) (sTry hm f g) := by
  refine ⟨hK, ps_imp (ps_try_only (tb := fun W => tS T W wb f) (ts := fun a cls d => tS T WF ws g) hs hf hc tk (fun W pn xe t p => (hb W pn xe t p).run) (fun a oe cls d pn z v => (hsu a oe pn).run)) fun D σ H ⟨U, G, ρ, R, q⟩ => ⟨U, G, ρ, R, ?_⟩⟩
  unfold sTry at q
  have wl : ∀ j, j ∈ wb → j ∈ wb ++ ws := fun j hj => List.mem_append_left _ hj
  cases e : f ρ with
  | bad => rw [e] at q; exact q.elim
  | ok fl ρ' =>
    rw [e] at q
    cases fl with
    | nx => exact fun σ' G' H' R' s k => q σ' G' H' R' s (k.mono wl)
    | rt d => exact fun v σ' G' H' R' s k => q v σ' G' H' R' s (k.mono wl)
  | ex c ns vs ρ' =>
    rw [e] at q
    dsimp only at q
    intro cls dx σ' G' H' R' s k xr
    have hcls : cls = .ref (T.exc c) := xr.1
    cases eb : hm c with
    | none => rw [eb] at q; exact q.elim
    | some b =>
      refine ⟨b, by rw [hcls]; exact hx c b eb, fun ht a hfa => ?_, fun ht => ?_⟩
      · subst ht
        rw [eb] at q
        dsimp only at q
        refine ⟨U, G', _, R', ?_⟩
        have kk : ∀ {σ2 : L2.St}, Keeps ws σ' σ2 → Keeps (wb ++ ws) σ σ2 := fun {σ2} k2 => (k.mono wl).trans (k2.mono fun j hj => List.mem_append_right _ hj)
        cases e2 : g ρ' with
        | bad => rw [e2] at q; exact q.elim
        | ex _ _ _ _ => exact absurd e2 (hg _ _ _ _ _)
        | ok fl ρ2 =>
          rw [e2] at q
          cases fl with
          | nx => exact fun σ2 G2 H2 R2 s2 k2 => q _ G2 H2 R2 (s.trans s2) (kk k2)
          | rt d => exact fun v σ2 G2 H2 R2 s2 k2 r2 => q v _ G2 H2 R2 (s.trans s2) (kk k2) r2
      · subst ht
        rw [eb] at q
        exact q cls dx σ' G' H' R' s (k.mono wl) xr

/-! ### the caught exception's fields -/
def fget (n : Nat) : List Nat → List D → Option D
  | m :: ms, d :: ds => if m = n then some d else fget n ms ds
  | _, _ => none
theorem fget_ok {T : Tab} {G : Hp} (hinj : ∀ a b, T.fnm a = T.fnm b → a = b) {n : Nat} : ∀ {ns : List Nat} {ds : List D} {fs : List (Str × V)} {d : D}, fs.map (·.1) = ns.map T.fnm → Reps T G (fs.map (·.2)) ds → fget n ns ds = some d → ∃ v, fs.lookup (T.fnm n) = some v ∧ Rep T G v d
  | [], _, _, _, _, _, h => by cases h
  | m :: ms, [], _, _, _, _, h => by cases h
  | m :: ms, d' :: ds, [], _, h1, _, _ => by cases h1
  | m :: ms, d' :: ds, (k, v) :: fs, d, h1, h2, h3 => by
    simp only [List.map_cons, List.cons.injEq] at h1
    obtain ⟨y, r, e, a, b⟩ := h2
    simp only [List.map_cons, List.cons.injEq] at e
    obtain ⟨rfl, rfl⟩ := e
    simp only [fget] at h3
    split at h3
    · rename_i hm
      cases h3
      subst hm
      refine ⟨v, ?_, a⟩
      rw [← h1.1]
      simp [List.lookup]
    · rename_i hm
      obtain ⟨u, l, r⟩ := fget_ok hinj h1.2 b h3
      refine ⟨u, ?_, r⟩
      have hne : (T.fnm n == k) = false := by
        rw [h1.1]
        exact beq_false_of_ne fun z => hm (hinj _ _ z).symm
      simp only [List.lookup, hne]
      exact l
def eXf (i n : Nat) (ok : Nat → Bool) : EF := fun ρ => match ρ[i]? with
  | some (.ex c ns vs) => if ok c = true then opt (fget n ns vs) ρ else .bad
  | _ => .bad
theorem j_xf {i n : Nat} {ok : Nat → Bool} {a : Addr} {oe : Obj} {cls : Value} {d : Option Addr} {pn : List (Addr × Obj)} {x f : Str} {p pos : Pos} (hk : X.K = T.K) (hinj : ∀ a b, T.fnm a = T.fnm b → a = b) (hfn : T.fnm n = f)
    (hok : ∀ c, ok c = true → XfC X.K (T.exc c) ∧ PySem.W.findIn X.K (.ref (T.exc c)) f = some none) (hz : Zc cls d oe) (hf : ∃ vs, oe.data = .fields vs) (hN : X.N[i]? = some x := by rfl) (hv : Vis X.env.scope x := by first | exact Or.inl rfl | exact Or.inr (Or.inl rfl) | exact Or.inr (Or.inr rfl)) (hd : (x == ("__debug__" : Str)) = false := by decide)
    (hcd : (x == ("__classdict__" : Str)) = false := by decide) (hb : attributeBase (.Name x p) f X.env (eval (.Name x p) X.env) = eval (.Name x p) X.env := by rfl) :
    JE (X.suite a ((a, oe) :: pn)) (eaT T (some (a, cls, d))) W (.Attribute (.Name x p) f pos) (eXf i n ok) := by
  refine ⟨hk, ⟨fun pins s σ H Q I q => ?_⟩⟩
  obtain ⟨U, G, ρ, R, q⟩ := q
  unfold eXf at q
  split at q
  · rename_i c ns vs e
    split at q
    · rename_i hc
      obtain ⟨d1, e1, q⟩ := Pst.opt q
      obtain ⟨a1, cls1, dx1, h1, h2, h3⟩ := R.exn i c ns vs e
      cases h2
      obtain ⟨h3, h4⟩ := h3
      obtain ⟨g1, g2⟩ := hok c hc
      refine (pe_xf (X := X) (C := T.exc c) (te := tVar i) g1 g2 hz hf (pe_var hN hv hd hcd) hb).run pins s σ H Q I ?_
      cases d with
      | none => obtain ⟨rfl, rfl⟩ := h4; cases e1
      | some dd =>
        obtain ⟨fs, h5, h6, h7⟩ := h4
        obtain ⟨v, l, r⟩ := fget_ok (T := eaT T (some (a, cls, some dd))) hinj h6 h7 e1
        exact ⟨_, h1, rfl, h3, dd, fs, v, rfl, R.same _ _ h5, by rw [← hfn]; exact l, q G H R (L2.Same.refl _) v r⟩
    · exact q.elim
  · exact q.elim
end
end J

set_option Elab.async false
set_option linter.all false
set_option maxRecDepth 100000
set_option maxHeartbeats 4000000
namespace J
open PySem PySem.Spec PyProof.Rows L2

section
variable {X : Cx} {T : Tab} {W : WX} {tg : Expr}
/-! ### an owned slot is hidden while its list is walked -/
theorem Rel.hide {U G H : Hp} {σ : L2.St} {ρ : En} {i : Nat} {d : D} (R : Rel T U G H σ ρ) (h : ρ[i]? = some (.ow d)) : ∃ p o, σ[i]? = some (some (.ref p)) ∧ H p = some o ∧ RepO T G o d ∧ U p = none ∧ Rel T (upd U p o) G H σ (ρ.set i .no) := by
  obtain ⟨p, o, e, g, u, hh, r⟩ := R.ow i d h
  refine ⟨p, o, e, hh, r, u, ?_⟩
  have R1 := R.setNo (i := i)
  refine ⟨R1.same, R1.len, R1.sh, fun j e' h' => ?_, R1.dist, fun a q z => ?_, R1.exn⟩
  · obtain ⟨a, q, e1, g1, u1, h1, r1⟩ := R1.ow j e' h'
    refine ⟨a, q, e1, g1, ?_, h1, r1⟩
    have ne : a ≠ p := fun z => by
      subst z
      rcases get_set h' with ⟨_, z⟩ | ⟨hj, h'⟩
      · cases z
      · exact hj (R.dist j i e' d a h' h e1 e)
    rw [upd_ne ne]; exact u1
  · by_cases ha : a = p
    · subst ha; rw [upd_same] at z; cases z; exact ⟨hh, g⟩
    · rw [upd_ne ha] at z; exact R1.out a q z
theorem Rel.unhide {U G H : Hp} {σ : L2.St} {ρ : En} {i : Nat} {d : D} {p : Addr} {o : HO} (R : Rel T (upd U p o) G H σ ρ) (hU : U p = none) (hσ : σ[i]? = some (some (.ref p))) (r : RepO T G o d) (hl : i < ρ.length) : Rel T U G H σ (ρ.set i (.ow d)) := by
  obtain ⟨hh, g⟩ := R.out p o upd_same
  have eU : unheld (upd U p o) p = U := by
    funext b
    by_cases hb : b = p
    · subst hb; rw [unheld_same, hU]
    · rw [unheld_ne hb, upd_ne hb]
  have R1 : Rel T U G H σ ρ := eU ▸ R.unhold (p := p)
  have R2 := R1.setOw (i := i) hU g hh r fun j e h1 h2 => by
    obtain ⟨a, q, e1, _, u, _⟩ := R.ow j e h1
    rw [h2] at e1
    cases e1
    rw [upd_same] at u
    cases u
  have es : σ.set i (some (.ref p)) = σ := by
    apply List.ext_getElem?
    intro j
    by_cases hj : j = i
    · subst hj
      rw [set_get_same (by exact (List.getElem?_eq_some_iff.mp hσ).1), hσ]
    · rw [set_get_ne hj]
  rwa [es] at R2
def ownL (ρ : En) (i : Nat) : Option (List D) := match (ρ[i]? : Option Sl) with
  | some (Sl.ow (D.lst ds)) => some ds
  | _ => none
theorem ownL_ok {ρ : En} {i : Nat} {ds : List D} (h : ownL ρ i = some ds) : ρ[i]? = some (.ow (.lst ds)) := by
  unfold ownL at h
  split at h
  · rename_i e; cases h; exact e
  · cases h
/-- [elt for tg in xs if t], xs an owned list -/
def eLcOwn (i : Nat) (b : BF) (vs : List Nat) (t : TF) (f : EF) : EF := fun ρ => match ownL ρ i with
  | some ds => if noOw (ρ.set i .no) vs = true then (lcS b vs t f ds [] (ρ.set i .no)).bnd fun d ρ' => .ok d (ρ'.set i (.ow (.lst ds))) else .bad
  | none => .bad
theorem lcOwn_red {i : Nat} {own : List (Str × Nat)} {b : BF} {wb : List Nat} {t : TF} {f : EF} {σ : L2.St} {H : Hp} {Q : VK} (hwb : ∀ j, j ∈ wb → j ∈ own.map (·.2))
    (q : tO T W (eLcOwn i b (own.map (·.2)) t f) σ H Q) : tLc (iSeqJ T.K (tVar i)) (tG T wb b) (tT T WF t) (tE T WF f) (own.map (·.2)) σ H Q := by
  obtain ⟨U, G, ρ, R, q⟩ := q
  unfold eLcOwn at q
  cases e : ownL ρ i with
  | none => rw [e] at q; exact q.elim
  | some ds =>
    rw [e] at q
    dsimp only at q
    obtain ⟨p, o, eσ, hh, r, hU, R1⟩ := R.hide (ownL_ok e)
    obtain ⟨xs, rfl, rs⟩ := r
    refine ⟨_, eσ, .inl ⟨p, xs, rfl, .of hh, fun hl => ?_⟩⟩
    cases e2 : noOw (ρ.set i .no) (own.map (·.2)) with
    | false => rw [e2] at q; exact q.elim
    | true =>
      rw [e2, if_pos rfl] at q
      have key : Pst T (upd U p (.lst xs)) σ G (lcS b (own.map (·.2)) t f ds [] (ρ.set i .no)) (fun d G' H' ρ' => ∀ p2 o2, G' p2 = none → (upd U p (.lst xs)) p2 = none → H' p2 = some o2 → RepO T G' o2 d → (∀ (j : Nat) (d : D), ρ'[j]? = some (.ow d) → σ[j]? ≠ some (some (.ref p2))) → Q (.ref p2) H') WF := by
        cases e3 : lcS b (own.map (·.2)) t f ds [] (ρ.set i .no) with
        | ok d ρ' =>
          rw [e3] at q
          intro G' H' R' s p2 o2 g2 u2 h2 r2 n2
          have hne : p2 ≠ p := fun z => by subst z; rw [upd_same] at u2; cases u2
          have hlt : i < ρ'.length := by
            rw [← R'.len]; exact (List.getElem?_eq_some_iff.mp eσ).1
          have R2 := R'.unhide hU eσ (d := .lst ds) ⟨xs, rfl, rs.mono s⟩ hlt
          refine q G' H' R2 s p2 o2 g2 (by rw [upd_ne hne] at u2; exact u2) h2 r2 fun j d' h3 => ?_
          rcases get_set h3 with ⟨rfl, z⟩ | ⟨hj, h3⟩
          · rw [eσ]; intro z2; cases z2; exact hne rfl
          · exact n2 j d' h3
        | ex c ns vs ρ' => exact absurd e3 (lcS_nox _ _ _ _ _ _ _)
        | bad => rw [e3] at q; exact q.elim
      exact lc_coreJ (P := fun U' => U' p = some (.lst xs)) (U := upd U p (.lst xs)) (fun U' h hP => hP _ _ upd_same) upd_same (yl_own (rs.length ▸ hl) rs) R1 e2 hwb key

theorem j_lcOwn {elt : Expr} {x : Str} {p : Pos} {ifs : List Expr} {scope : Scope} {own : List (Str × Nat)} {pos : Pos} {i : Nat} {b : BF} {wb : List Nat} {t : TF} {f : EF} (hK : X.K = T.K) (hc : X.calm = true) (hN : X.N.Nodup) (hx : X.N[i]? = some x) (ok : BlkOk X.N X.env.scope scope own) (hwb : ∀ j, j ∈ wb → j ∈ own.map (·.2))
    (hg : ∀ (s : Shared) (H : Hp) (C : Addr) (cl : List (Str × Addr)) (fp : List Addr), JG (X.blk s H scope (compEnvC scope cl C X.env) fp) T wb tg b)
    (ht : ∀ (s : Shared) (H : Hp) (C : Addr) (cl : List (Str × Addr)) (fp : List Addr), PTs (X.blk s H scope (compEnvC scope cl C X.env) fp) ifs (tT T WF t))
    (he : ∀ (s : Shared) (H : Hp) (C : Addr) (cl : List (Str × Addr)) (fp : List Addr), JE (X.blk s H scope (compEnvC scope cl C X.env) fp) T WF elt f) (hv : Vis X.env.scope x := by first | exact Or.inl rfl | exact Or.inr (Or.inl rfl) | exact Or.inr (Or.inr rfl)) (hd : (x == ("__debug__" : Str)) = false := by decide)
    (hcd : (x == ("__classdict__" : Str)) = false := by decide) (hs : ∀ y, foldedSetIterable (.Name x p) X.env y = pure y := by intro _; rfl) :
    JO X T W (.ListComp elt [⟨tg, .Name x p, ifs, 0⟩] scope pos) (eLcOwn i b (own.map (·.2)) t f) :=
  ⟨hK, pe_imp (pe_lc hc hN (pi_seqJ (pe_var hx hv hd hcd)) ok (fun s H C cl fp => (hg s H C cl fp).run) ht (fun s H C cl fp => (he s H C cl fp).run) hs) fun σ H Q q => hK ▸ lcOwn_red hwb q⟩
/-- for tg in xs: .., xs an owned list that the body leaves alone -/
def sForOwn (i : Nat) (b : BF) (body : SF) : SF := fun ρ => match ownL ρ i with
  | some ds => (match forS b body ds (ρ.set i .no) with
    | .ok .nx ρ' => .ok .nx (ρ'.set i (.ow (.lst ds)))
    | .ok (.rt d) ρ' => .ok (.rt d) (ρ'.set i (.ow (.lst ds)))
    | .ex c ns vs ρ' => .ex c ns vs (ρ'.set i (.ow (.lst ds)))
    | .bad => .bad)
  | none => .bad
theorem j_forOwn {x : Str} {p : Pos} {i : Nat} {body : List Stmt} {pos : Pos} {b : BF} {g : SF} {wb ws : List Nat} (hK : X.K = T.K) (hp : PassesOwn (model X.prog X.w) X.A X.env X.xe) (hc : X.calm = true) (hx : X.N[i]? = some x) (hg : JG X T wb tg b) (hb : JSs X T W ws body g) (hi : i ∉ wb ++ ws)
    (hv : Vis X.env.scope x := by first | exact Or.inl rfl | exact Or.inr (Or.inl rfl) | exact Or.inr (Or.inr rfl)) (hd : (x == ("__debug__" : Str)) = false := by decide)
    (hcd : (x == ("__classdict__" : Str)) = false := by decide) (hs : ∀ y, foldedSetIterable (.Name x p) X.env y = pure y := by intro _; rfl) : JS X T W (wb ++ ws) (.For tg (.Name x p) body [] pos) (sForOwn i b g) := by
  refine ⟨hK, ps_imp (ps_for hp hc (pi_seqJ (pe_var hx hv hd hcd)) hg.run hb.run hs) fun D σ H ⟨U, G, ρ, R, q⟩ => ?_⟩
  unfold sForOwn at q
  cases e : ownL ρ i with
  | none => rw [e] at q; exact q.elim
  | some ds =>
    rw [e] at q
    dsimp only at q
    obtain ⟨p, o, eσ, hh, r, hU, R1⟩ := R.hide (ownL_ok e)
    obtain ⟨xs, rfl, rs⟩ := r
    refine ⟨_, eσ, .inl ⟨p, xs, rfl, .of hh, fun hl => ?_⟩⟩
    have key : PstS T W (wb ++ ws) D (upd U p (.lst xs)) σ G (forS b g ds (ρ.set i .no)) := by
      have back : ∀ {σ' : L2.St} {G' H' : Hp} {ρ' : En}, Rel T (upd U p (.lst xs)) G' H' σ' ρ' → L2.Same G G' → Keeps (wb ++ ws) σ σ' → Rel T U G' H' σ' (ρ'.set i (.ow (.lst ds))) := fun {σ' G' H' ρ'} R' s k => by
        have e2 : σ'[i]? = some (some (.ref p)) := by rw [k.2 i hi, eσ]
        exact R'.unhide hU e2 (d := .lst ds) ⟨xs, rfl, rs.mono s⟩ (by rw [← R'.len]; exact (List.getElem?_eq_some_iff.mp e2).1)
      cases e3 : forS b g ds (ρ.set i .no) with
      | ok a ρ' =>
        rw [e3] at q
        cases a with
        | nx => exact fun σ' G' H' R' s k => q σ' G' H' (back R' s k) s k
        | rt d => exact fun v σ' G' H' R' s k r => q v σ' G' H' (back R' s k) s k r
      | ex c ns vs ρ' => rw [e3] at q; exact fun cls dx σ' G' H' R' s k x => q cls dx σ' G' H' (back R' s k) s k x
      | bad => rw [e3] at q; exact q.elim
    rw [hK]
    exact for_core (P := fun U' => U' p = some (.lst xs)) upd_same (yl_own (rs.length ▸ hl) rs) R1 key

/-! ### methods that change an owned list -/
/-- x.m(..), x an owned list: g gives the value and the new list -/
def MOk (X : Cx) (T : Tab) (id : String) (g : List D → List D → Option (D × List D)) : Prop :=
  ∃ r : V → List V → Hp → VK → Prop, MtR X id r ∧ ∀ (U G H : Hp) (σ : L2.St) (ρ : En) (p : Addr) (xs vs : List V) (ds as : List D) (d : D) (ds' : List D) (Q : VK), Rel T U G H σ ρ → H p = some (.lst xs) → G p = none → Reps T G xs ds → Reps T G vs as → g ds as = some (d, ds') →
    (∀ v xs', Rep T G v d → Reps T G xs' ds' → Q v (upd H p (.lst xs'))) → r (.ref p) vs H Q
def eMeth (i : Nat) (g : List D → List D → Option (D × List D)) (f : AF) : EF := fun ρ => match ownL ρ i with
  | some _ => (f ρ).bnd fun as ρ' => (match ownL ρ' i, vals as with
    | some ds, some ys => (match g ds ys with
      | some (d, ds') => .ok d (ρ'.set i (.ow (.lst ds')))
      | none => .bad)
    | _, _ => .bad)
  | none => .bad
theorem j_meth {i : Nat} {x m : Str} {id : String} {g : List D → List D → Option (D × List D)} {f : AF} {e : Expr} {es : List Expr} {p apos cpos : Pos} (hM : MOk X T id g) (slot : Slot "list" m id) (hty : typeOf (.builtin id) = pure (.type "method_descriptor")) (ha : JA X T W (e :: es) f) (hN : X.N[i]? = some x)
    (hv : Vis X.env.scope x := by first | exact Or.inl rfl | exact Or.inr (Or.inl rfl) | exact Or.inr (Or.inr rfl)) (hd : (x == ("__debug__" : Str)) = false := by decide)
    (hcd : (x == ("__classdict__" : Str)) = false := by decide) (hbase : attributeBase (.Name x p) m X.env (eval (.Name x p) X.env) = eval (.Name x p) X.env := by rfl)
    (hfew : ((backTo cpos (starEach (e :: es) X.env)).all (fun x => !x.1) && (backToKw cpos (keywordEach [] X.env)).all (fun x => x.1.isSome)
      && decide ((e :: es).length + ([] : List Keyword).length + (if ([] : List Keyword).isEmpty then 0 else 1) < 30)) = true := by rfl)
    (hline : (apos.endLine == cpos.line) = true := by rfl) (hs : starEach (e :: es) X.env = (false, eval e X.env) :: starEach es X.env := by rfl) (hplain : (backTo cpos (starEach es X.env)).any (·.1) = false := by rfl) :
    JE X T W (.Call (.Attribute (.Name x p) m apos) (e :: es) [] cpos) (eMeth i g f) := by
  obtain ⟨r, hr, hM⟩ := hM
  refine ⟨ha.k, pe_imp (pe_bm PySem.F.plainAttrs_list slot hty hr (pe_var hN hv hd hcd) ha.run hbase hfew hline hs hplain) fun σ H Q ⟨U, G, ρ, R, q⟩ => ?_⟩
  unfold eMeth at q
  cases e1 : ownL ρ i with
  | none => rw [e1] at q; exact q.elim
  | some ds0 =>
    rw [e1] at q
    dsimp only at q
    obtain ⟨p, o, eσ, g0, u0, hh, r0⟩ := R.ow i _ (ownL_ok e1)
    obtain ⟨xs0, rfl, _⟩ := r0
    refine ⟨_, eσ, .inl ⟨rfl, xs0, .of hh⟩, U, G, ρ, R, (Pst.bnd q).mono (L2.Same.refl _) fun as G1 H1 ρ1 _ ⟨R1, s1, p1⟩ vs avs => ?_⟩
    split at p1
    · rename_i ds ys e2 e3
      split at p1
      · rename_i d ds' e4
        obtain ⟨p', o', eσ', g1, u1, hh1, r1⟩ := R1.ow i _ (ownL_ok e2)
        rw [eσ] at eσ'
        cases eσ'
        obtain ⟨xs, rfl, rs⟩ := r1
        refine hM U G1 H1 σ ρ1 p xs vs ds ys d ds' Q R1 hh1 g1 rs (vals_ok avs e3) e4 fun v xs' rv rx => ?_
        exact p1 G1 _ (R1.put (ownL_ok e2) eσ (d' := .lst ds') ⟨xs', rfl, rx⟩) (L2.Same.refl _) v rv
      · exact p1.elim
    · exact p1.elim
/-- x.m() -/
theorem j_meth0 {i : Nat} {x m : Str} {id : String} {g : List D → List D → Option (D × List D)} {p apos cpos : Pos} (hK : X.K = T.K) (hM : MOk X T id g) (slot : Slot "list" m id) (hty : typeOf (.builtin id) = pure (.type "method_descriptor")) (hN : X.N[i]? = some x)
    (hv : Vis X.env.scope x := by first | exact Or.inl rfl | exact Or.inr (Or.inl rfl) | exact Or.inr (Or.inr rfl)) (hd : (x == ("__debug__" : Str)) = false := by decide)
    (hcd : (x == ("__classdict__" : Str)) = false := by decide) (hbase : attributeBase (.Name x p) m X.env (eval (.Name x p) X.env) = eval (.Name x p) X.env := by rfl)
    (hline : (apos.endLine == cpos.line) = true := by rfl) :
    JE X T W (.Call (.Attribute (.Name x p) m apos) [] [] cpos) (eMeth i g aNil) := by
  obtain ⟨r, hr, hM⟩ := hM
  refine ⟨hK, pe_imp (pe_bm0 PySem.F.plainAttrs_list slot hty hr (pe_var hN hv hd hcd) hbase hline) fun σ H Q ⟨U, G, ρ, R, q⟩ => ?_⟩
  unfold eMeth at q
  cases e1 : ownL ρ i with
  | none => rw [e1] at q; exact q.elim
  | some ds0 =>
    rw [e1] at q
    simp only [aNil, Rs.bnd_ok, e1, vals_nil] at q
    split at q
    · rename_i d ds' e4
      obtain ⟨p', o', eσ, g1, u1, hh1, r1⟩ := R.ow i _ (ownL_ok e1)
      obtain ⟨xs, rfl, rs⟩ := r1
      refine ⟨_, eσ, .inl ⟨rfl, xs, .of hh1⟩, hM U G H σ ρ p' xs [] ds0 [] d ds' Q R hh1 g1 rs rfl e4 fun v xs' rv rx => ?_⟩
      exact q G _ (R.put (ownL_ok e1) eσ (d' := .lst ds') ⟨xs', rfl, rx⟩) (L2.Same.refl _) v rv
    · exact q.elim
def appD (ds as : List D) : Option (D × List D) := match as with
  | [y] => if ds.length < sizeLine then some (.non, ds ++ [y]) else none
  | _ => none
theorem append_J : MOk X T "list.append" appD := by
  refine ⟨_, mt_append, fun U G H σ ρ p xs vs ds as d ds' Q R hh hg rx ra e q => ?_⟩
  unfold appD at e
  split at e
  · rename_i y
    split at e
    · rename_i hl
      cases e
      obtain ⟨v, r, rfl, rv, hr⟩ := ra
      cases hr
      exact ⟨p, xs, v, rfl, rfl, hh, by rw [rx.length]; exact hl, q _ _ rfl (rx.app (.one rv))⟩
    · cases e
  · cases e
def extD (ds as : List D) : Option (D × List D) := match as with
  | [.lst ys] => if ds.length + ys.length ≤ sizeLine then some (.non, ds ++ ys) else none
  | _ => none
theorem extend_J : MOk X T "list.extend" extD := by
  refine ⟨_, mt_extend, fun U G H σ ρ p xs vs ds as d ds' Q R hh hg rx ra e q => ?_⟩
  unfold extD at e
  split at e
  · rename_i ys
    split at e
    · rename_i hl
      cases e
      obtain ⟨v, r, rfl, rv, hr⟩ := ra
      cases hr
      obtain ⟨b, zs, rfl, hb, rz⟩ := rv
      exact ⟨p, b, xs, zs, rfl, rfl, hh, R.same _ _ hb, by rw [rx.length, rz.length]; exact hl, q _ _ rfl (rx.app rz)⟩
    · cases e
  · cases e
def insD (ds as : List D) : Option (D × List D) := match as with
  | [.int i, y] => if ds.length < sizeLine ∧ 0 ≤ i ∧ i < 2 ^ 63 then some (.non, ds.take i.toNat ++ [y] ++ ds.drop i.toNat) else none
  | _ => none
theorem insert_J : MOk X T "list.insert" insD := by
  refine ⟨_, mt_insert, fun U G H σ ρ p xs vs ds as d ds' Q R hh hg rx ra e q => ?_⟩
  unfold insD at e
  split at e
  · rename_i i y
    split at e
    · rename_i hl
      cases e
      obtain ⟨v, r, rfl, rv, v2, r2, rfl, rv2, hr⟩ := ra
      cases hr
      exact ⟨p, xs, i, v2, rfl, by rw [show v = V.int i from rv], hh, by rw [rx.length]; exact hl.1, hl.2.1, hl.2.2, q _ _ rfl (((rx.take _).app (.one rv2)).app (rx.drop _))⟩
    · cases e
  · cases e
def popD (ds as : List D) : Option (D × List D) := match as with
  | [] => (ds[ds.length - 1]?).map fun y => (y, ds.dropLast)
  | _ => none
theorem Reps.dropLast {G : Hp} {xs : List V} {ds : List D} (r : Reps T G xs ds) : Reps T G xs.dropLast ds.dropLast := by
  rw [List.dropLast_eq_take, List.dropLast_eq_take, r.length]
  exact r.take _
theorem pop_J : MOk X T "list.pop" popD := by
  refine ⟨_, mt_pop, fun U G H σ ρ p xs vs ds as d ds' Q R hh hg rx ra e q => ?_⟩
  unfold popD at e
  split at e
  · cases ra
    cases e2 : ds[ds.length - 1]? with
    | none => rw [e2] at e; cases e
    | some y =>
      rw [e2] at e
      cases e
      obtain ⟨v, h1, rv⟩ := rx.getD e2
      rw [← rx.length] at h1
      exact ⟨p, xs, v, rfl, rfl, hh, h1, q _ _ rv rx.dropLast⟩
  · cases e

/-! ### xs[k] = e -/
def sSub (i : Nat) (f : EF) (h : En → Rs Ar) : SF := fun ρ => (f ρ).bnd fun d ρ1 => match ownL ρ1 i with
  | some _ => (h ρ1).bnd fun a ρ2 => (match ownL ρ2 i, look ρ2 a with
    | some ds, some (.int k) => (match ixN ds.length k with
      | some j => .ok .nx (ρ2.set i (.ow (.lst (ds.set j d))))
      | none => .bad)
    | _, _ => .bad)
  | none => .bad
theorem j_sub_store {i : Nat} {x : Str} {e k : Expr} {f : EF} {h : En → Rs Ar} {p pos pos' : Pos} (he : JE X T W e f) (hk : JR X T W k h) (hN : X.N[i]? = some x) (hs : swapsWithSole [.Subscript (.Name x p) k pos'] e pos.line X.env = pure false := by rfl) (hw : swappedStores [.Subscript (.Name x p) k pos'] e X.env = pure none := by rfl)
    (hv : Vis X.env.scope x := by first | exact Or.inl rfl | exact Or.inr (Or.inl rfl) | exact Or.inr (Or.inr rfl)) (hd : (x == ("__debug__" : Str)) = false := by decide)
    (hcd : (x == ("__classdict__" : Str)) = false := by decide) (h1 : (assignEach [.Subscript (.Name x p) k pos'] X.env).map (·.2) = [assign (.Subscript (.Name x p) k pos') X.env] := by rfl)
    (ha : ∀ v, assign (.Subscript (.Name x p) k pos') X.env v = (do
      let ov ← holding [v] (eval (.Name x p) X.env)
      let iv ← holding [v, ov] (eval k X.env)
      standAt pos'
      holding [v, ov, iv] (setItem ov iv v)
      release [v, ov, iv] []) := by intro _; rfl) : JS X T W [] (.Assign [.Subscript (.Name x p) k pos'] e pos) (sSub i f h) := by
  refine ⟨he.k, ps_imp (ps_asg he.run (pg_sub (pe_var hN hv hd hcd) hk.run set_list ha) hs hw h1) fun D σ H ⟨U, G, ρ, R, q⟩ => ⟨U, G, ρ, R, ?_⟩⟩
  refine (PstS.bndE q).mono (L2.Same.refl _) fun d G1 H1 ρ1 _ ⟨R1, s1, p1⟩ v rv => ?_
  cases e1 : ownL ρ1 i with
  | none => rw [e1] at p1; exact p1.elim
  | some ds0 =>
    rw [e1] at p1
    dsimp only at p1
    obtain ⟨p, o, eσ, g0, u0, hh, r0⟩ := R1.ow i _ (ownL_ok e1)
    refine ⟨_, eσ, U, G1, ρ1, R1, (PstS.bndE p1).mono (L2.Same.refl _) fun a G2 H2 ρ2 _ ⟨R2, s2, p2⟩ u au => ?_⟩
    split at p2
    · rename_i ds k e2 e3
      split at p2
      · rename_i j e4
        obtain ⟨p', o', eσ', g1, u1, hh1, r1⟩ := R2.ow i _ (ownL_ok e2)
        rw [eσ] at eσ'
        cases eσ'
        obtain ⟨xs, rfl, rs⟩ := r1
        have hu : u = .int k := (look_ok R2 au e3).int
        refine ⟨p, xs, k, j, rfl, hu, hh1, by rw [rs.length]; exact e4, ?_⟩
        exact p2 σ G2 _ (R2.put (ownL_ok e2) eσ (d' := .lst (ds.set j d)) ⟨_, rfl, rs.set (rv.mono s2) j⟩) (L2.Same.refl _) (Keeps.refl _ _)
      · exact p2.elim
    · exact p2.elim
end

/-! ### a, b = x, y -/
section
variable {X : Cx} {T : Tab} {W : WX}
def sPar (i j : Nat) (f : AF) : SF := fun ρ => (f ρ).bnd fun as ρ' => match vals as with
  | some [x, y] => .ok .nx ((ρ'.set i (.sh x)).set j (.sh y))
  | _ => .bad
theorem j_par {i j : Nat} {x y : Str} {a b : Expr} {f : AF} {px py pt pos : Pos} {kt k2 pt2} (hc : X.calm = true) (hN : X.N.Nodup) (ha : JA X T W [a, b] f) (hij : i ≠ j := by decide) (hi : X.N[i]? = some x := by rfl) (hj : X.N[j]? = some y := by rfl)
    (hx : X.env.scope.names.lookup x = some .local := by rfl) (hy : X.env.scope.names.lookup y = some .local := by rfl)
    (hw : swappedStores [.Tuple [.Name x px, .Name y py] kt pt] (.Tuple [a, b] k2 pt2) X.env = pure (some [x, y]) := by rfl)
    (hs : swapsWithSole [.Tuple [.Name x px, .Name y py] kt pt] (.Tuple [a, b] k2 pt2) pos.line X.env = pure false := by rfl) :
    JS X T W [i, j] (.Assign [.Tuple [.Name x px, .Name y py] kt pt] (.Tuple [a, b] k2 pt2) pos) (sPar i j f) := by
  refine ⟨ha.k, ps_imp (ps_par hc hN hi hj hij hx hy ha.run hw hs) fun D σ H ⟨U, G, ρ, R, q⟩ => ⟨U, G, ρ, R, ?_⟩⟩
  refine (PstS.bndE q).mono (L2.Same.refl _) fun as G1 H1 ρ1 _ ⟨R1, s1, p1⟩ vs avs => ?_
  split at p1
  · rename_i d1 d2 e
    obtain ⟨v1, r, rfl, r1, v2, r', rfl, r2, hr⟩ := vals_ok avs e
    cases hr
    exact ⟨v1, v2, rfl, p1 _ G1 H1 ((R1.setSh r1).setSh r2) (L2.Same.refl _) ((Keeps.set.mono (by simp)).trans (Keeps.set.mono (by simp)))⟩
  · exact p1.elim
end
end J

set_option Elab.async false
set_option linter.all false
set_option maxRecDepth 100000
set_option maxHeartbeats 4000000
namespace J
open PySem PySem.Spec PyProof.Rows L2

/-- the built-in names that the text leaves alone -/
structure NoB (mg : Str → Option Value) : Prop where
  len : mg "len" = none
  abs : mg "abs" = none
  int : mg "int" = none
  tuple : mg "tuple" = none
  list : mg "list" = none
  sum : mg "sum" = none
  max : mg "max" = none
  min : mg "min" = none
  any : mg "any" = none
  all : mg "all" = none
  range : mg "range" = none
  isi : mg "isinstance" = none
  str : mg "str" = none
  bool : mg "bool" = none
  sorted : mg "sorted" = none
  set : mg "set" = none
  dict : mg "dict" = none
  enumerate : mg "enumerate" = none
  zip : mg "zip" = none
  repr : mg "repr" = none
theorem Room.u {k : Nat} {A : Around} (r : Room k A) : A.units + 65 < cLine := by have := r.un; omega
theorem Room.u4 {k : Nat} {A : Around} (r : Room k A) : A.units + 64 < cLine := by have := r.un; omega
theorem u4 {A : Around} (r : A.units + 65 < cLine) : A.units + 64 < cLine := by omega

section
variable {X : Cx} {T : Tab} {W : WX} {e : Expr} {es : List Expr} {f : AF} {p pos : Pos}
theorem jAbs (ha : JA X T W [e] f) (B : NoB X.mg) (hgl : Gl X "abs" := by rfl) (he : starEach [e] X.env = (false, eval e X.env) :: starEach [] X.env := by rfl) : JE X T W (.Call (.Name "abs" p) [e] [] pos) (eCallB (on1 absD) f) := j_callB call_abs abs_J ha B.abs (by decide +kernel) hgl (by decide) (by decide) he (by rfl)
theorem jInt (ha : JA X T W [e] f) (B : NoB X.mg) (hgl : Gl X "int" := by rfl) (he : starEach [e] X.env = (false, eval e X.env) :: starEach [] X.env := by rfl) : JE X T W (.Call (.Name "int" p) [e] [] pos) (eCallB (on1 intD) f) := j_callT call_int1 int_J ha B.int (by decide +kernel) hgl (by decide) (by decide) he (by rfl)
theorem jTuple (ha : JA X T W [e] f) (B : NoB X.mg) (hgl : Gl X "tuple" := by rfl) (he : starEach [e] X.env = (false, eval e X.env) :: starEach [] X.env := by rfl) : JE X T W (.Call (.Name "tuple" p) [e] [] pos) (eCallB (on1 tupD) f) := j_callT call_tuple_of (tup_J ha.k) ha B.tuple (by decide +kernel) hgl (by decide) (by decide) he (by rfl)
theorem jListO (ha : JA X T W [e] f) (B : NoB X.mg) (hgl : Gl X "list" := by rfl) (he : starEach [e] X.env = (false, eval e X.env) :: starEach [] X.env := by rfl) : JO X T W (.Call (.Name "list" p) [e] [] pos) (eCallB (on1 lstD) f) := j_callTO call_list_of (lst_J ha.k) ha B.list (by decide +kernel) hgl (by decide) (by decide) he (by rfl)
theorem jLen (ha : JA X T W [e] f) (B : NoB X.mg) (hgl : Gl X "len" := by rfl) (he : starEach [e] X.env = (false, eval e X.env) :: starEach [] X.env := by rfl) : JE X T W (.Call (.Name "len" p) [e] [] pos) (eCallB (on1 lenD) f) := j_callB (CallR.or call_len call_lenD) (len_J ha.k) ha B.len (by decide +kernel) hgl (by decide) (by decide) he (by rfl)
theorem jSum (hc : X.calm = true) (ha : JA X T W [e] f) (B : NoB X.mg) (hgl : Gl X "sum" := by rfl) (he : starEach [e] X.env = (false, eval e X.env) :: starEach [] X.env := by rfl) : JE X T W (.Call (.Name "sum" p) [e] [] pos) (eCallB (on1 sumD) f) := j_callB (cr_sum hc) (sum_J ha.k) ha B.sum (by decide +kernel) hgl (by decide) (by decide) he (by rfl)
theorem jMax (hc : X.calm = true) (ha : JA X T W [e] f) (B : NoB X.mg) (hgl : Gl X "max" := by rfl) (he : starEach [e] X.env = (false, eval e X.env) :: starEach [] X.env := by rfl) : JE X T W (.Call (.Name "max" p) [e] [] pos) (eCallB (on1 maxD) f) := j_callB (cr_max hc) (max_J ha.k) ha B.max (by decide +kernel) hgl (by decide) (by decide) he (by rfl)
theorem jMin (hc : X.calm = true) (ha : JA X T W [e] f) (B : NoB X.mg) (hgl : Gl X "min" := by rfl) (he : starEach [e] X.env = (false, eval e X.env) :: starEach [] X.env := by rfl) : JE X T W (.Call (.Name "min" p) [e] [] pos) (eCallB (on1 minD) f) := j_callB (cr_min hc) (min_J ha.k) ha B.min (by decide +kernel) hgl (by decide) (by decide) he (by rfl)
theorem jAny (hc : X.calm = true) (ha : JA X T W [e] f) (B : NoB X.mg) (hgl : Gl X "any" := by rfl) (he : starEach [e] X.env = (false, eval e X.env) :: starEach [] X.env := by rfl) : JE X T W (.Call (.Name "any" p) [e] [] pos) (eCallB (on1 anyD) f) := j_callB (cr_any hc) (any_J ha.k) ha B.any (by decide +kernel) hgl (by decide) (by decide) he (by rfl)
theorem jAll (hc : X.calm = true) (ha : JA X T W [e] f) (B : NoB X.mg) (hgl : Gl X "all" := by rfl) (he : starEach [e] X.env = (false, eval e X.env) :: starEach [] X.env := by rfl) : JE X T W (.Call (.Name "all" p) [e] [] pos) (eCallB (on1 allD) f) := j_callB (cr_all hc) (all_J ha.k) ha B.all (by decide +kernel) hgl (by decide) (by decide) he (by rfl)
theorem jMax2 {e2 : Expr} (hc : X.calm = true) (ha : JA X T W [e, e2] f) (B : NoB X.mg) (hgl : Gl X "max" := by rfl) (he : starEach [e, e2] X.env = (false, eval e X.env) :: starEach [e2] X.env := by rfl) (hpl : (backTo pos (starEach [e2] X.env)).any (·.1) = false := by rfl) : JE X T W (.Call (.Name "max" p) [e, e2] [] pos) (eCallB (on2 max2D) f) := j_callB (call_max2 hc) max2_J ha B.max (by decide +kernel) hgl (by decide) (by decide) he hpl
theorem jMin2 {e2 : Expr} (hc : X.calm = true) (ha : JA X T W [e, e2] f) (B : NoB X.mg) (hgl : Gl X "min" := by rfl) (he : starEach [e, e2] X.env = (false, eval e X.env) :: starEach [e2] X.env := by rfl) (hpl : (backTo pos (starEach [e2] X.env)).any (·.1) = false := by rfl) : JE X T W (.Call (.Name "min" p) [e, e2] [] pos) (eCallB (on2 min2D) f) := j_callB (call_min2 hc) min2_J ha B.min (by decide +kernel) hgl (by decide) (by decide) he hpl
end
section
variable {X : Cx} {T : Tab} {W : WX} {a b : Expr} {fa fb : En → Rs Ar} {pos : Pos}
theorem jtEq (hu : X.A.units + 65 < cLine) (ha : JR X T W a fa) (hb : JR X T W b fb) (hm : behindInMarks .Eq b = false := by first | exact nomark _ | rfl) : JT X T W (.Compare a [.Eq] [b] pos) (tB (f2 eqD fa fb)) := j_cmp (op := .Eq) (pos := pos) (op_eqD (u4 hu)) (eq_J ha.k) ha hb hm
theorem jtNe (hu : X.A.units + 65 < cLine) (ha : JR X T W a fa) (hb : JR X T W b fb) (hm : behindInMarks .NotEq b = false := by first | exact nomark _ | rfl) : JT X T W (.Compare a [.NotEq] [b] pos) (tB (f2 neD fa fb)) := j_cmp (op := .NotEq) (pos := pos) (op_neD (u4 hu)) (ne_J ha.k) ha hb hm
theorem jtIn (hu : X.A.units + 65 < cLine) (ha : JR X T W a fa) (hb : JR X T W b fb) (hm : behindInMarks .In b = false := by first | exact nomark _ | rfl) : JT X T W (.Compare a [.In] [b] pos) (tB (f2 (inD false) fa fb)) := j_cmp (op := .In) (pos := pos) (op_inD hu) (in_J ha.k) ha hb hm
theorem jtNotIn (hu : X.A.units + 65 < cLine) (ha : JR X T W a fa) (hb : JR X T W b fb) (hm : behindInMarks .NotIn b = false := by first | exact nomark _ | rfl) : JT X T W (.Compare a [.NotIn] [b] pos) (tB (f2 (inD true) fa fb)) := j_cmp (op := .NotIn) (pos := pos) (op_notInD hu) (notIn_J ha.k) ha hb hm
theorem jtLt (ha : JR X T W a fa) (hb : JR X T W b fb) (hm : behindInMarks .Lt b = false := by first | exact nomark _ | rfl) : JT X T W (.Compare a [.Lt] [b] pos) (tB (f2 ltD fa fb)) := j_cmp (op := .Lt) (pos := pos) op_lt icmp_J ha hb hm
theorem jtLe (ha : JR X T W a fa) (hb : JR X T W b fb) (hm : behindInMarks .LtE b = false := by first | exact nomark _ | rfl) : JT X T W (.Compare a [.LtE] [b] pos) (tB (f2 leD fa fb)) := j_cmp (op := .LtE) (pos := pos) op_le icmp_J ha hb hm
theorem jtGt (ha : JR X T W a fa) (hb : JR X T W b fb) (hm : behindInMarks .Gt b = false := by first | exact nomark _ | rfl) : JT X T W (.Compare a [.Gt] [b] pos) (tB (f2 gtD fa fb)) := j_cmp (op := .Gt) (pos := pos) op_gt icmp_J ha hb hm
theorem jtGe (ha : JR X T W a fa) (hb : JR X T W b fb) (hm : behindInMarks .GtE b = false := by first | exact nomark _ | rfl) : JT X T W (.Compare a [.GtE] [b] pos) (tB (f2 geD fa fb)) := j_cmp (op := .GtE) (pos := pos) op_ge icmp_J ha hb hm
theorem jtIsN (ha : JR X T W a fa) (hb : JR X T W b fb) (hm : behindInMarks .Is b = false := by first | exact nomark _ | rfl) : JT X T W (.Compare a [.Is] [b] pos) (tB (f2 isNonD fa fb)) := j_cmp (op := .Is) (pos := pos) op_isN isNon_J ha hb hm
theorem jtNotN (ha : JR X T W a fa) (hb : JR X T W b fb) (hm : behindInMarks .IsNot b = false := by first | exact nomark _ | rfl) : JT X T W (.Compare a [.IsNot] [b] pos) (tB (f2 notNonD fa fb)) := j_cmp (op := .IsNot) (pos := pos) op_notN notNon_J ha hb hm
theorem jeEq (hu : X.A.units + 65 < cLine) (ha : JR X T W a fa) (hb : JR X T W b fb) (hm : behindInMarks .Eq b = false := by first | exact nomark _ | rfl) : JE X T W (.Compare a [.Eq] [b] pos) (f2 eqD fa fb) := j_cmpE (op := .Eq) (pos := pos) (op_eqD (u4 hu)) (eq_J ha.k) ha hb hm
theorem jeNe (hu : X.A.units + 65 < cLine) (ha : JR X T W a fa) (hb : JR X T W b fb) (hm : behindInMarks .NotEq b = false := by first | exact nomark _ | rfl) : JE X T W (.Compare a [.NotEq] [b] pos) (f2 neD fa fb) := j_cmpE (op := .NotEq) (pos := pos) (op_neD (u4 hu)) (ne_J ha.k) ha hb hm
theorem jeIn (hu : X.A.units + 65 < cLine) (ha : JR X T W a fa) (hb : JR X T W b fb) (hm : behindInMarks .In b = false := by first | exact nomark _ | rfl) : JE X T W (.Compare a [.In] [b] pos) (f2 (inD false) fa fb) := j_cmpE (op := .In) (pos := pos) (op_inD hu) (in_J ha.k) ha hb hm
theorem jeNotIn (hu : X.A.units + 65 < cLine) (ha : JR X T W a fa) (hb : JR X T W b fb) (hm : behindInMarks .NotIn b = false := by first | exact nomark _ | rfl) : JE X T W (.Compare a [.NotIn] [b] pos) (f2 (inD true) fa fb) := j_cmpE (op := .NotIn) (pos := pos) (op_notInD hu) (notIn_J ha.k) ha hb hm
theorem jeLt (ha : JR X T W a fa) (hb : JR X T W b fb) (hm : behindInMarks .Lt b = false := by first | exact nomark _ | rfl) : JE X T W (.Compare a [.Lt] [b] pos) (f2 ltD fa fb) := j_cmpE (op := .Lt) (pos := pos) op_lt icmp_J ha hb hm
theorem jeLe (ha : JR X T W a fa) (hb : JR X T W b fb) (hm : behindInMarks .LtE b = false := by first | exact nomark _ | rfl) : JE X T W (.Compare a [.LtE] [b] pos) (f2 leD fa fb) := j_cmpE (op := .LtE) (pos := pos) op_le icmp_J ha hb hm
theorem jeGt (ha : JR X T W a fa) (hb : JR X T W b fb) (hm : behindInMarks .Gt b = false := by first | exact nomark _ | rfl) : JE X T W (.Compare a [.Gt] [b] pos) (f2 gtD fa fb) := j_cmpE (op := .Gt) (pos := pos) op_gt icmp_J ha hb hm
theorem jeGe (ha : JR X T W a fa) (hb : JR X T W b fb) (hm : behindInMarks .GtE b = false := by first | exact nomark _ | rfl) : JE X T W (.Compare a [.GtE] [b] pos) (f2 geD fa fb) := j_cmpE (op := .GtE) (pos := pos) op_ge icmp_J ha hb hm
theorem jeIsN (ha : JR X T W a fa) (hb : JR X T W b fb) (hm : behindInMarks .Is b = false := by first | exact nomark _ | rfl) : JE X T W (.Compare a [.Is] [b] pos) (f2 isNonD fa fb) := j_cmpE (op := .Is) (pos := pos) op_isN isNon_J ha hb hm
theorem jeNotN (ha : JR X T W a fa) (hb : JR X T W b fb) (hm : behindInMarks .IsNot b = false := by first | exact nomark _ | rfl) : JE X T W (.Compare a [.IsNot] [b] pos) (f2 notNonD fa fb) := j_cmpE (op := .IsNot) (pos := pos) op_notN notNon_J ha hb hm
end

/-! ### list(range(..)) -/
section
variable {X : Cx} {T : Tab} {W : WX} {a b : Expr} {fa fb : En → Rs Ar} {p q pos pos' : Pos}
def rgOk (i j : Int) : Bool := decide (-(2 ^ 62) ≤ i ∧ i < 2 ^ 62 ∧ -(2 ^ 62) ≤ j ∧ j < 2 ^ 62 ∧ (j - i).toNat ≤ 2 ^ 24)
def rgD (d e : D) : Option D := match d, e with
  | .int i, .int j => if rgOk i j = true then some (.lst (rangeL i (j - i).toNat)) else none
  | _, _ => none
theorem rg_reps {G : Hp} {i j : Int} : Reps T G (rgV i j) (rangeL i (j - i).toNat) := by
  refine Reps.of_get (by unfold rgV rangeL; simp) fun n x d h1 h2 => ?_
  unfold rgV at h1
  unfold rangeL at h2
  rw [List.getElem?_map] at h1 h2
  cases e : (List.range (j - i).toNat)[n]? with
  | none => rw [e] at h1; cases h1
  | some m => rw [e] at h1 h2; cases h1; cases h2; rfl
theorem jListRg2 (hc : X.calm = true) (ha : JR X T W a fa) (hb : JR X T W b fb) (B : NoB X.mg) (hg : Gl X "list" := by rfl) (hg2 : Gl X "range" := by rfl) (na : starEach [a, b] X.env = (false, eval a X.env) :: starEach [b] X.env := by rfl)
    (nb : starEach [b] X.env = (false, eval b X.env) :: starEach [] X.env := by rfl) (hp : (backTo pos' (starEach [b] X.env)).any (·.1) = false := by rfl) (nc : starEach [.Call (.Name "range" q) [a, b] [] pos'] X.env = (false, eval (.Call (.Name "range" q) [a, b] [] pos') X.env) :: starEach [] X.env := by rfl) :
    JO X T W (.Call (.Name "list" p) [.Call (.Name "range" q) [a, b] [] pos'] [] pos) (f2 rgD fa fb) := by
  refine ⟨ha.k, pe_imp (pe_listRg hc hg B.list (prg_2 hg2 B.range ha.run hb.run na nb hp) nc) fun σ H Q ⟨U, G, ρ, R, h⟩ => ⟨U, G, ρ, R, ?_⟩⟩
  refine (Pst.bnd h).mono (L2.Same.refl _) fun x G1 H1 ρ1 _ ⟨R1, s1, p1⟩ v av => ⟨U, G1, ρ1, R1, ?_⟩
  refine (Pst.bnd p1).mono (L2.Same.refl _) fun y G2 H2 ρ2 _ ⟨R2, s2, p2⟩ u au => ?_
  unfold r2 at p2
  cases e1 : look ρ2 x with
  | none => rw [e1] at p2; exact p2.elim
  | some d =>
    cases e2 : look ρ2 y with
    | none => rw [e1, e2] at p2; exact p2.elim
    | some e =>
      rw [e1, e2] at p2
      obtain ⟨c, e3, p3⟩ := Pst.opt p2
      cases d <;> cases e <;> simp only [rgD] at e3 <;> first | (cases e3; done) | skip
      rename_i i j
      split at e3
      · rename_i hr
        cases e3
        have hr' := of_decide_eq_true hr
        refine ⟨i, j, (look_ok R2 (av.mono s2) e1).int, (look_ok R2 au e2).int, hr', fun q hq => ?_⟩
        obtain ⟨R3, hn⟩ := R2.fresh (o := .lst (rgV i j)) hq
        exact p3 G2 _ R3 (L2.Same.refl _) q _ (R2.gfree hq) (R2.ufree hq) upd_same ⟨_, rfl, rg_reps⟩ hn
      · cases e3
end

/-! ### defs that may be called -/
structure CalV (P : Program) (w : World) (K : PySem.W.Frag) (mg : Str → Option Value) (base : Heap) (T : Tab) (k : Nat) (x : Str) (n : Nat) (F : FV) : Prop where
  ex : ∃ (f : Addr) (fd : FuncData) (ps : List Str), FnOk P w K mg base (L2.CX P w) k f fd ps (spV T n F) ∧ mg x = some (.ref f) ∧ PySem.W.keepIn K (.ref f) = true ∧ Binds K fd ps []
structure CalL (P : Program) (w : World) (K : PySem.W.Frag) (mg : Str → Option Value) (base : Heap) (T : Tab) (k : Nat) (x : Str) (n : Nat) (F : FL) : Prop where
  ex : ∃ (f : Addr) (fd : FuncData) (ps : List Str), FnOk P w K mg base (L2.CX P w) k f fd ps (spL T n F) ∧ mg x = some (.ref f) ∧ PySem.W.keepIn K (.ref f) = true ∧ Binds K fd ps []
section
variable {X : Cx} {T : Tab} {W : WX} {k j n : Nat} {x : Str} {p pos : Pos} {e : Expr} {es : List Expr}
theorem jc {F : FV} {g : AF} (c : CalV X.prog X.w X.K X.mg X.base T k x n F) (hr : Room j X.A) (tk : Takes X W) (ha : JA X T W (e :: es) g) (hk : k ≤ j := by decide) (hn : (e :: es).length = n := by rfl) (hg : Gl X x := by rfl) (hdb : (x == ("__debug__" : Str)) = false := by decide)
    (he : starEach (e :: es) X.env = (false, eval e X.env) :: starEach es X.env := by rfl) (hpl : (backTo pos (starEach es X.env)).any (·.1) = false := by rfl) : JE X T W (.Call (.Name x p) (e :: es) [] pos) (eCall F [] g) := by
  obtain ⟨f, fd, ps, Fo, hm, kp, b⟩ := c.ex
  exact j_call (dv := []) Fo (hr.mono hk) hm kp b .nil (fun _ => rfl) tk ha hn hg hdb he hpl
theorem jc0 {F : FV} (c : CalV X.prog X.w X.K X.mg X.base T k x 0 F) (hr : Room j X.A) (tk : Takes X W) (hK : X.K = T.K) (hk : k ≤ j := by decide) (hg : Gl X x := by rfl) (hdb : (x == ("__debug__" : Str)) = false := by decide) : JE X T W (.Call (.Name x p) [] [] pos) (eCall F [] aNil) := by
  obtain ⟨f, fd, ps, Fo, hm, kp, b⟩ := c.ex
  exact j_call0 (dv := []) Fo (hr.mono hk) hm kp b .nil (fun _ => rfl) tk hK rfl hg hdb
theorem jcl {F : FL} {g : AF} (c : CalL X.prog X.w X.K X.mg X.base T k x n F) (hr : Room j X.A) (tk : Takes X W) (ha : JA X T W (e :: es) g) (hk : k ≤ j := by decide) (hn : (e :: es).length = n + 1 := by rfl) (hg : Gl X x := by rfl) (hdb : (x == ("__debug__" : Str)) = false := by decide)
    (he : starEach (e :: es) X.env = (false, eval e X.env) :: starEach es X.env := by rfl) (hpl : (backTo pos (starEach es X.env)).any (·.1) = false := by rfl) : JE X T W (.Call (.Name x p) (e :: es) [] pos) (eCallL F g) := by
  obtain ⟨f, fd, ps, Fo, hm, kp, b⟩ := c.ex
  exact j_callL Fo (hr.mono hk) hm kp b tk ha hn hg hdb he hpl
end
section
variable {P : Program} {w : World} {K : PySem.W.Frag} {mg : Str → Option Value} {base : Heap} {T : Tab} {x : Str} {st : Stmt} {f : Addr} {fd : FuncData} {N ps : List Str} {k m n : Nat} {ws : List Nat} {body : SF}
/-- what a body may use -/
structure Bo (X : Cx) (k : Nat) (E : XK) : Prop where
  hr : Room k X.A
  tk : Takes X (WO E)
  hp : PassesOwn (model X.prog X.w) X.A X.env X.xe
theorem calV (F : Fun K x x st f fd) (S : FnScope N ps (defScope st)) (hm : mg x = some (.ref f)) (hb : Binds K fd ps [])
    (hbody : ∀ (cdv : Value) (A : Around) (outer : List Env) (s : Shared) (H : Hp) (E : XK), Bo (cxOf (L2.CX P w) P w K mg base N x (defScope st) f cdv A outer s H E) k E →
      JSs (cxOf (L2.CX P w) P w K mg base N x (defScope st) f cdv A outer s H E) T (WO E) ws (defBody st) body) (hN : N.length = ps.length + m := by rfl) (hn : ps.length = n := by rfl) : CalV P w K mg base T (k + 1) x n (fnV m body) := by
  subst hn
  exact ⟨f, fd, ps, fnV_ok F S hN fun cdv A outer s H E hr => hbody cdv A outer s H E ⟨hr, takes_of rfl rfl rfl rfl, passes_of rfl⟩, hm, F.kp, hb⟩
theorem calL (F : Fun K x x st f fd) (S : FnScope N ps (defScope st)) (hm : mg x = some (.ref f)) (hb : Binds K fd ps [])
    (hbody : ∀ (cdv : Value) (A : Around) (outer : List Env) (s : Shared) (H : Hp) (E : XK), Bo (cxOf (L2.CX P w) P w K mg base N x (defScope st) f cdv A outer s H E) k E →
      JSs (cxOf (L2.CX P w) P w K mg base N x (defScope st) f cdv A outer s H E) T (WO E) ws (defBody st) body) (hw : 0 ∉ ws := by decide) (hN : N.length = ps.length + m := by rfl) (hn : ps.length = n + 1 := by rfl) : CalL P w K mg base T (k + 1) x n (fnL m body) :=
  ⟨f, fd, ps, fnL_ok F S hN hn hw fun cdv A outer s H E hr => hbody cdv A outer s H E ⟨hr, takes_of rfl rfl rfl rfl, passes_of rfl⟩, hm, F.kp, hb⟩
end

/-! ### short forms -/
def bigN : Nat := 1000000000000000000
/-- a def that is not walked -/
theorem calBad {P : Program} {w : World} {K : PySem.W.Frag} {mg : Str → Option Value} {base : Heap} {T : Tab} {x : Str} {st : Stmt} {f : Addr} {fd : FuncData} {ps : List Str} {k n : Nat} (F : Fun K x x st f fd) (hm : mg x = some (.ref f)) (hb : Binds K fd ps []) (hn : ps.length = n := by rfl) :
    CalV P w K mg base T k x n (fun _ => .bad) :=
  ⟨f, fd, ps, ⟨fun vs H Q E ⟨_, _, _, _, _, _, z⟩ => z.elim, fun A outer s H args us vs Q E _ _ _ _ ⟨_, _, _, _, _, _, z⟩ => z.elim⟩, hm, F.kp, hb⟩
/-- an own exception class: its number, its fields' numbers (the last one first), how many arguments -/
structure ExT (P : Program) (w : World) (K : PySem.W.Frag) (mg : Str → Option Value) (base : Heap) (T : Tab) (k : Nat) (x : Str) (c : Nat) (ns : List Nat) (n : Nat) : Prop where
  ex : ∃ C fs, ExK P w K mg base x C fs k ∧ T.exc c = C ∧ fs.reverse = ns.map T.fnm ∧ fs.length = n
/-- an except clause -/
structure HdT (K : PySem.W.Frag) (mg : Str → Option Value) (T : Tab) (x : Str) (hm : Nat → Option Bool) : Prop where
  ex : ∃ cl, mg x = some cl ∧ ∀ c b, hm c = some b → PySem.W.exmOne K (.ref (T.exc c)) cl = some b
/-- a field of a caught exception -/
structure XfT (K : PySem.W.Frag) (T : Tab) (n : Nat) (f : Str) (ok : Nat → Bool) : Prop where
  fn : T.fnm n = f
  ok : ∀ c, ok c = true → XfC K (T.exc c) ∧ PySem.W.findIn K (.ref (T.exc c)) f = some none
section
variable {X : Cx} {T : Tab} {W : WX} {k j n : Nat} {x : Str} {p pos pos' : Pos} {e : Expr} {es : List Expr}
theorem jRaise {c : Nat} {ns : List Nat} {g : AF} (et : ExT X.prog X.w X.K X.mg X.base T k x c ns n) (hr : Room j X.A) (tk : Takes X W) (ha : JA X T W (e :: es) g) (hk : k + 1 ≤ j := by decide) (hl : (e :: es).length = n := by rfl) (hc : X.calm = true := by rfl) (hl2 : (e :: es).length ≤ 1000 := by decide)
    (hg : Gl X x := by rfl) (hdb : (x == ("__debug__" : Str)) = false := by decide) (he : starEach (e :: es) X.env = (false, eval e X.env) :: starEach es X.env := by rfl) (hpl : (backTo pos (starEach es X.env)).any (·.1) = false := by rfl) :
    JS X T W [] (.Raise (some (.Call (.Name x p) (e :: es) [] pos)) none pos') (sRaise c ns g) := by
  obtain ⟨C, fs, ek, h1, h2, h3⟩ := et.ex
  exact j_raise ek (hr.mono hk) tk h1 h2 ha (hl.trans h3.symm) hc hl2 hg hdb he hpl
theorem jTryAs {y : Str} {i : Nat} {hm : Nat → Option Bool} {body suite : List Stmt} {b₀ : Stmt} {np : Pos} {f g : SF} {wb ws : List Nat} (hK : X.K = T.K) (hN : X.N.Nodup) (hd : HdT X.K X.mg T x hm) (tk : Takes X W)
    (hb : ∀ (W : WX) (pn : List (Addr × Obj)) (xe : Value → Shared → Prop), Takes (X.tr pn xe) W → PassesOwn (model X.prog X.w) X.A X.env xe → JSs (X.tr pn xe) T W wb body f)
    (hsu : ∀ (a : Addr) (oe : Obj) (cls : Value) (d : Option Addr) (pn : List (Addr × Obj)), Zc cls d oe → (∃ vs, oe.data = .fields vs) → JSs (X.suite a ((a, oe) :: pn)) (eaT T (some (a, cls, d))) WF ws (b₀ :: suite) g)
    (hi : X.N[i]? = some y := by rfl) (hln : X.env.kindOf y = some .local := by rfl) (hg : Gl X x := by rfl) (hdb : (x == ("__debug__" : Str)) = false := by decide)
    (hs : X.stack = X.env :: X.outer := by rfl) (hf : X.env.frame = some X.env.locals := by rfl) :
    JS X T W (wb ++ (i :: ws)) (.Try body [.ExceptHandler (some (.Name x np)) (some y) (b₀ :: suite) pos'] [] [] pos) (sTryAs i hm f g) := by
  obtain ⟨cl, h1, h2⟩ := hd.ex
  exact j_try_as hK hN hi hln ⟨hg, hdb, .inl h1⟩ tk h2 hb hsu hs hf
theorem jTry {hm : Nat → Option Bool} {body suite : List Stmt} {b₀ : Stmt} {np : Pos} {f g : SF} {wb ws : List Nat} (hK : X.K = T.K) (hd : HdT X.K X.mg T x hm) (tk : Takes X W)
    (hb : ∀ (W : WX) (pn : List (Addr × Obj)) (xe : Value → Shared → Prop), Takes (X.tr pn xe) W → PassesOwn (model X.prog X.w) X.A X.env xe → JSs (X.tr pn xe) T W wb body f)
    (hsu : ∀ (a : Addr) (oe : Obj) (pn : List (Addr × Obj)), JSs (X.suite a ((a, oe) :: pn)) T WF ws (b₀ :: suite) g)
    (hx : ∀ ρ c ns vs ρ', g ρ ≠ .ex c ns vs ρ') (hg : Gl X x := by rfl) (hdb : (x == ("__debug__" : Str)) = false := by decide)
    (hs : X.stack = X.env :: X.outer := by rfl) (hf : X.env.frame = some X.env.locals := by rfl) :
    JS X T W (wb ++ ws) (.Try body [.ExceptHandler (some (.Name x np)) none (b₀ :: suite) pos'] [] [] pos) (sTry hm f g) := by
  obtain ⟨cl, h1, h2⟩ := hd.ex
  exact j_try hK ⟨hg, hdb, .inl h1⟩ tk h2 hb hsu hx hs hf
theorem jXf {i n : Nat} {ok : Nat → Bool} {a : Addr} {oe : Obj} {cls : Value} {d : Option Addr} {pn : List (Addr × Obj)} {f : Str} (hk : X.K = T.K) (hinj : ∀ a b, T.fnm a = T.fnm b → a = b) (xf : XfT X.K T n f ok) (hz : Zc cls d oe) (hf : ∃ vs, oe.data = .fields vs)
    (hN : X.N[i]? = some x := by rfl) (hv : Vis X.env.scope x := by first | exact Or.inl rfl | exact Or.inr (Or.inl rfl) | exact Or.inr (Or.inr rfl)) (hd : (x == ("__debug__" : Str)) = false := by decide)
    (hcd : (x == ("__classdict__" : Str)) = false := by decide) (hb : attributeBase (.Name x p) f X.env (eval (.Name x p) X.env) = eval (.Name x p) X.env := by rfl) :
    JE (X.suite a ((a, oe) :: pn)) (eaT T (some (a, cls, d))) W (.Attribute (.Name x p) f pos) (eXf i n ok) := j_xf hk hinj xf.fn xf.ok hz hf hN hv hd hcd hb
end
end J

set_option Elab.async false
set_option linter.all false
set_option maxRecDepth 100000
set_option maxHeartbeats 4000000
namespace J
open PySem PySem.Spec PyProof.Rows L2

/-! ### repr -/
def reprOk (d : D) : Bool := okE 60 d && ((toPy d).showable && decide ((toPy d).shown.length ≤ sizeLine))
def rReprJ (T : Tab) : List V → Hp → VK → Prop := fun xs H Q => ∃ x G d, xs = [x] ∧ L2.Same G H ∧ Rep T G x d ∧ reprOk d = true ∧ Q (.str (toPy d).shown) H
theorem repr_J {X : Cx} {T : Tab} (hK : X.K = T.K) (hg : X.A.guards = some []) (hu : X.A.units + 65 < cLine) : CallR X (.builtin "repr") (rReprJ T) := by
  intro pins s σ H xs us Q I r h
  obtain ⟨x, G, d, rfl, sm, rd, ho, q⟩ := h
  obtain ⟨u, rfl, ru⟩ := r.one
  obtain ⟨o1, o2⟩ := Bool.and_eq_true_iff.mp ho
  obtain ⟨o2, o3⟩ := Bool.and_eq_true_iff.mp o2
  have o3 := of_decide_eq_true o3
  obtain ⟨a1, a2, a3⟩ := okE_dp o1 (rd.mono sm)
  rw [← hK] at a1
  obtain ⟨as, rr⟩ := Dp.reads I _ x u a1 ru
  have hnd := PyData.noDict_hsm (as := as) (PyData.hasDict_of_canLay _ a2)
  have fin : ∀ h' t, (∀ b o, s.heap.get? b = some o → h'.get? b = some o) → ∀ k, EP X pins σ Q (.str (toPy d).shown k) { s with heap := h', toks := t } := fun h' t hk k => ⟨.str _, H, I.kept hk, ⟨_, rfl⟩, q⟩
  cases d with
  | non => cases rd; cases ru; exact PySem.P.repr_of_none (fin s.heap _ (fun _ _ e => e) _)
  | bl b => cases rd; cases ru; exact PySem.P.repr_of_bool (by have z := fin s.heap (s.toks + 1) (fun _ _ e => e) s.toks; cases b <;> exact z)
  | int i => cases rd; obtain ⟨t, rfl⟩ := ru; exact PySem.P.repr_of_int (by simpa [toPy, PyData.showable] using o2) (fin s.heap _ (fun _ _ e => e) _)
  | str z => obtain ⟨rfl, _⟩ := rd; obtain ⟨t, rfl⟩ := ru; exact PySem.P.repr_of_str (fin s.heap _ (fun _ _ e => e) _) o3
  | tup ds =>
    obtain ⟨a, ys, rfl, _⟩ := rd
    cases ru
    exact repr_of_reads' rr o2 hnd hg (by omega) (fun _ _ e => e) (fun h' u tk hk => fin h' tk hk u) o3
  | lst ds =>
    obtain ⟨a, ys, rfl, _⟩ := rd
    cases ru
    exact repr_of_reads' rr o2 hnd hg (by omega) (fun _ _ e => e) (fun h' u tk hk => fin h' tk hk u) o3
  | scr ds => simp [okE] at o1
  | dct _ _ => simp [okE] at o1
  | obj _ _ _ => simp [okE] at o1
  | fn _ => simp [okE] at o1
/-- repr(a) != repr(b) -/
def tReprNe (f g : EF) : TF := fun ρ => (f ρ).bnd fun d ρ1 => if reprOk d = true then (g ρ1).bnd fun e ρ2 => (if reprOk e = true then .ok (!decide ((toPy d).shown = (toPy e).shown)) ρ2 else .bad) else .bad
section
variable {X : Cx} {T : Tab} {W : WX} {a b : Expr} {f g : EF} {p q pos1 pos2 pos : Pos}
theorem jReprNe (hg : X.A.guards = some []) (hu : X.A.units + 65 < cLine) (ha : JE X T W a f) (hb : JE X T W b g) (B : NoB X.mg) (hgl : Gl X "repr" := by rfl) (he : starEach [a] X.env = (false, eval a X.env) :: starEach [] X.env := by rfl) (he2 : starEach [b] X.env = (false, eval b X.env) :: starEach [] X.env := by rfl) :
    JT X T W (.Compare (.Call (.Name "repr" p) [a] [] pos1) [.NotEq] [.Call (.Name "repr" q) [b] [] pos2] pos) (tReprNe f g) := by
  have ra := pe_callB (pos := pos1) (p := p) (repr_J ha.k hg hu) hgl B.repr PyProof.Rows.bootS_repr (pa_cons ha.run pa_nil he) (by decide) (by decide) he rfl
  have rb := pe_callB (pos := pos2) (p := q) (repr_J ha.k hg hu) hgl B.repr PyProof.Rows.bootS_repr (pa_cons hb.run pa_nil he2) (by decide) (by decide) he2 rfl
  refine ⟨ha.k, pt_imp (pt_cmpR op_ne ra rb (nomark _)) fun σ H Q ⟨U, G, ρ, R, h⟩ => ⟨U, G, ρ, R, ?_⟩⟩
  refine (Pst.bnd h).mono (L2.Same.refl _) fun d G1 H1 ρ1 _ ⟨R1, s1, p1⟩ v rv => ?_
  split at p1
  · rename_i ho
    refine ⟨v, G1, d, rfl, R1.same, rv, ho, U, G1, ρ1, R1, (Pst.bnd p1).mono (L2.Same.refl _) fun e G2 H2 ρ2 _ ⟨R2, s2, p2⟩ u ru => ?_⟩
    split at p2
    · rename_i hh
      refine ⟨u, G2, e, rfl, R2.same, ru, hh, ?_⟩
      have z := p2 G2 H2 R2 (L2.Same.refl _)
      have e1 : decide (V.str (toPy d).shown = V.str (toPy e).shown) = decide ((toPy d).shown = (toPy e).shown) := by
        rw [Bool.eq_iff_iff]; simp
      exact ⟨rfl, _, rfl, by rw [e1]; exact z⟩
    · exact p2.elim
  · exact p1.elim
end

/-! ### a def that may ask where it stands -/
structure FnG (P : Program) (w : World) (K : PySem.W.Frag) (mg : Str → Option Value) (base : Heap) (CX : CXT) (k : Nat) (f : Addr) (fd : FuncData) (ps : List Str) (sp : Sp) : Prop where
  len : ∀ vs H Q E, sp vs H Q E → vs.length = ps.length
  run : ∀ (A : Around) (outer : List Env) (s : Shared) (H : Hp) (args : Args) (us : List Value) (vs : List V) (Q : VK) (E : XK), A.guards = some [] → Room k A → Env0 P w K mg base A outer s H → BindsTo s fd args (ps.zip us) → Vals vs us → sp vs H Q E →
    codeAny (model P w) A (.call (.ref f) args) (CR CX outer P w H s Q E) s
section
variable {P : Program} {w : World} {K : PySem.W.Frag} {mg : Str → Option Value} {base : Heap}
theorem deeper_guards {A : Around} {env : Env} (h : A.guards = some []) : (A.deeper env).guards = some [] := h
/-- by its body -/
theorem fnG_of {x qual : Str} {st : Stmt} {f : Addr} {fd : FuncData} {N ps : List Str} {k : Nat} {sp : Sp} {CX : CXT} (F : Fun K x qual st f fd) (S : FnScope N ps (defScope st)) (len : ∀ vs H Q E, sp vs H Q E → vs.length = ps.length)
    (hbody : ∀ (cdv : Value) (A : Around) (outer : List Env) (s : Shared) (H : Hp) (vs : List V) (Q : VK) (E : XK), A.guards = some [] → Room k (A.deeper (envOfC qual (defScope st) s.heap.objs.size f cdv)) → sp vs H Q E →
      ∃ t, PSs (cxOf CX P w K mg base N qual (defScope st) f cdv A outer s H E) (defBody st) t ∧ t { nx := fun _ H' => Q .non H', rt := Q } (L2.start N vs) H) : FnG P w K mg base CX (k + 1) f fd ps sp := by
  obtain ⟨oc, od, kV, doc, pm, an, cdv, ct, osl, rfl, lk, hcd⟩ := F.ex
  refine ⟨len, fun A outer s H args us vs Q E hg hr e0 hbind r hsp => ?_⟩
  have hl := len _ _ _ _ hsp
  have KX : K.In s.heap := e0.mod.kin.keeps fun b o e => (e0.bs b o e).1
  refine codeAny_call_function hr.depth (KX _ _ lk) rfl S.co S.gen rfl (PySem.W.codeRec_of KX hcd) (hbind _ _ _ _ ?_)
  refine wpAny_newFunctionEnv_cells S.kind (fun ⟨n, v⟩ hy => (S.par n (List.of_mem_zip hy).1).imp id fun q => ⟨q, PySem.W.cellsFrom_some _ _ _ (.inl q)⟩) fun env he s1 x => ?_
  subst he
  refine ⟨(e0.mod.nolimit.keeps fun b o e => (e0.bs b o e).1).keeps x.toInCall.keep, codeAny_func ?_⟩
  obtain ⟨t, ht, hq⟩ := hbody cdv A outer s H vs Q E hg (hr.deeper _) hsp
  have out : ∀ {σ' : L2.St} {H' : Hp} {v : V} {u : Value} {s' : Shared}, Inv (cxOf CX P w K mg base N qual (defScope st) f cdv A outer s H E) [] σ' H' s' → RelV v u → Q v H' → CE outer P w H s Q u s' :=
    fun J rv q => ⟨_, _, J.os, J.bare, J.base, J.hok, rv, q⟩
  refine wpAny_mono (ht.run [] s1 (L2.start N vs) H _ (inv_start S hr.hd e0 hl r x) hq) (fun fl s' hs => ?_) fun e s' hs => hs
  cases fl with
  | ret u => obtain ⟨v, σ', H', J, rv, q⟩ := hs; exact out J rv q
  | next => obtain ⟨σ', H', J, q⟩ := hs; exact out (v := V.non) (u := Value.none) J rfl q
  | brk => obtain ⟨_, _, _, q⟩ := hs; exact q.elim
  | cont => obtain ⟨_, _, _, q⟩ := hs; exact q.elim
theorem fnG_V {x qual : Str} {st : Stmt} {f : Addr} {fd : FuncData} {N ps : List Str} {k m : Nat} {ws : List Nat} {body : SF} {T : Tab} (F : Fun K x qual st f fd) (S : FnScope N ps (defScope st)) (hN : N.length = ps.length + m)
    (hbody : ∀ (cdv : Value) (A : Around) (outer : List Env) (s : Shared) (H : Hp) (E : XK), A.guards = some [] → Bo (cxOf (L2.CX P w) P w K mg base N qual (defScope st) f cdv A outer s H E) k E →
      JSs (cxOf (L2.CX P w) P w K mg base N qual (defScope st) f cdv A outer s H E) T (WO E) ws (defBody st) body) : FnG P w K mg base (L2.CX P w) (k + 1) f fd ps (spV T ps.length (fnV m body)) := by
  refine fnG_of F S (fun vs H Q E h => h.1) (fun cdv A outer s H vs Q E hg hr h => ?_)
  obtain ⟨hl, U, G, ds, R, r, p⟩ := h
  refine ⟨_, (hbody cdv A outer s H E hg ⟨hr, takes_of rfl rfl rfl rfl, passes_of rfl⟩).run, U, G, _, start_at hN hl ▸ R.entry r m, ?_⟩
  unfold fnV at p
  cases e : body (ds.map .sh ++ List.replicate m .no) with
  | ok a ρ' =>
    rw [e] at p
    cases a with
    | nx => exact fun σ' G' H' R' s' _ => p G' H' R'.nil s' _ rfl
    | rt d => exact fun v σ' G' H' R' s' _ r' => p G' H' R'.nil s' v r'
  | ex c ns vs ρ' => rw [e] at p; exact fun cls dx σ' G' H' R' s' _ x => p cls dx G' H' R'.nil s' x
  | bad => rw [e] at p; exact p.elim
/-- it is called by what stands at the top, H tracking at most the script -/
theorem topG_at {a fa : Addr} {fd : FuncData} {x : Str} {sp : Sp} {CX : CXT} {k : Nat} {s₁ : Shared} {H : Hp} {its : Array Value} {mb : Str → Option Value} (KX : K.In s₁.heap) (hns : s₁.heap.Ns mainGlobals mg) (hb : s₁.heap.Ns builtinsNs mb) (hbb : ∀ x : Str, x ≠ "__name__" → mb x = bootBuiltins x) (hlim : s₁.heap.NoLimit) (hg : s₁.gens = #[])
    (ha : s₁.heap.get? a = some { cls := .type "list", data := .seq its }) (hr : Room k callerA) (hO : Only H) (hok : HOk P w H s₁.heap) (h1 : ∀ b, b ≠ a → H b = none) (h2 : ∀ o, K.lookup a = some o → H a = none)
    (F : ∀ base : Heap, K.In base → base.Ns mainGlobals mg → FnG P w K mg base CX k fa fd [x] sp) (hbind : ∀ (s : Shared) (u : Value), BindsTo s fd ⟨[u], []⟩ [(x, u)])
    (hsp : sp [.ref a] H (fun v _ => v = .bl true) fun _ _ _ => False) (hCX : ∀ H e s', CX [] H s₁ (fun _ _ _ => False) e s' → False) :
    codeAny (model P w) callerA (.call (.ref fa) ⟨[.ref a], []⟩) (fun r s' => r = .ok (.ret (.bool true)) ∧ OldK s₁.heap s'.heap ∧ s'.os = s₁.os ∧ AllBare s'.gens) s₁ := by
  have stays : ∀ {b : Addr} {o : Obj}, s₁.heap.get? b = some o → H b = none → (hidT s₁.heap H).get? b = some o := fun e n => hidT_get e n
  have ns : ∀ {b : Addr} {m : Str → Option Value}, s₁.heap.Ns b m → (hidT s₁.heap H).Ns b m := fun {b m} ⟨o, es, ep, e, d, r⟩ => by
    refine ⟨o, es, ep, stays e (h1 b fun z => ?_), d, r⟩
    rw [z, ha] at e
    cases e
    cases d
  have hKb : K.In (hidT s₁.heap H) := fun b o e => stays (KX b o e) (by
    by_cases hba : b = a
    · rw [hba] at e ⊢; exact h2 o e
    · exact h1 b hba)
  have hlim' : (hidT s₁.heap H).NoLimit := let ⟨mc, l1, l2⟩ := hlim; ⟨mc, ns l1, l2⟩
  have e0 : Env0 P w K mg (hidT s₁.heap H) callerA [] s₁ H :=
    ⟨rfl, ⟨hKb, ns hns, ⟨mb, ns hb, hbb⟩, hlim'⟩, fun b o e => of_hidT e, Nat.le_of_eq (hidT_size _ _), trivial, fun b z => (List.not_mem_nil z).elim, hok, .of_eq hg⟩
  refine codeAny_mono ((F _ hKb (ns hns)).run callerA [] s₁ H ⟨[.ref a], []⟩ [.ref a] [.ref a] _ _ rfl hr e0 (hbind s₁ (.ref a)) (.cons rfl .nil) hsp) fun r s' q => ?_
  match r, q with
  | .error e, q => exact (hCX H e s' q).elim
  | .ok (.ret u), ⟨v, H', os, bare, un, hok', rv, hv⟩ =>
    have hv : v = .bl true := hv
    subst hv
    have hu : u = Value.bool true := rv
    subst hu
    refine ⟨rfl, OldK.of_keep fun b o e => ?_, os, bare⟩
    rcases hO b with z | ⟨ob, xs, z⟩
    · exact un.keep b o e z (fun m => (List.not_mem_nil m).elim) List.not_mem_nil
    · have o1 := (hok b _ z).1
      rw [e] at o1
      cases o1
      exact (hok' b _ (un.frzs b _ _ z)).1
/-- the end: what k_head leaves, from the law's function -/
theorem walkG {l : PySem.W.OpenLaw} {n k : Nat} {q : Program} {loose : List Str} {XP : (Str → Option Value) → Heap → Prop} {YP : World → Heap → Prop} {d : DefRec} {K : Params → PySem.W.Frag} {CX : World → CXT} {sp : World → Sp} {x : Str}
    (hn : l.most = some n) (hn2 : n ≤ sizeLine) (hdf : d.params.defaults = []) (hr : Room k callerA) (hY : ∀ (w : World) (h : Heap), YP w h → (K w.params).In h)
    (F : ∀ (w : World) (mg : Str → Option Value) (fa : Addr) (h : Heap), (K w.params).In h → h.Ns mainGlobals mg → mg d.name = some (.ref fa) →
      ∃ fd : FuncData, (∀ (s : Shared) (u : Value), BindsTo s fd ⟨[u], []⟩ [(x, u)]) ∧ ∀ base : Heap, (K w.params).In base → base.Ns mainGlobals mg → FnG l.prog w (K w.params) mg base (CX w) k fa fd [x] (sp w))
    (hsp : ∀ (w : World) (H : Hp) (a : Addr) (ns : List Int), ns.length ≤ n → SqL (K w.params) H a (ns.map V.int) → sp w [.ref a] H (fun v _ => v = .bl true) fun _ _ _ => False)
    (hCX : ∀ (w : World) (H : Hp) (s : Shared) (e : Value) (s' : Shared), CX w [] H s (fun _ _ _ => False) e s' → False) :
    PySem.W.WalkO q loose XP YP l.row.toRowW d [] (fun f vs => PySem.call f vs) := by
  refine Att.attach_call hn hdf fun w s₀ s₁ mg mb fa o pm cd doc a vs ns G Y ho hd hcd hmg hobj hints hlen hg => ?_
  have KX := hY w _ Y
  obtain ⟨fd, hb, hF⟩ := F w mg fa _ KX G.T.g hmg
  have rv := vals_ints hints
  have hz : (ns.map V.int).length ≤ sizeLine := by rw [List.length_map]; omega
  cases hk : (K w.params).lookup a with
  | some ob =>
    have e := KX a ob hk
    rw [hobj] at e
    cases e
    refine topG_at (H := fun _ => none) KX G.T.g G.T.b G.T.builtins G.T.nolimit hg hobj hr (fun _ => .inl rfl) (fun b u z => nomatch (show (none : Option HO) = some u from z)) (fun _ _ => rfl) (fun _ _ => rfl) hF hb (hsp w _ a ns hlen (.inr ⟨_, vs.toArray, _, hk, rfl, rfl, rfl, ?_, rv⟩)) fun H e s' => hCX w H s₁ e s'
    rw [List.size_toArray, hints.length]
    omega
  | none =>
    let o0 : HO := .frz { cls := .type "list", data := .seq vs.toArray } (.lst (ns.map V.int))
    have hat : (fun b => if b = a then some o0 else none : Hp) a = some o0 := if_pos rfl
    refine topG_at (H := fun b => if b = a then some o0 else none) KX G.T.g G.T.b G.T.builtins G.T.nolimit hg hobj hr (fun b => ?_) (fun b u z => ?_) (fun b hb => if_neg hb) (fun o e => by rw [hk] at e; cases e) hF hb (hsp w _ a ns hlen (.inl (.inr ⟨_, hat⟩))) fun H e s' => hCX w H s₁ e s'
    · by_cases hba : b = a
      · exact .inr ⟨_, _, if_pos hba⟩
      · exact .inl (if_neg hba)
    · by_cases hba : b = a
      · have z' := (if_pos hba).symm.trans z
        cases z'
        subst hba
        exact ⟨hobj, hz, vs, _, rv, hobj⟩
      · have z' := (if_neg hba).symm.trans z
        cases z'
end
end J

set_option Elab.async false
set_option linter.all false
set_option maxRecDepth 100000
set_option maxHeartbeats 4000000
namespace J
open PySem PySem.Spec PyProof.Rows L2 NdefX

/-! ### the table -/
def padF (n : Nat) : Str := ⟨Array.replicate (n + 1000) 97⟩
def mkF (names : List Str) (n : Nat) : Str := names.getD n (padF n)
theorem mkF_inj {names : List Str} (h1 : names.all (fun s => decide (s.cps.size < 1000)) = true) (h2 : names.Nodup) : ∀ a b, mkF names a = mkF names b → a = b := by
  intro a b h
  have gt : ∀ n (hn : n < names.length), mkF names n = names[n] := fun n hn => by
    unfold mkF; rw [List.getD_eq_getElem?_getD, List.getElem?_eq_getElem hn]; rfl
  have sz : ∀ n, names.length ≤ n → (mkF names n).cps.size = n + 1000 := fun n hn => by
    have e : mkF names n = padF n := by unfold mkF; rw [List.getD_eq_getElem?_getD, List.getElem?_eq_none hn]; rfl
    rw [e]
    simp [padF]
  have sm : ∀ n, n < names.length → (mkF names n).cps.size < 1000 := fun n hn => by
    rw [gt n hn]
    exact of_decide_eq_true (List.all_eq_true.mp h1 _ (List.getElem_mem hn))
  by_cases ha : a < names.length
  · by_cases hb : b < names.length
    · skip
      rw [gt a ha, gt b hb] at h
      exact (List.getElem_inj h2).mp h
    · have e1 := sm a ha
      have e2 := sz b (by omega)
      rw [h, e2] at e1
      omega
  · have e1 := sz a (by omega)
    by_cases hb : b < names.length
    · have e2 := sm b hb
      rw [← h, e1] at e2
      omega
    · have e2 := sz b (by omega)
      rw [h, e2] at e1
      omega
abbrev mkT (K : PySem.W.Frag) (ex cl fn : List Addr) (names : List Str) : Tab := { K := K, cls := fun n => cl.getD n 0, exc := fun n => ex.getD n 0, fnm := mkF names, fna := fun n => fn.getD n 0 }

/-! ### an exception class from the written part -/
section
variable {P : Program} {w : World} {K : PySem.W.Frag} {mg : Str → Option Value} {base : Heap} {T : Tab} {f cc cda C : Addr} {x qual : Str} {params : Arguments} {scope : Scope} {doc pm ct oc : Value} {an od : Option Addr}
    {osl : Array (Option Value)} {p0 p1 p2 p3 p4 q1 q2 q3 q4 q5 q6 q7 q8 q9 r1 : Pos} {a1 a2 f1 f2 : Str} {pl : Env → Sem Bool} {c n1 n2 : Nat}
theorem ext1 (lk : K.lookup f = some ⟨oc, od, .func (PySem.W.ksFn "__init__" qual params [supCall p0 p1 p2 p3 p4 [.Name a1 q1], .Assign [.Attribute (.Name "self" q2) f1 q3] (.Name a1 q4) q5] scope .none .none doc pm an (.ref cda) ct cc), osl⟩)
    (mgC : mg x = some (.ref C)) (hcd : PySem.W.codeIn K (.ref cda) qual = true) (T1 : SupC K P C cc cda) (TO : OexC K C) (iC : PySem.W.findIn K (.ref C) "__init__" = some (some (.ref f))) (tI : PySem.W.typeIn K (.ref f) = some (.type "function")) (hf1 : PySem.W.findIn K (.ref C) f1 = some none) (hms : mg "super" = none) (hC : T.exc c = C) (hn : T.fnm n1 = f1)
    (hS : nscB ["self", a1, "__class__"] ["self", a1] ["__class__"] scope = true) (har : ∃ ar, (params.posonlyargs ++ params.args).head? = some ar ∧ ar.arg = "self") (hsup : scope.names.lookup ("super" : Str) = some .globalImplicit) (hd1 : (a1 == ("__debug__" : Str)) = false) (hc1 : (a1 == ("__classdict__" : Str)) = false)
    (hb : ∀ us : List Value, us.length = 2 → bindArgs (PySem.W.ksFn "__init__" qual params [supCall p0 p1 p2 p3 p4 [.Name a1 q1], .Assign [.Attribute (.Name "self" q2) f1 q3] (.Name a1 q4) q5] scope .none .none doc pm an (.ref cda) ct cc) ⟨us, []⟩ = pure ((["self", a1] : List Str).zip us))
    (hev : ∀ env, eval (.Call (.Attribute (.Call (.Name "super" p0) [] [] p1) "__init__" p2) [.Name a1 q1] [] p3) env = (do
      let ov ← attributeBase (.Call (.Name "super" p0) [] [] p1) "__init__" env (eval (.Call (.Name "super" p0) [] [] p1) env)
      standAt p2.atName
      let (f, first) ← holding [ov] (getMethod ov "__init__" (pl env))
      callWith p3 f first (backTo p3 (starEach [.Name a1 q1] env)) [])) : ExT P w K mg base T 1 x c [n1] 1 :=
  ⟨C, [f1], ⟨TO, ⟨f, _, _, iC, tI, fn_x1 (pl := pl) lk hcd (nscope_by hS) T1 TO har hsup hms hf1 hd1 hc1 hev, .all hb⟩, mgC⟩, hC, by rw [List.map_cons, hn]; rfl, rfl⟩
theorem ext2 (lk : K.lookup f = some ⟨oc, od, .func (PySem.W.ksFn "__init__" qual params [supCall p0 p1 p2 p3 p4 [.Name a1 q1, .Name a2 q2], .Assign [.Attribute (.Name "self" q3) f1 q4] (.Name a1 q5) q6, .Assign [.Attribute (.Name "self" q7) f2 q8] (.Name a2 q9) r1] scope .none .none doc pm an (.ref cda) ct cc), osl⟩)
    (mgC : mg x = some (.ref C)) (hcd : PySem.W.codeIn K (.ref cda) qual = true) (T1 : SupC K P C cc cda) (TO : OexC K C) (iC : PySem.W.findIn K (.ref C) "__init__" = some (some (.ref f))) (tI : PySem.W.typeIn K (.ref f) = some (.type "function")) (hf1 : PySem.W.findIn K (.ref C) f1 = some none) (hf2 : PySem.W.findIn K (.ref C) f2 = some none) (hms : mg "super" = none) (hC : T.exc c = C) (hn : T.fnm n1 = f1) (hn2 : T.fnm n2 = f2)
    (hS : nscB ["self", a1, a2, "__class__"] ["self", a1, a2] ["__class__"] scope = true) (har : ∃ ar, (params.posonlyargs ++ params.args).head? = some ar ∧ ar.arg = "self") (hsup : scope.names.lookup ("super" : Str) = some .globalImplicit) (hd1 : (a1 == ("__debug__" : Str)) = false) (hc1 : (a1 == ("__classdict__" : Str)) = false) (hd2 : (a2 == ("__debug__" : Str)) = false) (hc2 : (a2 == ("__classdict__" : Str)) = false)
    (hb : ∀ us : List Value, us.length = 3 → bindArgs (PySem.W.ksFn "__init__" qual params [supCall p0 p1 p2 p3 p4 [.Name a1 q1, .Name a2 q2], .Assign [.Attribute (.Name "self" q3) f1 q4] (.Name a1 q5) q6, .Assign [.Attribute (.Name "self" q7) f2 q8] (.Name a2 q9) r1] scope .none .none doc pm an (.ref cda) ct cc) ⟨us, []⟩ = pure ((["self", a1, a2] : List Str).zip us))
    (hev : ∀ env, eval (.Call (.Attribute (.Call (.Name "super" p0) [] [] p1) "__init__" p2) [.Name a1 q1, .Name a2 q2] [] p3) env = (do
      let ov ← attributeBase (.Call (.Name "super" p0) [] [] p1) "__init__" env (eval (.Call (.Name "super" p0) [] [] p1) env)
      standAt p2.atName
      let (f, first) ← holding [ov] (getMethod ov "__init__" (pl env))
      callWith p3 f first (backTo p3 (starEach [.Name a1 q1, .Name a2 q2] env)) [])) : ExT P w K mg base T 1 x c [n2, n1] 2 :=
  ⟨C, [f1, f2], ⟨TO, ⟨f, _, _, iC, tI, fn_x2 (pl := pl) lk hcd (nscope_by hS) T1 TO har hsup hms hf1 hf2 hd1 hc1 hd2 hc2 hev, .all hb⟩, mgC⟩, hC, by rw [List.map_cons, List.map_cons, hn, hn2]; rfl, rfl⟩
end
/-- what an except clause of the class at S says of an exception of the class at C -/
theorem exm_of {K : PySem.W.Frag} {S C : Addr} {b : Bool} (h1 : PySem.W.subIn K (.ref S) (.type "BaseException") = some true) (h2 : PySem.W.isClsIn K S = true) (h3 : PySem.W.typeIn K (.ref S) = some (.type "type")) (h4 : PySem.W.subIn K (.ref C) (.ref S) = some b) :
    PySem.W.exmOne K (.ref C) (.ref S) = some b := by
  have h2' : (PySem.W.clsIn K S).isSome = true := h2
  have k : PySem.W.kitCls K (.ref C) (.ref S) = some b := by
    show (if ((PySem.W.clsIn K S).isSome && PySem.W.typeIn K (.ref S) == some (.type "type")) = true then PySem.W.subIn K (.ref C) (.ref S) else none) = some b
    rw [h2', h3]
    exact h4
  show (if (PySem.W.subIn K (.ref S) (.type "BaseException") == some true) = true then PySem.W.kitCls K (.ref C) (.ref S) else none) = some b
  rw [h1]
  exact k
/-- the law's promise from its def -/
def spTop (K : PySem.W.Frag) : Sp := fun vs H Q _ => ∃ (a : Addr) (ns : List Int), vs = [.ref a] ∧ SqL K H a (ns.map V.int) ∧ ns.length ≤ 63 ∧ ∀ H', Q (.bl true) H'
theorem top_of {K : PySem.W.Frag} {T : Tab} (hT : T.K = K) {F : FV} (h : ∀ ns : List Int, ns.length ≤ 63 → F [.scr (ns.map D.int)] = .ok (.bl true)) : ∀ vs H Q E, spTop K vs H Q E → spV T 1 F vs H Q E := by
  rintro vs H Q E ⟨a, ns, rfl, hs, hl, q⟩
  refine ⟨rfl, fun _ => none, H, [.scr (ns.map D.int)], ⟨L2.Same.refl _, rfl, fun i d e => by simp at e, fun i d e => by simp at e, fun i j d d' a e => by simp at e, fun a o e => (nomatch (show (none : Option HO) = some o from e)), fun i c ns vs e => by simp at e⟩, ?_, ?_⟩
  · refine .one ⟨a, ns.map V.int, rfl, hT ▸ hs, ?_⟩
    clear hs hl q
    induction ns with
    | nil => rfl
    | cons n r ih => exact ⟨_, _, rfl, rfl, ih⟩
  · rw [h ns hl]
    intro G' H' R s v r
    have r' : v = .bl true := r
    subst r'
    exact q H'
theorem FnG.imp {P : Program} {w : World} {K : PySem.W.Frag} {mg : Str → Option Value} {base : Heap} {CX : CXT} {k : Nat} {f : Addr} {fd : FuncData} {ps : List Str} {sp sp' : Sp} (F : FnG P w K mg base CX k f fd ps sp) (h : ∀ vs H Q E, sp' vs H Q E → sp vs H Q E) : FnG P w K mg base CX k f fd ps sp' :=
  ⟨fun vs H Q E q => F.len vs H Q E (h _ _ _ _ q), fun A outer s H args us vs Q E hg hr he hb hv hs => F.run A outer s H args us vs Q E hg hr he hb hv (h _ _ _ _ hs)⟩
end J

set_option Elab.async false
set_option linter.all false
set_option maxRecDepth 100000
namespace J
open PySem PySem.Spec PyProof.Rows L2
/-! ### equations for simp -/
variable {α : Type}
@[simp] theorem e_rVar (i : Nat) (ρ : En) : rVar i ρ = match ρ[i]? with | some (.sh _) => .ok (.s i) ρ | some (.ow _) => .ok (.s i) ρ | _ => .bad := rfl
@[simp] theorem e_rVal (f : EF) (ρ : En) : rVal f ρ = (f ρ).bnd fun d ρ' => .ok (.v d) ρ' := rfl
@[simp] theorem e_eVar (i : Nat) (ρ : En) : eVar i ρ = match ρ[i]? with
  | some (.sh d) => .ok d ρ
  | some (.ow d) => (match d with
    | .lst _ => .ok d (ρ.set i (.sh d))
    | .dct _ _ => .ok d (ρ.set i (.sh d))
    | _ => .bad)
  | _ => .bad := rfl
@[simp] theorem e_eC (d : D) (ρ : En) : eC d ρ = .ok d ρ := rfl
@[simp] theorem e_f2 (g : D → D → Option D) (fa fb : En → Rs Ar) (ρ : En) : f2 g fa fb ρ = (fa ρ).bnd fun a ρ1 => (fb ρ1).bnd fun b ρ2 => r2 g a b ρ2 := rfl
@[simp] theorem e_r2 (g : D → D → Option D) (a b : Ar) (ρ : En) : r2 g a b ρ = match look ρ a, look ρ b with
  | some d, some e => opt (g d e) ρ
  | _, _ => .bad := rfl
@[simp] theorem e_f1 (g : D → Option D) (fa : En → Rs Ar) (ρ : En) : f1 g fa ρ = (fa ρ).bnd fun a ρ1 => match look ρ1 a with
  | some d => opt (g d) ρ1
  | none => .bad := rfl
@[simp] theorem e_look_s (ρ : En) (i : Nat) : look ρ (.s i) = match ρ[i]? with
  | some (.sh d) => some d
  | some (.ow d) => some d
  | _ => none := rfl
@[simp] theorem e_looks_nil (ρ : En) : looks ρ [] = some [] := rfl
@[simp] theorem e_tB (f : EF) (ρ : En) : tB f ρ = (f ρ).bnd fun d ρ' => match d with
  | .bl b => .ok b ρ'
  | _ => .bad := rfl
@[simp] theorem e_tAnd (f g : TF) (ρ : En) : tAndJ f g ρ = (f ρ).bnd fun b ρ' => if b = true then g ρ' else .ok false ρ' := rfl
@[simp] theorem e_tOr (f g : TF) (ρ : En) : tOrJ f g ρ = (f ρ).bnd fun b ρ' => if b = true then .ok true ρ' else g ρ' := rfl
@[simp] theorem e_tNot (f : TF) (ρ : En) : tNotJ f ρ = (f ρ).bnd fun b ρ' => .ok (!b) ρ' := rfl
@[simp] theorem e_eIf (t : TF) (f g : EF) (ρ : En) : eIf t f g ρ = (t ρ).bnd fun b ρ' => if b = true then f ρ' else g ρ' := rfl
@[simp] theorem e_aNil (ρ : En) : aNil ρ = .ok [] ρ := rfl
@[simp] theorem e_aCons (f : En → Rs Ar) (g : AF) (ρ : En) : aCons f g ρ = (f ρ).bnd fun a ρ1 => (g ρ1).bnd fun as ρ2 => .ok (a :: as) ρ2 := rfl
@[simp] theorem e_eSeq (c : List D → D) (f : AF) (ρ : En) : eSeq c f ρ = (f ρ).bnd fun as ρ' => opt ((vals as).map c) ρ' := rfl
@[simp] theorem e_eCallB (g : List D → Option D) (f : AF) (ρ : En) : eCallB g f ρ = (f ρ).bnd fun as ρ' => match looks ρ' as with
  | some ds => opt (g ds) ρ'
  | none => .bad := rfl
@[simp] theorem e_eCall (F : FV) (dd : List D) (g : AF) (ρ : En) : eCall F dd g ρ = (g ρ).bnd fun as ρ' => match vals as with
  | some ds => (F (ds ++ dd)).at ρ'
  | none => .bad := rfl
@[simp] theorem e_sNil (ρ : En) : sNil ρ = .ok .nx ρ := rfl
@[simp] theorem e_sCons (f g : SF) (ρ : En) : sCons f g ρ = (f ρ).sq g := rfl
@[simp] theorem e_sExpr (f : EF) (ρ : En) : sExpr f ρ = (f ρ).bnd fun _ ρ' => .ok .nx ρ' := rfl
@[simp] theorem e_sRet (f : EF) (ρ : En) : sRet f ρ = (f ρ).bnd fun d ρ' => .ok (.rt d) ρ' := rfl
@[simp] theorem e_sIf (t : TF) (f g : SF) (ρ : En) : sIf t f g ρ = (t ρ).bnd fun b ρ' => if b = true then f ρ' else g ρ' := rfl
@[simp] theorem e_sSet (i : Nat) (f : EF) (ρ : En) : sSet i f ρ = (f ρ).bnd fun d ρ' => .ok .nx (ρ'.set i (.sh d)) := rfl
@[simp] theorem e_sSetO (i : Nat) (f : EF) (ρ : En) : sSetO i f ρ = (f ρ).bnd fun d ρ' => .ok .nx (ρ'.set i (.ow d)) := rfl
@[simp] theorem e_bName (i : Nat) (d : D) (ρ : En) : bName i d ρ = some (ρ.set i (.sh d)) := rfl
@[simp] theorem e_bNil (ρ : En) : bNil [] ρ = some ρ := rfl
@[simp] theorem e_bCons (b : BF) (c : BFs) (d : D) (r : List D) (ρ : En) : bCons b c (d :: r) ρ = (b d ρ).bind (c r) := rfl
@[simp] theorem e_bTup (n : Nat) (b : BFs) (ds : List D) (ρ : En) : bTup n b (.tup ds) ρ = if ds.length = n then b ds ρ else none := rfl
@[simp] theorem e_sAsg (f : EF) (b : BF) (ρ : En) : sAsg f b ρ = (f ρ).bnd fun d ρ' => match b d ρ' with
  | some ρ2 => .ok .nx ρ2
  | none => .bad := rfl
@[simp] theorem e_sPar (i j : Nat) (f : AF) (ρ : En) : sPar i j f ρ = (f ρ).bnd fun as ρ' => match vals as with
  | some [x, y] => .ok .nx ((ρ'.set i (.sh x)).set j (.sh y))
  | _ => .bad := rfl
@[simp] theorem e_iSeq (f : EF) (ρ : En) : iSeq f ρ = (f ρ).bnd fun d ρ' => opt (itemsD d) ρ' := rfl
@[simp] theorem e_iRng (g : List D → Option (List D)) (f : AF) (ρ : En) : iRng g f ρ = (f ρ).bnd fun as ρ' => match looks ρ' as with
  | some ds => opt (g ds) ρ'
  | none => .bad := rfl
@[simp] theorem e_sFor (f : LF) (b : BF) (body : SF) (ρ : En) : sFor f b body ρ = (f ρ).bnd fun ds ρ' => forS b body ds ρ' := rfl
@[simp] theorem e_eLc (i : LF) (b : BF) (vs : List Nat) (t : TF) (f : EF) (ρ : En) : eLc i b vs t f ρ = (i ρ).bnd fun ds ρ' => if noOw ρ' vs = true then lcS b vs t f ds [] ρ' else .bad := rfl
@[simp] theorem e_tYes (ρ : En) : tYesJ ρ = .ok true ρ := rfl
@[simp] theorem e_on1 (g : D → Option D) (d : D) : on1 g [d] = g d := rfl
@[simp] theorem e_on2 (g : D → D → Option D) (d e : D) : on2 g [d, e] = g d e := rfl
@[simp] theorem e_eIsT (t : String) (f : En → Rs Ar) (ρ : En) : eIsT t f ρ = (f ρ).bnd fun a ρ1 => match look ρ1 a with
  | some d => opt (isTD t d) ρ1
  | none => .bad := rfl
@[simp] theorem e_eIsTs (ts : List String) (f : En → Rs Ar) (ρ : En) : eIsTs ts f ρ = (f ρ).bnd fun a ρ1 => match look ρ1 a with
  | some d => opt (isTsD ts d) ρ1
  | none => .bad := rfl
@[simp] theorem e_sRaise (c : Nat) (ns : List Nat) (g : AF) (ρ : En) : sRaise c ns g ρ = (g ρ).bnd fun as ρ' => match vals as with
  | some ds => .ex c ns ds.reverse ρ'
  | none => .bad := rfl
@[simp] theorem e_eCut (fa : En → Rs Ar) (fl fh : En → Rs (Option Int)) (ρ : En) : eCut fa fl fh ρ = (fa ρ).bnd fun a ρ1 => (fl ρ1).bnd fun lo ρ2 => (fh ρ2).bnd fun hi ρ3 => match look ρ3 a with
  | some d => opt (cutD lo hi d) ρ3
  | none => .bad := rfl
@[simp] theorem e_sSub (i : Nat) (f : EF) (h : En → Rs Ar) (ρ : En) : sSub i f h ρ = (f ρ).bnd fun d ρ1 => match ownL ρ1 i with
  | some _ => (h ρ1).bnd fun a ρ2 => (match ownL ρ2 i, look ρ2 a with
    | some ds, some (.int k) => (match ixN ds.length k with
      | some j => .ok .nx (ρ2.set i (.ow (.lst (ds.set j d))))
      | none => .bad)
    | _, _ => .bad)
  | none => .bad := rfl
@[simp] theorem e_eCallL (F : FL) (g : AF) (ρ : En) : eCallL F g ρ = (g ρ).bnd fun as ρ' => match as with
  | .s i :: r => (match ρ'[i]?, vals r with
    | some (.ow d0), some ds => (match F d0 ds with
      | some (d, d1) => .ok d (ρ'.set i (.ow d1))
      | none => .bad)
    | _, _ => .bad)
  | _ => .bad := rfl
@[simp] theorem e_eMeth (i : Nat) (g : List D → List D → Option (D × List D)) (f : AF) (ρ : En) : eMeth i g f ρ = match ownL ρ i with
  | some _ => (f ρ).bnd fun as ρ' => (match ownL ρ' i, vals as with
    | some ds, some ys => (match g ds ys with
      | some (d, ds') => .ok d (ρ'.set i (.ow (.lst ds')))
      | none => .bad)
    | _, _ => .bad)
  | none => .bad := rfl
@[simp] theorem e_eLcOwn (i : Nat) (b : BF) (vs : List Nat) (t : TF) (f : EF) (ρ : En) : eLcOwn i b vs t f ρ = match ownL ρ i with
  | some ds => if noOw (ρ.set i .no) vs = true then (lcS b vs t f ds [] (ρ.set i .no)).bnd fun d ρ' => .ok d (ρ'.set i (.ow (.lst ds))) else .bad
  | none => .bad := rfl
@[simp] theorem e_sTryAs (i : Nat) (hm : Nat → Option Bool) (f g : SF) (ρ : En) : sTryAs i hm f g ρ = match f ρ with
  | .ok fl ρ' => .ok fl ρ'
  | .bad => .bad
  | .ex c ns vs ρ' => (match hm c with
    | some true => if noEx ρ' = true then (g (ρ'.set i (.ex c ns vs))).out i else .bad
    | some false => .ex c ns vs ρ'
    | none => .bad) := rfl
@[simp] theorem e_eXf (i n : Nat) (ok : Nat → Bool) (ρ : En) : eXf i n ok ρ = match ρ[i]? with
  | some (.ex c ns vs) => if ok c = true then opt (fget n ns vs) ρ else .bad
  | _ => .bad := rfl
@[simp] theorem e_tReprNe (f g : EF) (ρ : En) : tReprNe f g ρ = (f ρ).bnd fun d ρ1 => if reprOk d = true then (g ρ1).bnd fun e ρ2 => (if reprOk e = true then .ok (!decide ((toPy d).shown = (toPy e).shown)) ρ2 else .bad) else .bad := rfl
@[simp] theorem add_ii (a b : Int) : addD (.int a) (.int b) = some (.int (a + b)) := rfl
@[simp] theorem sub_ii (a b : Int) : subD (.int a) (.int b) = some (.int (a - b)) := rfl
@[simp] theorem mul_ii (a b : Int) : mulD (.int a) (.int b) = if CMul a b then some (.int (a * b)) else none := rfl
@[simp] theorem fdiv_ii (a b : Int) : fdivD (.int a) (.int b) = if CDivN a b then some (.int (a.fdiv b)) else none := rfl
@[simp] theorem mod_ii (a b : Int) : modD (.int a) (.int b) = if b ≠ 0 then some (.int (a.fmod b)) else none := rfl
@[simp] theorem neg_i (a : Int) : negD (.int a) = some (.int (-a)) := rfl
@[simp] theorem icmp_ii (p : Int → Int → Bool) (a b : Int) : icmp p (.int a) (.int b) = some (.bl (p a b)) := rfl
@[simp] theorem ixD_t (ds : List D) (i : Int) : ixD (.tup ds) (.int i) = L2.atI ds i := rfl
@[simp] theorem ixD_l (ds : List D) (i : Int) : ixD (.lst ds) (.int i) = L2.atI ds i := rfl
@[simp] theorem ixD_s (ds : List D) (i : Int) : ixD (.scr ds) (.int i) = L2.atI ds i := rfl
theorem ixN_nat (m n : Nat) : ixN m (n : Int) = if n < m then some n else none := by
  unfold ixN
  rw [if_pos (Int.natCast_nonneg n)]
  by_cases h : n < m
  · rw [if_pos h, if_pos (by omega)]; rfl
  · rw [if_neg h, if_neg (by omega)]
theorem atI_nat' {α : Type} (ds : List α) (n : Nat) : L2.atI ds (n : Int) = ds[n]? := by
  unfold L2.atI
  rw [ixN_nat]
  by_cases h : n < ds.length
  · rw [if_pos h]; rfl
  · rw [if_neg h, List.getElem?_eq_none (by omega)]; rfl
@[simp] theorem atI0 {α : Type} (ds : List α) : L2.atI ds 0 = ds[0]? := atI_nat' ds 0
@[simp] theorem atI1 {α : Type} (ds : List α) : L2.atI ds 1 = ds[1]? := atI_nat' ds 1
@[simp] theorem atI2 {α : Type} (ds : List α) : L2.atI ds 2 = ds[2]? := atI_nat' ds 2
@[simp] theorem atI3 {α : Type} (ds : List α) : L2.atI ds 3 = ds[3]? := atI_nat' ds 3
@[simp] theorem atI4 {α : Type} (ds : List α) : L2.atI ds 4 = ds[4]? := atI_nat' ds 4
@[simp] theorem atI5 {α : Type} (ds : List α) : L2.atI ds 5 = ds[5]? := atI_nat' ds 5
@[simp] theorem atI6 {α : Type} (ds : List α) : L2.atI ds 6 = ds[6]? := atI_nat' ds 6
@[simp] theorem atI7 {α : Type} (ds : List α) : L2.atI ds 7 = ds[7]? := atI_nat' ds 7
@[simp] theorem ixN0 (m : Nat) : ixN m 0 = if 0 < m then some 0 else none := ixN_nat m 0
@[simp] theorem ixN1 (m : Nat) : ixN m 1 = if 1 < m then some 1 else none := ixN_nat m 1
@[simp] theorem ixN2 (m : Nat) : ixN m 2 = if 2 < m then some 2 else none := ixN_nat m 2
@[simp] theorem ixN3 (m : Nat) : ixN m 3 = if 3 < m then some 3 else none := ixN_nat m 3
@[simp] theorem lenD_t (ds : List D) : lenD (.tup ds) = some (.int ds.length) := rfl
@[simp] theorem lenD_l (ds : List D) : lenD (.lst ds) = some (.int ds.length) := rfl
@[simp] theorem lenD_s (ds : List D) : lenD (.scr ds) = some (.int ds.length) := rfl
@[simp] theorem intD_i (i : Int) : intD (.int i) = some (.int i) := rfl
@[simp] theorem absD_i (i : Int) : absD (.int i) = some (.int (if i < 0 then -i else i)) := rfl
@[simp] theorem tupD_l (ds : List D) : tupD (.lst ds) = some (.tup ds) := rfl
@[simp] theorem tupD_t (ds : List D) : tupD (.tup ds) = some (.tup ds) := rfl
@[simp] theorem lstD_l (ds : List D) : lstD (.lst ds) = some (.lst ds) := rfl
@[simp] theorem lstD_t (ds : List D) : lstD (.tup ds) = some (.lst ds) := rfl
@[simp] theorem itemsD_l (ds : List D) : itemsD (.lst ds) = some ds := rfl
@[simp] theorem itemsD_t (ds : List D) : itemsD (.tup ds) = some ds := rfl
@[simp] theorem itemsD_s (ds : List D) : itemsD (.scr ds) = some ds := rfl
@[simp] theorem ownL_some (ρ : En) (i : Nat) : ownL ρ i = match (ρ[i]? : Option Sl) with
  | some (Sl.ow (D.lst ds)) => some ds
  | _ => none := rfl
@[simp] theorem e_eAnd (f g : EF) (ρ : En) : eAndJ f g ρ = (f ρ).bnd fun d ρ' => match d with
  | .bl true => g ρ'
  | .bl false => .ok (.bl false) ρ'
  | _ => .bad := rfl
@[simp] theorem e_eOr (f g : EF) (ρ : En) : eOrJ f g ρ = (f ρ).bnd fun d ρ' => match d with
  | .bl true => .ok (.bl true) ρ'
  | .bl false => g ρ'
  | _ => .bad := rfl
@[simp] theorem e_eNot (f : EF) (ρ : En) : eNotJ f ρ = (f ρ).bnd fun d ρ' => match d with
  | .bl b => .ok (.bl (!b)) ρ'
  | _ => .bad := rfl
@[simp] theorem e_pNo (ρ : En) : pNo ρ = .ok none ρ := rfl
@[simp] theorem e_pSome (f : EF) (ρ : En) : pSome f ρ = (f ρ).bnd fun d ρ' => match d with
  | .int i => .ok (some i) ρ'
  | _ => .bad := rfl
/-! ### a def's result -/
def toV : Rs Fl → Rv
  | .ok .nx _ => .ok .non
  | .ok (.rt d) _ => .ok d
  | .ex c ns vs _ => .ex c ns vs
  | .bad => .bad
@[simp] theorem e_fnV (m : Nat) (body : SF) (ds : List D) : fnV m body ds = toV (body (ds.map .sh ++ List.replicate m .no)) := by
  unfold fnV toV
  cases body (ds.map .sh ++ List.replicate m .no) with
  | ok a ρ => cases a <;> rfl
  | ex _ _ _ _ => rfl
  | bad => rfl
@[simp] theorem toV_nx (ρ : En) : toV (.ok .nx ρ) = .ok .non := rfl
@[simp] theorem toV_rt (d : D) (ρ : En) : toV (.ok (.rt d) ρ) = .ok d := rfl
@[simp] theorem toV_ex (c : Nat) (ns : List Nat) (vs : List D) (ρ : En) : toV (.ex c ns vs ρ) = .ex c ns vs := rfl
@[simp] theorem toV_at (r : Rv) (ρ : En) : toV ((r.at ρ).bnd fun d ρ' => .ok (.rt d) ρ') = r := by cases r <;> rfl
def toL : Rs Fl → Option (D × D)
  | .ok .nx ρ => ow0 ρ .non
  | .ok (.rt d) ρ => ow0 ρ d
  | _ => none
@[simp] theorem e_fnL (m : Nat) (body : SF) (d0 : D) (ds : List D) : fnL m body d0 ds = toL (body (.ow d0 :: (ds.map .sh ++ List.replicate m .no))) := by
  unfold fnL toL
  cases body (.ow d0 :: (ds.map .sh ++ List.replicate m .no)) with
  | ok a ρ => cases a <;> rfl
  | ex _ _ _ _ => rfl
  | bad => rfl
@[simp] theorem toL_rt (d d0 : D) (ρ : En) : toL (.ok (.rt d) (.ow d0 :: ρ)) = some (d, d0) := rfl
@[simp] theorem toL_nx (d0 : D) (ρ : En) : toL (.ok .nx (.ow d0 :: ρ)) = some (.non, d0) := rfl
@[simp] theorem pow_ii (a b : Int) : powD (.int a) (.int b) = if CPow a b then some (.int (a ^ b.toNat)) else none := rfl
@[simp] theorem isT_int_non : isTD "int" .non = some (.bl false) := by rfl
@[simp] theorem isT_int_bl (b : Bool) : isTD "int" (.bl b) = some (.bl true) := by rfl
@[simp] theorem isT_int_int (i : Int) : isTD "int" (.int i) = some (.bl true) := by rfl
@[simp] theorem isT_int_str (s : Str) : isTD "int" (.str s) = some (.bl false) := by rfl
@[simp] theorem isT_int_tup (ds : List D) : isTD "int" (.tup ds) = some (.bl false) := by rfl
@[simp] theorem isT_int_lst (ds : List D) : isTD "int" (.lst ds) = some (.bl false) := by rfl
@[simp] theorem isT_int_dct (ks ds : List D) : isTD "int" (.dct ks ds) = some (.bl false) := by rfl
@[simp] theorem isT_bool_non : isTD "bool" .non = some (.bl false) := by rfl
@[simp] theorem isT_bool_bl (b : Bool) : isTD "bool" (.bl b) = some (.bl true) := by rfl
@[simp] theorem isT_bool_int (i : Int) : isTD "bool" (.int i) = some (.bl false) := by rfl
@[simp] theorem isT_bool_str (s : Str) : isTD "bool" (.str s) = some (.bl false) := by rfl
@[simp] theorem isT_bool_tup (ds : List D) : isTD "bool" (.tup ds) = some (.bl false) := by rfl
@[simp] theorem isT_bool_lst (ds : List D) : isTD "bool" (.lst ds) = some (.bl false) := by rfl
@[simp] theorem isT_bool_dct (ks ds : List D) : isTD "bool" (.dct ks ds) = some (.bl false) := by rfl
@[simp] theorem isT_str_non : isTD "str" .non = some (.bl false) := by rfl
@[simp] theorem isT_str_bl (b : Bool) : isTD "str" (.bl b) = some (.bl false) := by rfl
@[simp] theorem isT_str_int (i : Int) : isTD "str" (.int i) = some (.bl false) := by rfl
@[simp] theorem isT_str_str (s : Str) : isTD "str" (.str s) = some (.bl true) := by rfl
@[simp] theorem isT_str_tup (ds : List D) : isTD "str" (.tup ds) = some (.bl false) := by rfl
@[simp] theorem isT_str_lst (ds : List D) : isTD "str" (.lst ds) = some (.bl false) := by rfl
@[simp] theorem isT_str_dct (ks ds : List D) : isTD "str" (.dct ks ds) = some (.bl false) := by rfl
@[simp] theorem isT_list_non : isTD "list" .non = some (.bl false) := by rfl
@[simp] theorem isT_list_bl (b : Bool) : isTD "list" (.bl b) = some (.bl false) := by rfl
@[simp] theorem isT_list_int (i : Int) : isTD "list" (.int i) = some (.bl false) := by rfl
@[simp] theorem isT_list_str (s : Str) : isTD "list" (.str s) = some (.bl false) := by rfl
@[simp] theorem isT_list_tup (ds : List D) : isTD "list" (.tup ds) = some (.bl false) := by rfl
@[simp] theorem isT_list_lst (ds : List D) : isTD "list" (.lst ds) = some (.bl true) := by rfl
@[simp] theorem isT_list_dct (ks ds : List D) : isTD "list" (.dct ks ds) = some (.bl false) := by rfl
@[simp] theorem isT_tuple_non : isTD "tuple" .non = some (.bl false) := by rfl
@[simp] theorem isT_tuple_bl (b : Bool) : isTD "tuple" (.bl b) = some (.bl false) := by rfl
@[simp] theorem isT_tuple_int (i : Int) : isTD "tuple" (.int i) = some (.bl false) := by rfl
@[simp] theorem isT_tuple_str (s : Str) : isTD "tuple" (.str s) = some (.bl false) := by rfl
@[simp] theorem isT_tuple_tup (ds : List D) : isTD "tuple" (.tup ds) = some (.bl true) := by rfl
@[simp] theorem isT_tuple_lst (ds : List D) : isTD "tuple" (.lst ds) = some (.bl false) := by rfl
@[simp] theorem isT_tuple_dct (ks ds : List D) : isTD "tuple" (.dct ks ds) = some (.bl false) := by rfl
@[simp] theorem isT_dict_non : isTD "dict" .non = some (.bl false) := by rfl
@[simp] theorem isT_dict_bl (b : Bool) : isTD "dict" (.bl b) = some (.bl false) := by rfl
@[simp] theorem isT_dict_int (i : Int) : isTD "dict" (.int i) = some (.bl false) := by rfl
@[simp] theorem isT_dict_str (s : Str) : isTD "dict" (.str s) = some (.bl false) := by rfl
@[simp] theorem isT_dict_tup (ds : List D) : isTD "dict" (.tup ds) = some (.bl false) := by rfl
@[simp] theorem isT_dict_lst (ds : List D) : isTD "dict" (.lst ds) = some (.bl false) := by rfl
@[simp] theorem isT_dict_dct (ks ds : List D) : isTD "dict" (.dct ks ds) = some (.bl true) := by rfl
@[simp] theorem isTs_tuple_list_non : isTsD ["tuple", "list"] .non = some (.bl false) := by rfl
@[simp] theorem isTs_tuple_list_bl (b : Bool) : isTsD ["tuple", "list"] (.bl b) = some (.bl false) := by rfl
@[simp] theorem isTs_tuple_list_int (i : Int) : isTsD ["tuple", "list"] (.int i) = some (.bl false) := by rfl
@[simp] theorem isTs_tuple_list_str (s : Str) : isTsD ["tuple", "list"] (.str s) = some (.bl false) := by rfl
@[simp] theorem isTs_tuple_list_tup (ds : List D) : isTsD ["tuple", "list"] (.tup ds) = some (.bl true) := by rfl
@[simp] theorem isTs_tuple_list_lst (ds : List D) : isTsD ["tuple", "list"] (.lst ds) = some (.bl true) := by rfl
@[simp] theorem isTs_tuple_list_dct (ks ds : List D) : isTsD ["tuple", "list"] (.dct ks ds) = some (.bl false) := by rfl
@[simp] theorem isTs_list_tuple_non : isTsD ["list", "tuple"] .non = some (.bl false) := by rfl
@[simp] theorem isTs_list_tuple_bl (b : Bool) : isTsD ["list", "tuple"] (.bl b) = some (.bl false) := by rfl
@[simp] theorem isTs_list_tuple_int (i : Int) : isTsD ["list", "tuple"] (.int i) = some (.bl false) := by rfl
@[simp] theorem isTs_list_tuple_str (s : Str) : isTsD ["list", "tuple"] (.str s) = some (.bl false) := by rfl
@[simp] theorem isTs_list_tuple_tup (ds : List D) : isTsD ["list", "tuple"] (.tup ds) = some (.bl true) := by rfl
@[simp] theorem isTs_list_tuple_lst (ds : List D) : isTsD ["list", "tuple"] (.lst ds) = some (.bl true) := by rfl
@[simp] theorem isTs_list_tuple_dct (ks ds : List D) : isTsD ["list", "tuple"] (.dct ks ds) = some (.bl false) := by rfl
/-! ### loops, one turn at a time -/
theorem lcS_cons (b : BF) (vs : List Nat) (t : TF) (f : EF) (d : D) (ds acc : List D) (ρ : En) : lcS b vs t f (d :: ds) acc ρ = match b d (wipeE ρ vs) with
    | none => .bad
    | some ρ1 => (t ρ1).calm.bnd fun ok ρ2 => if ok = true then (f ρ2).calm.bnd fun y ρ3 => lcS b vs t f ds (acc ++ [y]) (rst ρ ρ3 vs) else lcS b vs t f ds acc (rst ρ ρ2 vs) := rfl
theorem lcS_step {b : BF} {vs : List Nat} {t : TF} {f : EF} {d : D} {ds acc ys : List D} {ρ ρ' : En} (h : lcS b vs t f [d] [] ρ = .ok (.lst ys) ρ') : lcS b vs t f (d :: ds) acc ρ = lcS b vs t f ds (acc ++ ys) ρ' := by
  rw [lcS_cons] at h ⊢
  cases e : b d (wipeE ρ vs) with
  | none => rw [e] at h; cases h
  | some ρ1 =>
    rw [e] at h
    dsimp only at h ⊢
    cases e2 : t ρ1 with
    | bad => rw [e2] at h; cases h
    | ex _ _ _ _ => rw [e2] at h; cases h
    | ok c ρ2 =>
      rw [e2] at h
      simp only [Rs.calm_ok, Rs.bnd_ok] at h ⊢
      cases c with
      | false =>
        rw [if_neg Bool.false_ne_true] at h ⊢
        cases h
        rw [List.append_nil]
      | true =>
        rw [if_pos rfl] at h ⊢
        cases e3 : f ρ2 with
        | bad => rw [e3] at h; cases h
        | ex _ _ _ _ => rw [e3] at h; cases h
        | ok y ρ3 =>
          rw [e3] at h
          simp only [Rs.calm_ok, Rs.bnd_ok] at h ⊢
          cases h
          rfl
theorem lcS_all {α : Type} {b : BF} {vs : List Nat} {t : TF} {f : EF} {ρ : En} {e : α → D} {q : α → List D} : ∀ {l : List α} {acc : List D}, (∀ a ∈ l, lcS b vs t f [e a] [] ρ = .ok (.lst (q a)) ρ) → lcS b vs t f (l.map e) acc ρ = .ok (.lst (acc ++ l.flatMap q)) ρ
  | [], acc, _ => by simp [lcS]
  | a :: l, acc, h => by
    rw [List.map_cons, lcS_step (h a List.mem_cons_self), lcS_all fun c hc => h c (List.mem_cons_of_mem _ hc)]
    simp
/-- .. where the slots change -/
theorem lcS_run {α σ : Type} {b : BF} {vs : List Nat} {t : TF} {f : EF} {enc : σ → En} {e : α → D} (I : σ → Prop) (P : α → List D → Prop) : ∀ {l : List α} {acc : List D} {s : σ}, I s → (∀ a ∈ l, ∀ s, I s → ∃ (s' : σ) (y : List D), lcS b vs t f [e a] [] (enc s) = .ok (.lst y) (enc s') ∧ I s' ∧ P a y) →
    ∃ (s' : σ) (ys : List (List D)), lcS b vs t f (l.map e) acc (enc s) = .ok (.lst (acc ++ ys.flatten)) (enc s') ∧ I s' ∧ ys.length = l.length ∧ ∀ (i : Nat) (a : α) (y : List D), l[i]? = some a → ys[i]? = some y → P a y
  | [], acc, s, hs, _ => ⟨s, [], by simp [lcS], hs, rfl, fun i a y h => by simp at h⟩
  | a :: l, acc, s, hs, h => by
    obtain ⟨s1, y, e1, h1, p1⟩ := h a List.mem_cons_self s hs
    obtain ⟨s2, ys, e2, h2, l2, p2⟩ := lcS_run (acc := acc ++ y) I P h1 fun c hc => h c (List.mem_cons_of_mem _ hc)
    refine ⟨s2, y :: ys, ?_, h2, by simp [l2], fun i c z hc hz => ?_⟩
    · rw [List.map_cons, lcS_step e1, e2]
      simp
    · cases i with
      | zero => cases hc; cases hz; exact p1
      | succ i => exact p2 i c z hc hz
theorem forS_cons (b : BF) (body : SF) (d : D) (ds : List D) (ρ : En) : forS b body (d :: ds) ρ = match b d ρ with
    | some ρ1 => (body ρ1).sq (forS b body ds)
    | none => .bad := rfl
@[simp] theorem forS_nil (b : BF) (body : SF) (ρ : En) : forS b body [] ρ = .ok .nx ρ := rfl
theorem sq_nil (r : Rs Fl) : (r.sq fun ρ => .ok .nx ρ) = r := by
  cases r with
  | ok a ρ => cases a <;> rfl
  | ex _ _ _ _ => rfl
  | bad => rfl
theorem forS_step (b : BF) (body : SF) (d : D) (ds : List D) (ρ : En) : forS b body (d :: ds) ρ = (forS b body [d] ρ).sq (forS b body ds) := by
  rw [forS_cons, forS_cons]
  cases b d ρ with
  | none => rfl
  | some ρ1 =>
    show _ = ((body ρ1).sq fun ρ => .ok .nx ρ).sq _
    rw [sq_nil]
theorem forS_run {α σ : Type} {b : BF} {body : SF} {enc : σ → En} {e : α → D} (step : σ → α → σ) (I : σ → Prop) : ∀ {l : List α} {s : σ}, I s → (∀ a ∈ l, ∀ s, I s → forS b body [e a] (enc s) = .ok .nx (enc (step s a)) ∧ I (step s a)) →
    forS b body (l.map e) (enc s) = .ok .nx (enc (l.foldl step s)) ∧ I (l.foldl step s)
  | [], s, hs, _ => ⟨rfl, hs⟩
  | a :: l, s, hs, h => by
    obtain ⟨e1, h1⟩ := h a List.mem_cons_self s hs
    obtain ⟨e2, h2⟩ := forS_run step I (l := l) h1 fun c hc => h c (List.mem_cons_of_mem _ hc)
    exact ⟨by rw [List.map_cons, forS_step, e1, Rs.sq_nx, e2]; rfl, h2⟩
/-- .. an invariant by the turn -/
theorem forS_inv {α : Type} {b : BF} {body : SF} {e : α → D} (I : Nat → En → Prop) : ∀ {l : List α} {ρ : En} {k : Nat}, I k ρ → (∀ (i : Nat) (a : α) ρ, l[i]? = some a → I (k + i) ρ → ∃ ρ', forS b body [e a] ρ = .ok .nx ρ' ∧ I (k + i + 1) ρ') →
    ∃ ρ', forS b body (l.map e) ρ = .ok .nx ρ' ∧ I (k + l.length) ρ'
  | [], ρ, k, h, _ => ⟨ρ, rfl, h⟩
  | a :: l, ρ, k, h, hs => by
    obtain ⟨ρ1, e1, h1⟩ := hs 0 a ρ rfl h
    obtain ⟨ρ2, e2, h2⟩ := forS_inv I (l := l) (k := k + 1) h1 fun i c ρ hc hi => by
      have z := hs (i + 1) c ρ (by simpa using hc) (by rw [show k + (i + 1) = k + 1 + i by omega]; exact hi)
      rw [show k + (i + 1) + 1 = k + 1 + i + 1 by omega] at z
      exact z
    exact ⟨ρ2, by rw [List.map_cons, forS_step, e1, Rs.sq_nx, e2], by rw [List.length_cons, show k + (l.length + 1) = k + 1 + l.length by omega]; exact h2⟩
theorem whileS_succ (c : TF) (b : SF) (n : Nat) (ρ : En) : whileS c b (n + 1) ρ = (c ρ).bnd fun t ρ1 => if t = true then (b ρ1).sq (whileS c b n) else .ok .nx ρ1 := rfl
/-- a while, by what becomes smaller -/
theorem whileS_run {σ : Type} {c : TF} {b : SF} {enc : σ → En} (go : σ → Bool) (step : σ → σ) (m : σ → Nat) (I : σ → Prop) (hc : ∀ s, I s → c (enc s) = .ok (go s) (enc s)) (hb : ∀ s, I s → go s = true → b (enc s) = .ok .nx (enc (step s)) ∧ I (step s) ∧ m (step s) < m s) :
    ∀ {n : Nat} {s : σ}, I s → m s < n → ∃ s', whileS c b n (enc s) = .ok .nx (enc s') ∧ I s' ∧ go s' = false ∧ ∃ k, s' = Nat.repeat step k s
  | 0, s, _, h => by omega
  | n + 1, s, hs, h => by
    rw [whileS_succ, hc s hs]
    cases e : go s with
    | false => exact ⟨s, rfl, hs, e, 0, rfl⟩
    | true =>
      obtain ⟨e1, h1, h2⟩ := hb s hs e
      obtain ⟨s', e2, h3, h4, k, hk⟩ := whileS_run go step m I hc hb (n := n) h1 (by omega)
      refine ⟨s', ?_, h3, h4, k + 1, ?_⟩
      · simp only [Rs.bnd_ok, if_true]
        rw [e1, Rs.sq_nx, e2]
      · rw [hk]
        clear hk
        induction k with
        | zero => rfl
        | succ k ih => show step _ = step _; rw [ih]
end J

set_option Elab.async false
set_option linter.all false
set_option maxRecDepth 100000
set_option maxHeartbeats 4000000
namespace J
open PySem PySem.Spec PyProof.Rows L2
/-! ### the draws -/
def b_taken : SF :=
  (sCons (sIf (tB (f2 gtD (rVal (f2 ixD (rVar 0) (rVal (eC (.int 3))))) (rVal (eC (.int 0))))) (sCons (sSet 3 (f2 modD (rVal (eCallB (on1 intD) (aCons (rVal (f2 ixD (rVar 0) (rVal (eC (.int 3))))) aNil))) (rVar 1)))
  (sCons (sSub 0 (f2 fdivD (rVal (f2 ixD (rVar 0) (rVal (eC (.int 3))))) (rVar 1)) (rVal (eC (.int 3))))
  (sRet (eVar 3)))) sNil)
  (sCons (sSub 0 (f2 addD (rVal (f2 ixD (rVar 0) (rVal (eC (.int 1))))) (rVal (eC (.int 1)))) (rVal (eC (.int 1))))
  (sCons (sIf (tB (f2 gtD (rVal (f2 ixD (rVar 0) (rVal (eC (.int 1))))) (rVal (eCallB (on1 lenD) (aCons (rVal (f2 ixD (rVar 0) (rVal (eC (.int 0))))) aNil))))) (sCons (sSub 0 (f2 modD (rVal (eCallB (on1 intD) (aCons (rVal (f2 addD (rVal (f2 mulD (rVal (f2 ixD (rVar 0) (rVal (eC (.int 2))))) (rVal (eC (.int 48271))))) (rVal (eC (.int 11))))) aNil))) (rVal (eC (.int 2147483647)))) (rVal (eC (.int 2))))
  (sRet (f2 modD (rVal (eCallB (on1 intD) (aCons (rVal (f2 fdivD (rVal (f2 ixD (rVar 0) (rVal (eC (.int 2))))) (rVal (eC (.int 7))))) aNil))) (rVar 1)))) sNil)
  (sCons (sSet 2 (f2 ixD (rVal (f2 ixD (rVar 0) (rVal (eC (.int 0))))) (rVal (f2 subD (rVal (f2 ixD (rVar 0) (rVal (eC (.int 1))))) (rVal (eC (.int 1)))))))
  (sCons (sSub 0 (f2 modD (rVal (eCallB (on1 intD) (aCons (rVal (f2 addD (rVal (f2 addD (rVal (f2 mulD (rVal (f2 ixD (rVar 0) (rVal (eC (.int 2))))) (rVal (eC (.int 48271))))) (rVar 2))) (rVal (eC (.int 11))))) aNil))) (rVal (eC (.int 2147483647)))) (rVal (eC (.int 2))))
  (sCons (sIf (tB (f2 geD (rVar 2) (rVal (f2 powD (rVal (eC (.int 10))) (rVal (eC (.int 18))))))) (sSub 0 (f2 fdivD (rVar 2) (rVar 1)) (rVal (eC (.int 3)))) sNil)
  (sRet (f2 modD (rVal (eCallB (on1 intD) (aCons (rVar 2) aNil))) (rVar 1)))))))))
def takenF : FL := fnL 2 b_taken
structure Dr where
  i : Int
  mix : Int
  rest : Int
def Dr.ok (s : Dr) : Prop := 0 ≤ s.i ∧ 0 ≤ s.mix ∧ s.mix ≤ 2147483647 ∧ 0 ≤ s.rest
def encR (ns : List Int) (s : Dr) : D := .lst [.scr (ns.map D.int), .int s.i, .int s.mix, .int s.rest]
theorem taken_ok (ns : List Int) (s : Dr) (h : s.ok) (many : Int) (hm : 1 ≤ many) (hm2 : many < 1073741824) : ∃ v s', takenF (encR ns s) [.int many] = some (.int v, encR ns s') ∧ s'.ok ∧ 0 ≤ v ∧ v < many := by
  obtain ⟨i, mix, rest⟩ := s
  obtain ⟨h1, h2, h3, h4⟩ := h
  dsimp only at h1 h2 h3 h4
  have cm : CMul mix 48271 := .inr ⟨by decide, by decide⟩
  have cd : ∀ a, CDivN a many := fun a => ⟨by omega, by omega⟩
  have cd7 : ∀ a, CDivN a 7 := fun a => ⟨by decide, by decide⟩
  have cp : CPow 10 18 := ⟨by decide, by decide, by decide⟩
  have hne : many ≠ 0 := by omega
  by_cases hr : 0 < rest
  · refine ⟨rest.fmod many, ⟨i, mix, rest.fdiv many⟩, ?_, ⟨h1, h2, h3, ?_⟩, ?_, ?_⟩
    · simp [takenF, b_taken, encR, hr, hne, cd, h1]
    · exact Int.fdiv_nonneg (by omega) (by omega)
    · exact Int.fmod_nonneg (by omega) (by omega)
    · exact Int.fmod_lt_of_pos _ (by omega)
  · have hr' : rest = 0 := by omega
    subst hr'
    have mo : ∀ a : Int, 0 ≤ a.fmod 2147483647 ∧ a.fmod 2147483647 ≤ 2147483647 := fun a => ⟨Int.fmod_nonneg_of_pos _ (by decide), by have := Int.fmod_lt_of_pos a (b := 2147483647) (by decide); omega⟩
    have m7 : ∀ a : Int, 0 ≤ a.fmod many ∧ a.fmod many < many := fun a => ⟨Int.fmod_nonneg_of_pos _ (by omega), Int.fmod_lt_of_pos _ (by omega)⟩
    by_cases hl : (ns.length : Int) < i + 1
    · refine ⟨(((mix * 48271 + 11).fmod 2147483647).fdiv 7).fmod many, ⟨i + 1, (mix * 48271 + 11).fmod 2147483647, 0⟩, ?_, ⟨by show 0 ≤ i + 1; omega, (mo _).1, (mo _).2, Int.le_refl _⟩, m7 _⟩
      simp [takenF, b_taken, encR, hne, cd7, cm, hl]
    · have hi : i.toNat < ns.length := by omega
      have hat : L2.atI (ns.map D.int) (i + 1 - 1) = some (.int ns[i.toNat]) := by
        rw [show i + 1 - 1 = ((i.toNat : Nat) : Int) by omega, atI_nat', List.getElem?_map, List.getElem?_eq_getElem hi]
        rfl
      have hat' : L2.atI (ns.map D.int) i = some (.int ns[i.toNat]) := by
        rw [show i + 1 - 1 = i by omega] at hat; exact hat
      by_cases hc : (1000000000000000000 : Int) ≤ ns[i.toNat]
      · refine ⟨ns[i.toNat].fmod many, ⟨i + 1, (mix * 48271 + ns[i.toNat] + 11).fmod 2147483647, ns[i.toNat].fdiv many⟩, ?_, ⟨by show 0 ≤ i + 1; omega, (mo _).1, (mo _).2, Int.fdiv_nonneg (by omega) (by omega)⟩, m7 _⟩
        simp [takenF, b_taken, encR, hne, cm, cp, cd, hl, hat, hat', hc]
      · refine ⟨ns[i.toNat].fmod many, ⟨i + 1, (mix * 48271 + ns[i.toNat] + 11).fmod 2147483647, 0⟩, ?_, ⟨by show 0 ≤ i + 1; omega, (mo _).1, (mo _).2, Int.le_refl _⟩, m7 _⟩
        simp [takenF, b_taken, encR, hne, cm, cp, hl, hat, hat', hc]
/-! ### two answers alike -/
def b_alike (rec : FV) : SF :=
  (sCons (sIf (tB (eIsTs ["tuple", "list"] (rVar 1))) (sCons (sIf (tOrJ (tNotJ (tB (eIsTs ["tuple", "list"] (rVar 0)))) (tB (f2 neD (rVal (eIsT "list" (rVar 0))) (rVal (eIsT "list" (rVar 1)))))) (sRet (eC (.bl false))) sNil)
  (sCons (sIf (tB (f2 neD (rVal (eCallB (on1 lenD) (aCons (rVar 0) aNil))) (rVal (eCallB (on1 lenD) (aCons (rVar 1) aNil))))) (sRet (eC (.bl false))) sNil)
  (sRet (f2 eqD (rVal (eLc (iRng rng1 (aCons (rVal (eCallB (on1 lenD) (aCons (rVar 1) aNil))) aNil)) (bName 2) [2] (tNotJ (tB (eCall rec [] (aCons (rVal (f2 ixD (rVar 0) (rVar 2))) (aCons (rVal (f2 ixD (rVar 1) (rVar 2))) aNil))))) (eVar 2))) (rVal (eSeq .lst aNil)))))) sNil)
  (sCons (sIf (tOrJ (tB (f2 isNonD (rVar 1) (rVal (eC .non)))) (tB (eIsT "str" (rVar 1)))) (sRet (eAndJ (f2 eqD (rVar 0) (rVar 1)) (f2 eqD (rVal (eIsT "str" (rVar 0))) (rVal (eIsT "str" (rVar 1)))))) sNil)
  (sRet (eAndJ (eIsT "int" (rVar 0)) (eAndJ (f2 eqD (rVal (eIsT "bool" (rVar 0))) (rVal (eIsT "bool" (rVar 1)))) (f2 eqD (rVar 0) (rVar 1)))))))
def alikeF : Nat → FV
  | 0 => fun _ => .bad
  | n + 1 => fnV 1 (b_alike (alikeF n))
/-- plain data, short -/
def sz : Nat → D → Bool
  | 0, _ => false
  | n + 1, d => match d with
    | .tup ds => decide (ds.length ≤ 16777216) && ds.all (sz n)
    | .lst ds => decide (ds.length ≤ 16777216) && ds.all (sz n)
    | .non => true
    | .bl _ => true
    | .int _ => true
    | .str _ => true
    | _ => false
theorem rng1_nat (n : Nat) (h : n ≤ 16777216) : rng1 [.int (n : Int)] = some ((List.range n).map fun i => .int (i : Nat)) := by
  show (if -(2 ^ 62) ≤ (n : Int) ∧ (n : Int) ≤ 16777216 then some (rangeL 0 (n : Int).toNat) else none) = _
  rw [if_pos ⟨by omega, by omega⟩]
  unfold rangeL
  congr 1
  apply List.map_congr_left
  intro a _
  simp
@[simp] theorem looks_one (ρ : En) (d : D) : looks ρ [.v d] = some [d] := rfl
theorem alike_seq {n : Nat} {d : D} {ds : List D} (hd : d = .tup ds ∨ d = .lst ds) (hl : ds.length ≤ 16777216) (ih : ∀ e ∈ ds, alikeF n [e, e] = .ok (.bl true)) : alikeF (n + 1) [d, d] = .ok (.bl true) := by
  have key : ∀ (ρ : En), ρ = [.sh d, .sh d, .no] → lcS (bName 2) [2] (tNotJ (tB (eCall (alikeF n) [] (aCons (rVal (f2 ixD (rVar 0) (rVar 2))) (aCons (rVal (f2 ixD (rVar 1) (rVar 2))) aNil))))) (eVar 2) ((List.range ds.length).map fun i => D.int (i : Nat)) [] ρ = .ok (.lst []) ρ := by
    rintro ρ rfl
    rw [lcS_all (q := fun _ => []) fun a ha => ?_]
    · simp
    · have ha := List.mem_range.mp ha
      have e1 := ih ds[a] (List.getElem_mem ha)
      rcases hd with rfl | rfl <;> simp [lcS, wipeE, rst, atI_nat', ha, e1]
  have r1 := rng1_nat ds.length hl
  rcases hd with rfl | rfl
  · simp [alikeF, b_alike, r1, noOw, key, neD, eqD, okE, okEs, eqv, eqvs]
  · simp [alikeF, b_alike, r1, noOw, key, neD, eqD, okE, okEs, eqv, eqvs]
theorem alike_refl : ∀ (n : Nat) (d : D), sz n d = true → alikeF n [d, d] = .ok (.bl true)
  | 0, d, h => by cases h
  | n + 1, .tup ds, h => by
    have h : (decide (ds.length ≤ 16777216) && ds.all (sz n)) = true := h
    rw [Bool.and_eq_true] at h
    exact alike_seq (.inl rfl) (of_decide_eq_true h.1) fun e he => alike_refl n e (List.all_eq_true.mp h.2 e he)
  | n + 1, .lst ds, h => by
    have h : (decide (ds.length ≤ 16777216) && ds.all (sz n)) = true := h
    rw [Bool.and_eq_true] at h
    exact alike_seq (.inr rfl) (of_decide_eq_true h.1) fun e he => alike_refl n e (List.all_eq_true.mp h.2 e he)
  | n + 1, .non, h => by simp [alikeF, b_alike, isNonD, neD, eqD, okE, eqv]
  | n + 1, .bl b, h => by simp [alikeF, b_alike, isNonD, neD, eqD, okE, eqv]
  | n + 1, .int b, h => by simp [alikeF, b_alike, isNonD, neD, eqD, okE, eqv]
  | n + 1, .str b, h => by simp [alikeF, b_alike, isNonD, neD, eqD, okE, eqv]
  | n + 1, .dct _ _, h => by cases h
  | n + 1, .obj _ _ _, h => by cases h
  | n + 1, .fn _, h => by cases h
  | n + 1, .scr _, h => by cases h
def b_truth : SF :=
  (sRet (eAndJ (eIsT "bool" (rVar 0)) (f2 eqD (rVar 0) (rVar 1))))
def truthF : FV := fnV 0 b_truth
theorem truth_ok (b : Bool) : truthF [.bl b, .bl b] = .ok (.bl true) := by simp [truthF, b_truth, eqD, okE, eqv]
/-! ### lists -/
theorem insD_ok (ds : List D) (y : D) (k : Nat) (hk : k ≤ 1000000) (hl : ds.length ≤ 1000000) : insD ds [.int (k : Int), y] = some (.non, ds.take k ++ [y] ++ ds.drop k) := by
  have h : ds.length < sizeLine ∧ 0 ≤ (k : Int) ∧ (k : Int) < 2 ^ 63 := ⟨by rw [sizeLine_eq]; omega, by omega, by omega⟩
  show (if ds.length < sizeLine ∧ 0 ≤ (k : Int) ∧ (k : Int) < 2 ^ 63 then some (D.non, ds.take (k : Int).toNat ++ [y] ++ ds.drop (k : Int).toNat) else none) = _
  rw [if_pos h]
  rfl
theorem appD_ok (ds : List D) (y : D) (hl : ds.length ≤ 1000000) : appD ds [y] = some (.non, ds ++ [y]) := by
  show (if ds.length < sizeLine then some (D.non, ds ++ [y]) else none) = _
  rw [if_pos (by rw [sizeLine_eq]; omega)]
theorem extD_ok (ds es : List D) (hl : ds.length + es.length ≤ 1000000) : extD ds [.lst es] = some (.non, ds ++ es) := by
  show (if ds.length + es.length ≤ sizeLine then some (D.non, ds ++ es) else none) = _
  rw [if_pos (by rw [sizeLine_eq]; omega)]
theorem add_ll (a b : List D) (hl : a.length + b.length ≤ 1000000) : addD (.lst a) (.lst b) = some (.lst (a ++ b)) := by
  show (if a.length + b.length ≤ sizeLine then some (D.lst (a ++ b)) else none) = _
  rw [if_pos (by rw [sizeLine_eq]; omega)]
theorem add_tt (a b : List D) (hl : a.length + b.length ≤ 1000000) : addD (.tup a) (.tup b) = some (.tup (a ++ b)) := by
  show (if a.length + b.length ≤ sizeLine then some (D.tup (a ++ b)) else none) = _
  rw [if_pos (by rw [sizeLine_eq]; omega)]
theorem cut_from {α : Type} (ds : List α) (k : Nat) : cutL ds (some (k : Int)) none = ds.drop k := by
  unfold cutL
  rw [HT.sIx_nat, HT.sIx_none]
  by_cases h : k ≤ ds.length
  · rw [Nat.min_eq_left h, List.take_of_length_le (by simp)]
  · rw [Nat.min_eq_right (by omega), List.drop_eq_nil_of_le (by omega : ds.length ≤ k), List.drop_eq_nil_of_le (Nat.le_refl _), List.take_nil]
theorem cut_to {α : Type} (ds : List α) (k : Nat) : cutL ds none (some (k : Int)) = ds.take k := by
  unfold cutL
  rw [HT.sIx_nat, HT.sIx_none]
  simp
theorem flat_len {α : Type} (p : α → Bool) (g : α → D) : ∀ l : List α, (l.flatMap fun o => if p o = true then ([] : List D) else [g o]).length = (l.filter fun o => !p o).length
  | [] => rfl
  | a :: l => by
    have ih := flat_len p g l
    cases e : p a <;> simp [List.flatMap_cons, e, ih]
theorem flat_len2 {α : Type} (p : α → Bool) (g : α → D) : ∀ l : List α, (l.flatMap fun o => if p o = true then [g o] else ([] : List D)).length = l.countP p
  | [] => rfl
  | a :: l => by
    have ih := flat_len2 p g l
    cases e : p a <;> simp [List.flatMap_cons, e, ih]
@[simp] theorem cutD_l (lo hi : Option Int) (ds : List D) : cutD lo hi (.lst ds) = some (.lst (cutL ds lo hi)) := rfl
@[simp] theorem cutD_t (lo hi : Option Int) (ds : List D) : cutD lo hi (.tup ds) = some (.tup (cutL ds lo hi)) := rfl
@[simp] theorem cutD_s (lo hi : Option Int) (z : Str) : cutD lo hi (.str z) = some (.str (cutS z lo hi)) := rfl
theorem foldl_minL (r : List Int) : ∀ a : Int, (r.foldl min a ≤ a ∧ ∀ y ∈ r, r.foldl min a ≤ y) ∧ (r.foldl min a = a ∨ r.foldl min a ∈ r) := by
  induction r with
  | nil => intro a; simp
  | cons b r ih =>
    intro a
    obtain ⟨⟨h1, h2⟩, h3⟩ := ih (min a b)
    refine ⟨⟨by simp only [List.foldl_cons]; omega, fun y hy => ?_⟩, ?_⟩
    · rcases List.mem_cons.mp hy with rfl | hy
      · simp only [List.foldl_cons]; omega
      · exact h2 y hy
    · simp only [List.foldl_cons]
      rcases h3 with h3 | h3
      · rw [h3]
        by_cases hab : a ≤ b
        · exact .inl (by omega)
        · exact .inr (by rw [show min a b = b by omega]; exact List.mem_cons_self)
      · exact .inr (List.mem_cons_of_mem _ h3)
theorem maxL_is {l : List Int} {m : Int} (h1 : m ∈ l) (h2 : ∀ x ∈ l, x ≤ m) : maxL l = some m := by
  cases l with
  | nil => cases h1
  | cons a r =>
    obtain ⟨⟨k1, k2⟩, k3⟩ := foldl_max r a
    have up : r.foldl max a ≤ m := by
      rcases k3 with k3 | k3
      · rw [k3]; exact h2 a List.mem_cons_self
      · exact h2 _ (List.mem_cons_of_mem _ k3)
    have dn : m ≤ r.foldl max a := by
      rcases List.mem_cons.mp h1 with rfl | h
      · exact k1
      · exact k2 m h
    show some (r.foldl max a) = some m
    rw [show r.foldl max a = m by omega]
theorem minL_is {l : List Int} {m : Int} (h1 : m ∈ l) (h2 : ∀ x ∈ l, m ≤ x) : minL l = some m := by
  cases l with
  | nil => cases h1
  | cons a r =>
    obtain ⟨⟨k1, k2⟩, k3⟩ := foldl_minL r a
    have up : m ≤ r.foldl min a := by
      rcases k3 with k3 | k3
      · rw [k3]; exact h2 a List.mem_cons_self
      · exact h2 _ (List.mem_cons_of_mem _ k3)
    have dn : r.foldl min a ≤ m := by
      rcases List.mem_cons.mp h1 with rfl | h
      · exact k1
      · exact k2 m h
    show some (r.foldl min a) = some m
    rw [show r.foldl min a = m by omega]
theorem maxD_ints (l : List Int) : maxD (.lst (l.map D.int)) = (maxL l).map D.int := by
  show (intsD (l.map D.int)).bind _ = _
  rw [intsD_map]; rfl
theorem minD_ints (l : List Int) : minD (.lst (l.map D.int)) = (minL l).map D.int := by
  show (intsD (l.map D.int)).bind _ = _
  rw [intsD_map]; rfl
theorem sumD_ints (l : List Int) : sumD (.lst (l.map D.int)) = some (.int l.sum) := by
  show (intsD (l.map D.int)).bind _ = _
  rw [intsD_map]; rfl
theorem flat_filter {α : Type} (p : α → Bool) (g : α → D) : ∀ l : List α, (l.flatMap fun o => if p o = true then [g o] else ([] : List D)) = (l.filter p).map g
  | [] => rfl
  | a :: l => by
    have ih := flat_filter p g l
    cases e : p a <;> simp [List.flatMap_cons, e, ih]
theorem countP_le {α : Type} (p : α → Bool) (l : List α) (k : Nat) (h : ∀ (i : Nat) (x : α), l[i]? = some x → k ≤ i → p x = false) : l.countP p ≤ k := by
  induction l generalizing k with
  | nil => simp
  | cons a l ih =>
    cases k with
    | zero =>
      have z : (a :: l).countP p = 0 := List.countP_eq_zero.mpr fun x hx => by
        obtain ⟨i, hi⟩ := List.mem_iff_getElem?.mp hx
        rw [h i x hi (Nat.zero_le _)]; decide
      omega
    | succ k =>
      have h1 := ih k fun i x hi hk => h (i + 1) x (by simpa using hi) (by omega)
      have h2 : (a :: l).countP p ≤ l.countP p + 1 := by
        rw [List.countP_cons]; split <;> omega
      omega
theorem countP_ge {α : Type} (p : α → Bool) (l : List α) (k : Nat) (h : ∀ (i : Nat) (x : α), l[i]? = some x → i < k → p x = false) : l.countP p ≤ l.length - k := by
  induction l generalizing k with
  | nil => simp
  | cons a l ih =>
    cases k with
    | zero => exact List.countP_le_length
    | succ k =>
      have h1 := ih k fun i x hi hk => h (i + 1) x (by simpa using hi) (by omega)
      have h2 : p a = false := h 0 a rfl (by omega)
      rw [List.countP_cons_of_neg (by rw [h2]; decide), List.length_cons]
      omega
/-- a comprehension whose slots change, one value a turn -/
theorem lcS_run1 {α σ : Type} {b : BF} {vs : List Nat} {t : TF} {f : EF} {enc : σ → En} {e : α → D} (I : σ → Prop) (P : α → D → Prop) : ∀ {l : List α} {acc : List D} {s : σ}, I s → (∀ a ∈ l, ∀ s, I s → ∃ (s' : σ) (y : D), lcS b vs t f [e a] [] (enc s) = .ok (.lst [y]) (enc s') ∧ I s' ∧ P a y) →
    ∃ (s' : σ) (ys : List D), lcS b vs t f (l.map e) acc (enc s) = .ok (.lst (acc ++ ys)) (enc s') ∧ I s' ∧ ys.length = l.length ∧ ∀ y ∈ ys, ∃ a ∈ l, P a y
  | [], acc, s, hs, _ => ⟨s, [], by simp [lcS], hs, rfl, fun y h => by simp at h⟩
  | a :: l, acc, s, hs, h => by
    obtain ⟨s1, y, e1, h1, p1⟩ := h a List.mem_cons_self s hs
    obtain ⟨s2, ys, e2, h2, l2, p2⟩ := lcS_run1 (acc := acc ++ [y]) I P h1 fun c hc => h c (List.mem_cons_of_mem _ hc)
    refine ⟨s2, y :: ys, ?_, h2, by simp [l2], fun z hz => ?_⟩
    · rw [List.map_cons, lcS_step e1, e2]
      simp
    · rcases List.mem_cons.mp hz with rfl | hz
      · exact ⟨a, List.mem_cons_self, p1⟩
      · obtain ⟨c, hc, q⟩ := p2 z hz
        exact ⟨c, List.mem_cons_of_mem _ hc, q⟩
theorem all_map {β : Type} {g : β → D} {Q : β → Prop} : ∀ {ys : List D}, (∀ y ∈ ys, ∃ x, y = g x ∧ Q x) → ∃ xs : List β, ys = xs.map g ∧ ∀ x ∈ xs, Q x
  | [], _ => ⟨[], rfl, fun x h => by simp at h⟩
  | y :: ys, h => by
    obtain ⟨x, rfl, q⟩ := h y List.mem_cons_self
    obtain ⟨xs, rfl, qs⟩ := all_map fun z hz => h z (List.mem_cons_of_mem _ hz)
    refine ⟨x :: xs, rfl, fun z hz => ?_⟩
    rcases List.mem_cons.mp hz with rfl | hz
    · exact q
    · exact qs z hz
end J

set_option Elab.async false
set_option linter.all false
set_option maxRecDepth 100000
set_option maxHeartbeats 4000000
namespace J
open PySem PySem.Spec PyProof.Rows L2

/-! ### isinstance of a caught exception that has its own dict -/
section
variable {pr : Program} {wd : World} {Ar0 : Around} {Ex : Value → Shared → Prop} {st : Shared} {Kp : PySem.W.Frag} {e0 Cl : Addr} {obE : Obj} {odE : Option Obj}
/-- what the class of the object says of __class__, whatever stands in its dict -/
theorem find_data {nm : Str} {at0 gt0 : Value} (h1 : (PySem.W.clsIn Kp Cl).isSome = true) (h2 : PySem.W.findIn Kp (.ref Cl) nm = some (some at0)) (h3 : PySem.W.specialIn Kp at0 "__get__" = some (some gt0)) (h4 : PySem.W.takesIn Kp at0 = some true) : PySem.W.findObj Kp Cl odE nm = some (.bind gt0 at0) := by
  cases e : PySem.W.clsIn Kp Cl with
  | none => rw [e] at h1; cases h1
  | some cd => unfold PySem.W.findObj; rw [e, Option.bind_some, h2, Option.bind_some]; simp [h3, h4]
theorem own_class {Qc : Option Value → Shared → Prop} (c : L2.ExcC Kp Cl) (kin : Kp.In st.heap) (inst : PySem.W.InstAt st.heap e0 obE Cl odE) (q : Qc (some (.ref Cl)) { st with toks := st.toks + 1 }) : wpAny (model pr wd) Ar0 (getAttr? (.ref e0) "__class__") Qc Ex st := by
  have isC : (PySem.W.clsIn Kp Cl).isSome = true := by
    have z := c.hd
    unfold PySem.W.hasDictIn at z
    cases e : PySem.W.clsIn Kp Cl with
    | none => rw [e] at z; cases z
    | some _ => rfl
  have lf := find_data (odE := odE) isC c.ha c.hn c.ht
  cases st with
  | mk hp gs dr tk os =>
  have ty := inst.type (M := model pr wd)
  have lG := PySem.W.looks_findIn (M := model pr wd) kin c.hg
  have lK := PySem.W.looks_findIn (M := model pr wd) kin c.hk
  have lC := PySem.W.looks_find (M := model pr wd) kin inst lf
  have isB : PySem.W.Looks (model pr wd) hp (isInstance (.ref e0) (.type "BaseException")) true := ty.andThen (PySem.W.looks_subIn kin c.hs)
  have ne2 : (Value.builtin "BaseException.__getattribute__" == Value.builtin "object.__getattribute__") = false := by decide +kernel
  have ne1 : (onTheHeap (Value.ref Cl) && Value.builtin "BaseException.__getattribute__" == Value.builtin "object.__getattribute__") = false := by rw [ne2, Bool.and_false]
  unfold getAttr? getAttrBy? getAttrBy
  refine wpAny_bind (wpAny_mkText (wpAny_bind (wpAny_attempt (wpAny_holding (wpAny_bind (ty.at (wpAny_bind (lG.at ?go))))))))
  case go =>
  show wpAny _ _ (if (onTheHeap (Value.ref Cl) && Value.builtin "BaseException.__getattribute__" == Value.builtin "object.__getattribute__") = true then _ else _) _ _ _
  rw [ne1]
  rw [if_neg Bool.false_ne_true]
  unfold getAttrByItsOwn hookBefore
  refine wpAny_bind (if_pos (show onTheHeap (Value.ref Cl) = true from rfl) ▸ lK.at ?go2)
  case go2 =>
  refine wpAny_bind (wpAny_attempt (wpAny_holding ?go3))
  case go3 =>
  unfold callGetattribute
  rw [show (false && onTheHeap (Value.builtin "BaseException.__getattribute__")) = false from rfl]
  rw [if_neg Bool.false_ne_true]
  unfold boundAndCalled
  rw [PySem.F.excAttr_ValueError.ga.bind (.ref e0)]
  refine wpAny_bind (wpAny_pure ?go4)
  case go4 =>
  show wpAny _ _ (call (.builtin "BaseException.__getattribute__") [.ref e0, .str "__class__" tk]) _ _ _
  refine wpAny_call (codeAny_call_builtin PySem.F.excAttr_ValueError.ga.plain PySem.F.entry_bexc_ga ?go5)
  case go5 =>
  refine @PySem.W.check_slot (model pr wd) _ _ ⟨hp, gs, dr, tk + 1, os⟩ "BaseException.__getattribute__" "BaseException" "__getattribute__" (.ref e0) [.str "__class__" tk] [] _ (by decide +kernel) (by decide +kernel) isB (PySem.F.args_bexc_ga (.ref e0) (.str "__class__" tk)) ?go6
  case go6 =>
  unfold Builtin.«object.__getattribute__»
  refine wpAny_bind (wpAny_of_eq (a := ((Value.ref e0 : Value), [Value.str "__class__" tk])) (by first | rfl | (simp only [slotArgs]; rfl)) ?go7)
  case go7 =>
  refine wpAny_bind (wpAny_pure (wpAny_bind (ty.at (wpAny_bind (lC.at ?go8)))))
  case go8 =>
  show wpAny _ _ (holding [Value.builtin "object.__class__"] (call (.builtin "getset_descriptor.__get__") [.builtin "object.__class__", .ref e0, .ref Cl]) >>= ret) _ _ _
  refine wpAny_bind (wpAny_holding (wpAny_call (PySem.W.class_get (s := ⟨hp, gs, dr, tk + 1, os⟩) (ox := obE) (od := odE) kin inst c.hm ?go9)))
  case go9 =>
  refine wpAny_pure ?go10
  case go10 =>
  show wpAny _ _ (handedOut (.ref Cl)) _ _ _
  rw [PySem.W.handedOut_of (v := .ref Cl) rfl]
  first
    | exact wpAny_pure (wpAny_pure q)
    | exact wpAny_pure q
    | exact wpAny_pure (wpAny_bind (wpAny_pure (wpAny_pure q)))
theorem cls_at {D : Addr} {hp : Heap} (c : L2.ExcC Kp D) (kin : Kp.In hp) : ∃ o cd, hp.get? D = some o ∧ o.data = .cls cd := by
  have z := c.hd
  unfold PySem.W.hasDictIn at z
  cases e : PySem.W.clsIn Kp D with
  | none => rw [e] at z; cases z
  | some cd =>
    obtain ⟨o, h1, h2⟩ := clsIn_obj kin e
    exact ⟨o, cd, h1, h2⟩
theorem kitX_own (c : L2.ExcC Kp Cl) : PySem.W.KitX Kp (.ref e0) (.ref Cl) (fun h => PySem.W.InstAt h e0 obE Cl odE) where
  ty := fun _ _ _ inst => inst.type
  it := fun M hp kin _ A Q E s k q => by
    obtain ⟨o, cd, h1, h2⟩ := cls_at c kin
    cases s with
    | mk h2' g d t os => exact ks_wpAny_isType_cls (k _ _ h1) h2 q
  ne := fun hp tp dd its n sl kin htp => by
    obtain ⟨o, cd, h1, h2⟩ := cls_at c kin
    cases e : (Value.ref Cl == Value.ref tp) with
    | false => rfl
    | true =>
      have e2 : Cl = tp := Value.ref.inj (beq_iff_eq.mp e)
      rw [e2, htp] at h1
      cases h1
      cases h2
  ca := fun kin inst q => own_class c kin inst q
end
section
variable {X : Cx} {a Dc : Addr} {oe : Obj} {d : Option Addr} {pn : List (Addr × Obj)}
def rIsX (K : PySem.W.Frag) (Dc a : Addr) (d : Option Addr) : List V → Hp → VK → Prop := fun xs H Q => ∃ (c : V) (cv : Value) (b : Bool), xs = [.ref a, c] ∧ (∀ u, RelV c u → u = cv) ∧ PySem.W.kitOne K (.ref Dc) cv = some b ∧ (d = none ∨ ∃ dd fs, d = some dd ∧ H dd = some (.xd fs)) ∧ Q (.bl b) H
theorem call_isX (c : L2.ExcC X.K Dc) (hz : Zc (.ref Dc) d oe) (hf : ∃ vs, oe.data = .fields vs) : CallR (X.suite a ((a, oe) :: pn)) (.builtin "isinstance") (rIsX X.K Dc a d) := by
  intro pins s σ H xs us Q I r h
  obtain ⟨cl, cv, b, rfl, hcv, e, hd, q⟩ := h
  obtain ⟨u1, u2, rfl, r1, r2⟩ := Vals.two r
  have r1' : u1 = Value.ref a := r1
  subst r1'
  have ec := hcv _ r2
  subst ec
  obtain ⟨hget, _⟩ := I.pin (a, oe) (List.mem_append.mpr (.inl List.mem_cons_self))
  obtain ⟨vs, hv⟩ := hf
  have inst : ∃ od, PySem.W.InstAt s.heap a oe Dc od := by
    rcases hd with hd | ⟨dd, fs, hd, ea⟩
    · exact ⟨none, hget, hz.1, by unfold PySem.W.notCls; rw [hv] <;> rfl, by rw [hz.2, hd]; trivial⟩
    · have hx : ObjOk X.prog X.w H s.heap dd (.xd fs) := I.hok dd _ ea
      obtain ⟨mA, hns, hr⟩ := hx
      obtain ⟨od, ho, hl⟩ := lookIn_ns hns
      exact ⟨some od, hget, hz.1, by unfold PySem.W.notCls; rw [hv] <;> rfl, by rw [hz.2, hd]; exact ho⟩
  obtain ⟨od, inst⟩ := inst
  exact PySem.W.kia_one (kitX_own c) I.kIn inst e (fun z => nomatch z) fun tk => ⟨.bl b, H, I.kept (t' := tk) fun _ _ z => z, rfl, q⟩
/-- isinstance(e, c) in the suite -/
def eIsX (i : Nat) (tbl : Nat → Option Bool) : EF := fun ρ => match ρ[i]? with
  | some (.ex c _ _) => opt ((tbl c).map D.bl) ρ
  | _ => .bad
variable {T : Tab} {W : WX} {i : Nat} {tbl : Nat → Option Bool} {cls : Value} {x : Str} {p pos : Pos} {ce : Expr}
structure IsT (K : PySem.W.Frag) (T : Tab) (cv : Value) (tbl : Nat → Option Bool) : Prop where
  ok : ∀ c b, tbl c = some b → L2.ExcC K (T.exc c) ∧ PySem.W.kitOne K (.ref (T.exc c)) cv = some b
theorem jIsX {cv : Value} {v : V} (hk : X.K = T.K) (it : IsT X.K T cv tbl) (hc : PE (X.suite a ((a, oe) :: pn)) ce (tC v)) (hv1 : ∀ u, RelV v u → u = cv) (hz : Zc cls d oe) (hf : ∃ vs, oe.data = .fields vs) (B : NoB X.mg) (hN : X.N[i]? = some x := by rfl)
    (hv : Vis X.env.scope x := by first | exact Or.inl rfl | exact Or.inr (Or.inl rfl) | exact Or.inr (Or.inr rfl)) (hgl : Gl X "isinstance" := by rfl) (hd : (x == ("__debug__" : Str)) = false := by decide) (hcd : (x == ("__classdict__" : Str)) = false := by decide)
    (hs : starEach [.Name x p, ce] X.env = (false, eval (.Name x p) X.env) :: starEach [ce] X.env := by rfl) (hs2 : starEach [ce] X.env = (false, eval ce X.env) :: starEach [] X.env := by rfl) (hpl : (backTo pos (starEach [ce] X.env)).any (·.1) = false := by rfl) {q : Pos} :
    JE (X.suite a ((a, oe) :: pn)) (eaT T (some (a, cls, d))) W (.Call (.Name "isinstance" q) [.Name x p, ce] [] pos) (eIsX i tbl) := by
  refine ⟨hk, ⟨fun pins s σ H Q I h => ?_⟩⟩
  obtain ⟨U, G, ρ, R, h⟩ := h
  unfold eIsX at h
  split at h
  · rename_i c ns vs e
    obtain ⟨d1, e1, h⟩ := Pst.opt h
    obtain ⟨a1, cls1, dx1, h1, h2, h3⟩ := R.exn i c ns vs e
    cases h2
    obtain ⟨h3, h4⟩ := h3
    have hz' : Zc (.ref (T.exc c)) d oe := by
      have z := hz
      rw [show cls = .ref (T.exc c) from h3] at z
      exact z
    cases e2 : tbl c with
    | none => rw [e2] at e1; cases e1
    | some b =>
      rw [e2] at e1
      cases e1
      obtain ⟨g1, g2⟩ := it.ok c b e2
      refine (pe_callB (X := X.suite a ((a, oe) :: pn)) (call_isX (d := d) g1 hz' hf) hgl B.isi (by decide +kernel) (pa_cons (pe_var hN hv hd hcd) (pa_cons hc pa_nil hs2) hs) (by decide) (by decide) hs hpl).run pins s σ H Q I ?_
      refine ⟨_, h1, v, cv, b, rfl, hv1, g2, ?_, h G H R (L2.Same.refl _) _ rfl⟩
      cases d with
      | none => exact .inl rfl
      | some dd =>
        obtain ⟨fs, h5, _, _⟩ := h4
        exact .inr ⟨dd, fs, rfl, R.same _ _ h5⟩
  · exact h.elim
/-- raise C(), C an own class without __init__ -/
def sRaise0 (c : Nat) : SF := fun ρ => .ex c [] [] ρ
theorem jRaise0 {C : Addr} {bmB : List Value} {Bn newId initId : String} {c : Nat} {y : Str} {pos' : Pos} (hK : X.K = T.K) (F : PySem.ExcBaseFacts Bn newId initId bmB) (q : PySem.W.excIn X.K C bmB newId = true) (gC : X.mg y = some (.ref C)) (kC : PySem.W.keepIn X.K (.ref C) = true) (r : Raises X (.ref C)) (hC : T.exc c = C) (tk : Takes X W) (hc : X.calm = true := by rfl) (hg : Gl X y := by rfl)
    (hdb : (y == ("__debug__" : Str)) = false := by decide) : JS X T W [] (.Raise (some (.Call (.Name y p) [] [] pos)) none pos') (sRaise0 c) := by
  refine ⟨hK, ps_imp (ps_raise hc tk (t := fun σ H Q => Q (.ref C) none H) ?_) fun En σ H ⟨U, G, ρ, R, h⟩ => ?_⟩
  · intro pins s σ H Q I h
    refine wpAny_Call_Name_kw (ld_glob I hg gC ?_ hdb)
    refine PySem.W.callWith_K0 I.kIn kC ?_
    obtain ⟨bm, N, nm, qn, bs, hdct, sn, sub, ab, col, dd, k0, k1, k2, k3, k5, mN, hC, hN, hni, Te⟩ := exc_obj I.kIn q
    exact wpAny_call_exc_subT F Te hC hN hni (fun h' e hm => mk_of I hm r h (I.hok.gone hm.new)) (Nat.zero_le _)
  · exact h (.ref C) none σ G H R (L2.Same.refl _) (Keeps.refl _ _) ⟨by rw [hC], rfl, rfl⟩
end
end J

set_option Elab.async false
set_option linter.all false
set_option maxRecDepth 100000
set_option maxHeartbeats 4000000
namespace PySem
namespace HandSPX
open PySem.W PySem.Calls PyProof.Rows PySem.Spec
/-! ### an own exception class called with keywords alone -/
section
variable {Mo : Model} {pr : Program} {wd : World} {Ar0 : Around} {Ex : Value → Shared → Prop} {Rr : Result → Shared → Prop} {hp : Heap} {gs : Array GenState} {dr : Drawn} {tk : Nat} {os : OsState}
variable {nm0 qn : Str} {Cl Nn : Addr} {bs0 bm0 bmB : List Value} {hd0 : Bool} {sn0 : List Str} {sb0 : List Value} {ab0 : Bool} {co0 : Option Bool} {dd0 : Option Addr} {u0 u1 u2 u3 u5 : Option Value} {Bn newId initId : String} {kw : List (Str × Value)}
theorem kw_check (F : ExcBaseFacts Bn newId initId bmB) (hT : ∀ Y : String, bm0.contains (.type Y) = bmB.contains (.type Y)) {Qu : Unit → Shared → Prop} (at_C : hp.get? Cl = some (excClassObj nm0 qn Cl Nn bs0 bm0 hd0 sn0 sb0 ab0 co0 dd0 u0 u1 u2 u3 u5 newId)) (done : Qu () ⟨hp, gs, dr, tk, os⟩) :
    wpAny Mo Ar0 (checkBuiltinCall newId ⟨[.ref Cl], kw⟩) Qu Ex ⟨hp, gs, dr, tk, os⟩ := by
  have has : (Value.ref Cl :: bm0).contains (.type Bn) = true := by rw [List.contains_cons, hT, F.hasB]; simp
  have st := F.noStar
  simp only [checkBuiltinCall, F.newRow, F.newSplit, F.newKind]
  repeat (first | refine wpAny_loadPart_at at_C ?_ | (refine wpAny_isSubtype_exc at_C ?_; rw [has]) | refine wpAny_staticBase_exc at_C ?_ | refine wpAny_madeBy_exc at_C ?_ | simp only [bne_self_eq_false, Bool.false_eq_true, if_false] | wp_step)
  exact done
theorem kw_new (F : ExcBaseFacts Bn newId initId bmB) (hT : ∀ Y : String, bm0.contains (.type Y) = bmB.contains (.type Y)) (at_C : hp.get? Cl = some (excClassObj nm0 qn Cl Nn bs0 bm0 hd0 sn0 sb0 ab0 co0 dd0 u0 u1 u2 u3 u5 newId))
    (done : Rr (.ok (.ret (.ref (hp.objs.size + 1)))) ⟨(hp.push (W.kdv_tup [])).push (excO Cl hp.objs.size), gs, dr, tk, os⟩) : codeAny (model pr wd) Ar0 (.builtin newId ⟨[.ref Cl], kw⟩) Rr ⟨hp, gs, dr, tk, os⟩ := by
  have en := F.ends
  have has : ∀ Y : String, (Value.ref Cl :: bm0).contains (.type Y) = bmB.contains (.type Y) := fun Y => by rw [List.contains_cons, hT]; simp
  have yB := (has Bn).trans F.hasB
  have yA := (has "AttributeError").trans F.noAttr
  have yN := (has "NameError").trans F.noName
  refine codeAny_builtinAt F.entry ?_
  unfold Builtin.«BaseException.__new__»
  refine wpAt_bind ?_
  show wpAt _ _ _ (stack >>= _) _ _ _
  refine wpAt_bind (wpAt_stack fun p below => wpAt_of_wpAny ?_)
  wp_walk
  refine wpAt_of_wpAny ?_
  rw [F.owner]
  repeat (first | with_reducible refine wpAny_madeHere_exc F.canon at_C ?_ | with_reducible refine wpAny_loadPart_at at_C ?_ | (with_reducible refine wpAny_isSubtype_exc at_C ?_; first | rw [yB] | rw [yA] | rw [yN]) | wp_step)
  show Rr _ _
  rw [Heap.size_push]
  exact done
theorem kw_type (F : ExcBaseFacts Bn newId initId bmB) (hT : ∀ Y : String, bm0.contains (.type Y) = bmB.contains (.type Y)) {fi : Addr} {Qf : Fin → Shared → Prop} (at_C : hp.get? Cl = some (excClassObj nm0 qn Cl Nn bs0 bm0 hd0 sn0 sb0 ab0 co0 dd0 u0 u1 u2 u3 u5 newId))
    (li : W.Looks (model pr wd) hp (typeLookup (.ref Cl) "__init__") (some (.ref fi))) (lb : ∀ self, W.Looks (model pr wd) hp (bindSpecial (.ref fi) self) (.ref fi, [self]))
    (run : codeAny (model pr wd) Ar0 (.call (.ref fi) ⟨[.ref (hp.objs.size + 1)], kw⟩) (fun r s' => match r with | .ok (.ret v) => v = .none ∧ Qf (.done (.ret (.ref (hp.objs.size + 1)))) s' | .ok _ => False | .error e => Ex e s') ⟨(hp.push (W.kdv_tup [])).push (excO Cl hp.objs.size), gs, dr, tk, os⟩) :
    wpAny (model pr wd) Ar0 (Builtin.«type.__call__» ⟨[.ref Cl], kw⟩) Qf Ex ⟨hp, gs, dr, tk, os⟩ := by
  repeat (first | with_reducible refine wpAny_loadPart_at at_C ?_ | with_reducible refine wpAny_madeBy_exc at_C ?_ | wp_step)
  refine codeAny_call_builtin_code (Code.quiet_builtin _ F.quiet) (kw_check F hT at_C (kw_new F hT at_C ?made))
  case made =>
  show wpAny _ _ _ _ _ _
  have kp : ∀ b o, hp.get? b = some o → ((hp.push (W.kdv_tup [])).push (excO Cl hp.objs.size)).get? b = some o := fun b o e => Heap.get?_push_of_some _ (Heap.get?_push_of_some _ e)
  have at_C1 := kp _ _ at_C
  have at_e : ((hp.push (W.kdv_tup [])).push (excO Cl hp.objs.size)).get? (hp.objs.size + 1) = some (excO Cl hp.objs.size) := by heap_get
  have self_in : (Value.ref Cl :: bm0).contains (.ref Cl) = true := by simp
  have li1 := li.keeps kp
  have lb1 := (lb (.ref (hp.objs.size + 1))).keeps kp
  unfold isInstance
  repeat (first | with_reducible refine wpAny_loadPart_at at_e ?_ | (with_reducible refine wpAny_isSubtype_exc at_C1 ?_; rw [self_in]) | wp_step)
  show wpAny _ _ (typeLookup (.ref Cl) _) _ _ _
  refine li1.at (wpAny_holding (wpAny_bind (lb1.at (wpAny_bind (wpAny_call (codeAny_mono run fun r s' z => ?back))))))
  case back =>
  match r, z with
  | .error e, z => exact z
  | .ok (.ret v), ⟨hv, z⟩ =>
    subst hv
    first
      | exact wpAny_pure (wpAny_pure z)
      | (wp_walk; exact z)
theorem kw_call (F : ExcBaseFacts Bn newId initId bmB) (hT : ∀ Y : String, bm0.contains (.type Y) = bmB.contains (.type Y)) {fi : Addr} (at_C : hp.get? Cl = some (excClassObj nm0 qn Cl Nn bs0 bm0 hd0 sn0 sb0 ab0 co0 dd0 u0 u1 u2 u3 u5 newId))
    (li : W.Looks (model pr wd) hp (typeLookup (.ref Cl) "__init__") (some (.ref fi))) (lb : ∀ self, W.Looks (model pr wd) hp (bindSpecial (.ref fi) self) (.ref fi, [self]))
    (run : codeAny (model pr wd) (Ar0.under (.builtin "type.__call__" ⟨[.ref Cl], kw⟩)) (.call (.ref fi) ⟨[.ref (hp.objs.size + 1)], kw⟩) (W.InitBack (hp.objs.size + 1) Rr) ⟨(hp.push (W.kdv_tup [])).push (excO Cl hp.objs.size), gs, dr, tk, os⟩) :
    codeAny (model pr wd) Ar0 (.call (.ref Cl) ⟨[], kw⟩) Rr ⟨hp, gs, dr, tk, os⟩ := by
  have f1 := tc_lookup
  have f2 := tc_bind (.ref Cl)
  have hTy : (⟨hp, gs, dr, tk, os⟩ : Shared).TypeIs (.ref Cl) "type" := ⟨_, at_C, rfl⟩
  refine codeAny_of_tree ?tree
  case tree =>
  show wpAny _ _ (callAny (.ref Cl) _) _ _ _
  repeat (any_goals (first | assumption | with_reducible refine wpAny_loadPart_at at_C ?_ | wp_step))
  refine ⟨rfl, codeAny_call_builtin_at (Code.quiet_builtin _ (by decide +kernel)) entry_typeCall (wpAny_check_type_call_sub at_C (kw_type F hT at_C li lb (codeAny_mono run fun r s' z => ?back)))⟩
  case back =>
  match r, z with
  | .error e, z => exact z
  | .ok (.ret v), z => exact z
  | .ok .next, z => exact z
  | .ok .brk, z => exact z
  | .ok .cont, z => exact z
end
end HandSPX
end PySem
namespace J
open PySem PySem.Spec PyProof.Rows L2
/-- the keywords' values -/
structure JK (X : Cx) (T : Tab) (W : WX) (kws : List Keyword) (g : AF) : Prop where
  k : X.K = T.K
  len : ∀ ρ as ρ', g ρ = .ok as ρ' → as.length = kws.length
  run : PK X kws (tA T W g)
section
variable {X : Cx} {T : Tab} {W : WX} {C : Addr} {x f : Str} {fs ks : List Str} {k : Nat} {kws : List Keyword} {g : AF} {p q pos pos' : Pos}
theorem jk_nil (hK : X.K = T.K) : JK X T W [] aNil := by
  refine ⟨hK, fun ρ as ρ' h => by cases h; rfl, ⟨fun ps pins s σ H Q I ⟨U, G, ρ, R, h⟩ => ?_⟩⟩
  exact pk_nil.run ps pins s σ H Q I (h G H R (L2.Same.refl _) [] True.intro)
theorem jk_cons {nm : Option Str} {e : Expr} {kp : Pos} {fe : EF} (he : JE X T W e fe) (hr : JK X T W kws g) : JK X T W (⟨nm, e, kp⟩ :: kws) (aCons (rVal fe) g) := by
  have hA : ∀ σ H Q, tA T W (aCons (rVal fe) g) σ H Q → tCons (tR T W (rVal fe)) (tA T W g) σ H Q := fun σ H Q ⟨U, G, ρ, R, h⟩ => by
    refine ⟨U, G, ρ, R, (Pst.bnd h).mono (L2.Same.refl _) fun a G1 H1 ρ1 _ ⟨R1, s1, p1⟩ v av => ⟨U, G1, ρ1, R1, ?_⟩⟩
    refine (Pst.bnd p1).mono (L2.Same.refl _) fun as G2 H2 ρ2 _ ⟨R2, s2, p2⟩ vs avs => ?_
    exact p2 G2 H2 R2 (L2.Same.refl _) (v :: vs) ⟨av.mono s2, avs⟩
  refine ⟨he.k, fun ρ as ρ' h => ?_, ⟨fun ps pins s σ H Q I h => (pk_cons (j_rval he).run hr.run).run ps pins s σ H Q I (hA _ _ _ h)⟩⟩
  simp only [aCons] at h
  cases e1 : rVal fe ρ with
  | ok a ρ1 =>
    rw [e1] at h
    simp only [Rs.bnd_ok] at h
    cases e2 : g ρ1 with
    | ok as2 ρ2 => rw [e2] at h; cases h; simp [hr.len _ _ _ e2]
    | ex _ _ _ _ => rw [e2] at h; cases h
    | bad => rw [e2] at h; cases h
  | ex _ _ _ _ => rw [e1] at h; cases h
  | bad => rw [e1] at h; cases h
theorem zip_lookup {α : Type} {f : Str} {v : α} : ∀ {fs : List Str} {ys : List α} {j : Nat}, fs.Nodup → fs[j]? = some f → ys[j]? = some v → ((fs.zip ys).reverse).lookup f = some v
  | [], _, _, _, h, _ => by simp at h
  | _ :: _, [], _, _, _, h => by simp at h
  | a :: fs, y :: ys, j, hn, h1, h2 => by
    have hn' := List.nodup_cons.mp hn
    rw [List.zip_cons_cons, List.reverse_cons, List.lookup_append]
    cases j with
    | zero =>
      have e1 : a = f := by simpa using h1
      have e2 : y = v := by simpa using h2
      subst e1; subst e2
      have hno : ((fs.zip ys).reverse).lookup a = none := by
        rw [List.lookup_eq_none_iff]
        intro p hp
        have hm := List.of_mem_zip (List.mem_reverse.mp hp)
        exact bne_iff_ne.mpr (fun z : a = p.1 => hn'.1 (z ▸ hm.1))
      rw [hno]
      simp [List.lookup]
    | succ j =>
      rw [zip_lookup (j := j) hn'.2 (by simpa using h1) (by simpa using h2)]
      rfl
/-- C(f = v, ..).f, C an own exception class; pm puts the keywords' values in the parameters' order, j is the field's place -/
def eKwF (pm : List D → List D) (j : Nat) (g : AF) : EF := fun ρ => (g ρ).bnd fun as ρ' => match vals as with
  | some ds => opt ((pm ds)[j]?) ρ'
  | none => .bad
theorem jKwF {pm : List D → List D} {pmV : List V → List V} {pmU : List Value → List Value} {j : Nat} {fI : Addr} {fd : FuncData} {ps : List Str} (ox : OexC X.K C) (xf : XfC X.K C) (iC : PySem.W.findIn X.K (.ref C) "__init__" = some (some (.ref fI))) (tI : PySem.W.typeIn X.K (.ref fI) = some (.type "function"))
    (F1 : FnOk X.prog X.w X.K X.mg X.base C8.CX0 k fI fd ps (spXi C fs)) (hb : ∀ (s : Shared) (self : Value) (ws : List Value), ws.length = ks.length → BindsTo s fd ⟨[self], ks.zip ws⟩ (ps.zip (self :: pmU ws))) (hV : ∀ zs ws, Vals zs ws → zs.length = ks.length → Vals (pmV zs) (pmU ws) ∧ (pmV zs).length = fs.length)
    (hD : ∀ G zs ds, Reps T G zs ds → zs.length = ks.length → Reps T G (pmV zs) (pm ds)) (hf : fs[j]? = some f) (hnd : fs.Nodup) (hno : PySem.W.findIn X.K (.ref C) f = some none) (hr : Room (k + 1) X.A) (hm : X.mg x = some (.ref C)) (hkw : JK X T W kws g) (hl : kws.length = ks.length)
    (hg : Gl X x := by rfl) (hall : (backToKw pos (keywordEach kws X.env)).all (·.1.isSome) = true := by rfl) (hks : (backToKw pos (keywordEach kws X.env)).filterMap (·.1) = ks := by rfl) (hdb : (x == ("__debug__" : Str)) = false := by decide)
    (hpl : ((backTo pos (starEach [] X.env)).any (·.1) || (backToKw pos (keywordEach kws X.env)).any (·.1.isNone)) = false := by rfl) (hab : attributeBase (.Call (.Name x p) [] kws pos) f X.env (eval (.Call (.Name x p) [] kws pos) X.env) = eval (.Call (.Name x p) [] kws pos) X.env := by rfl) :
    JE X T W (.Attribute (.Call (.Name x p) [] kws pos) f pos') (eKwF pm j g) := by
  refine ⟨hkw.k, ⟨fun pins s σ H Q I ⟨U, G, ρ, R, h⟩ => ?_⟩⟩
  refine attr_of hab (wpAny_Call_Name_kw (ld_glob I hg hm ?_ hdb))
  refine PySem.W.callWith_KW0 (h₀ := X.base) I.ok.mod.kin ox.kC hall ?_ hpl
  refine thn (hkw.run.run pos pins s σ H (fun zs H1 => zs.length = ks.length ∧ ∃ v, (pmV zs)[j]? = some v ∧ ∀ dx a, H1 dx = none → H1 a = none → dx ≠ a → Q v (upd (upd H1 dx (exd dx (fs.zip (pmV zs)).reverse)) a (exo a C (some dx)))) I ?rd) fun ws s2 ⟨zs, H2, I2, rz, l1, v, hv, q2⟩ => ⟨I2.kIn, ?_⟩
  case rd =>
    refine ⟨U, G, ρ, R, ?_⟩
    have h' := Pst.bnd h
    cases hf2 : g ρ with
    | ok as ρ' =>
      rw [hf2] at h'
      intro G1 H1 R1 s1 vs avs
      obtain ⟨_, _, p1⟩ := h' G1 H1 R1 s1
      cases e2 : vals as with
      | none => rw [e2] at p1; exact p1.elim
      | some ds =>
        rw [e2] at p1
        obtain ⟨d1, e3, p2⟩ := Pst.opt p1
        have hlen : vs.length = ks.length := by rw [ars_len avs, hkw.len _ _ _ hf2, hl]
        obtain ⟨v, hv, rv⟩ := (hD G1 vs ds (vals_ok avs e2) hlen).getD e3
        refine ⟨hlen, v, hv, fun dx a hdx ha hne => ?_⟩
        have Ra := (R1.fresh (o := exd dx (fs.zip (pmV vs)).reverse) hdx).1
        have Rb := (Ra.fresh (p := a) (o := exo a C (some dx)) (by rw [upd_ne (Ne.symm hne)]; exact ha)).1
        exact p2 G1 _ Rb (L2.Same.refl _) v rv
    | ex c ns vs ρ' => rw [hf2] at h'; exact h'
    | bad => rw [hf2] at h'; exact h'
  rw [hks]
  obtain ⟨rp, lp⟩ := hV zs ws rz l1
  obtain ⟨nm, qn, N, bs, bm, sn, sub, ab, col, dd, k0, k1, k2, k3, k5, hC, hbm⟩ := ox.cls
  obtain ⟨hp, gg, dr, tk, os⟩ := s2
  have hn : H2 (hp.objs.size + 1) = none := I2.hok.fresh (Nat.le_succ _)
  have kk : ∀ b o, hp.get? b = some o → ((hp.push (PySem.W.kdv_tup [])).push (PySem.HandSPX.excO C hp.objs.size)).get? b = some o := fun b o e => Heap.get?_push_of_some _ (Heap.get?_push_of_some _ e)
  have hget : ((hp.push (PySem.W.kdv_tup [])).push (PySem.HandSPX.excO C hp.objs.size)).get? (hp.objs.size + 1) = some (PySem.HandSPX.excO C hp.objs.size) := by heap_get
  have I3 : Inv X pins σ (upd H2 (hp.objs.size + 1) (exo (hp.objs.size + 1) C none)) ⟨(hp.push (PySem.W.kdv_tup [])).push (PySem.HandSPX.excO C hp.objs.size), gg, dr, tk, os⟩ := I2.laid (t' := tk) kk (Nat.le_succ _) (exo_ok hget)
  have hsp : spXi C fs (.ref (hp.objs.size + 1) :: pmV zs) (upd H2 (hp.objs.size + 1) (exo (hp.objs.size + 1) C none)) (fun u H3 => u = .non ∧ ∃ dx, H2 dx = none ∧ dx ≠ hp.objs.size + 1 ∧ H3 = upd (upd H2 dx (exd dx (fs.zip (pmV zs)).reverse)) (hp.objs.size + 1) (exo (hp.objs.size + 1) C (some dx))) (fun _ _ _ => False) := by
    refine ⟨by simp [lp], _, _, rfl, upd_same, fun dx hdx hne => ⟨rfl, dx, by rw [upd_ne hne] at hdx; exact hdx, hne, ?_⟩⟩
    funext b
    by_cases hb1 : b = hp.objs.size + 1
    · rw [hb1, upd_same, upd_same]
    · by_cases hb2 : b = dx
      · rw [upd_ne hb1, upd_ne hb1, hb2, upd_same, upd_same]
      · rw [upd_ne hb1, upd_ne hb1, upd_ne hb2, upd_ne hb2, upd_ne hb1]
  refine wpAny_call (PySem.HandSPX.kw_call PySem.F.excBase_ValueError (fun Y => PySem.HandSPX.refsVE_contains Y bm hbm) (I2.kIn _ _ hC) (PySem.W.looks_findIn I2.kIn iC) (fun self => PySem.W.bind_fn I2.kIn self tI)
    (codeAny_mono (F1.run _ X.stack _ _ ⟨[Value.ref (hp.objs.size + 1)], ks.zip ws⟩ (Value.ref (hp.objs.size + 1) :: pmU ws) _ _ (fun _ _ _ => False) (hr.make C [] (ks.zip ws)) (I3.env0.make C [] (ks.zip ws)) (hb _ _ ws (by rw [← rz.length]; exact l1)) (show Vals (V.ref (hp.objs.size + 1) :: pmV zs) (Value.ref (hp.objs.size + 1) :: pmU ws) from .cons rfl rp) hsp) fun r s' hq => ?_))
  match r, hq with
  | .ok (.ret u), hq =>
    obtain ⟨v0, H4, I4, rv, ev, dx, n1, n2, e4⟩ := I3.after hq
    subst ev
    subst e4
    refine ⟨rv, ?_⟩
    obtain ⟨t1, ho⟩ := exo_at I4.hok (e := hp.objs.size + 1) (C := C) (d := some dx) upd_same
    obtain ⟨mA, hns, rel⟩ := exd_at I4.hok (dx := dx) (fs := (fs.zip (pmV zs)).reverse) (by rw [upd_ne n2, upd_same])
    obtain ⟨od, hod, hl2⟩ := lookIn_ns hns
    have lk : ((fs.zip (pmV zs)).reverse).lookup f = some v := zip_lookup hnd hf hv
    obtain ⟨w1, hw1, rw1⟩ := RelO.some_of (v := v) (o := mA f) (by rw [← lk]; exact rel f)
    exact PySem.HandSPX.exc_get I4.kIn ⟨ho, rfl, rfl, hod⟩ xf.ga xf.gg xf.exC (PySem.W.findObj_own xf.hdC hno rfl (by rw [hl2, hw1])) (handed_of rw1) ⟨v, _, I4.tok _, rw1, q2 dx _ n1 hn n2⟩
end
end J

set_option Elab.async false
set_option linter.all false
set_option maxRecDepth 100000
set_option maxHeartbeats 4000000
namespace J
open PySem PySem.Spec PyProof.Rows L2 NdefX
theorem kit_self {K : PySem.W.Frag} (c : Value) : PySem.W.kitOne K c c = some true := by
  unfold PySem.W.kitOne
  rw [if_pos (by simp)]
theorem kit_of {K : PySem.W.Frag} {C S : Addr} {b : Bool} (h2 : PySem.W.isClsIn K S = true) (h3 : PySem.W.typeIn K (.ref S) = some (.type "type")) (h4 : PySem.W.subIn K (.ref C) (.ref S) = some b) (h5 : PySem.W.subIn K (.ref S) (.ref S) = some true) : PySem.W.kitOne K (.ref C) (.ref S) = some b := by
  by_cases e : C = S
  · subst e
    rw [h4] at h5
    rw [kit_self, h5]
  · have h2' : (PySem.W.clsIn K S).isSome = true := h2
    have hne : ((Value.ref C) == (Value.ref S)) = false := beq_false_of_ne fun z => e (Value.ref.inj z)
    unfold PySem.W.kitOne
    rw [hne, if_neg Bool.false_ne_true]
    show (if ((PySem.W.clsIn K S).isSome && PySem.W.typeIn K (.ref S) == some (.type "type")) = true then PySem.W.subIn K (.ref C) (.ref S) else none) = some b
    rw [h2', h3]
    exact h4
theorem kit_ty0 {K : PySem.W.Frag} {C : Addr} {t : String} {b : Bool} (h4 : PySem.W.subIn K (.ref C) (.type t) = some b) (ht : PySem.W.kitCls K (.ref C) (.type t) = PySem.W.subIn K (.ref C) (.type t)) : PySem.W.kitOne K (.ref C) (.type t) = some b := by
  unfold PySem.W.kitOne
  rw [if_neg (by simp), ht, h4]
/-- the class that an isinstance in a suite names -/
structure IsTn (K : PySem.W.Frag) (mg : Str → Option Value) (T : Tab) (y : Str) (tbl : Nat → Option Bool) : Prop where
  ex : (∃ C, mg y = some (.ref C) ∧ IsT K T (.ref C) tbl) ∨ (mg y = none ∧ ∃ t, bootBuiltins y = some (.type t) ∧ IsT K T (.type t) tbl)
structure Ex0 (K : PySem.W.Frag) (mg : Str → Option Value) (T : Tab) (y : Str) (c : Nat) : Prop where
  ex : ∃ C, mg y = some (.ref C) ∧ PySem.W.excIn K C [.type "ValueError", .type "Exception", .type "BaseException", .type "object"] "ValueError.__new__" = true ∧ PySem.W.keepIn K (.ref C) = true ∧ PySem.W.subIn K (.ref C) (.type "BaseException") = some true ∧ PySem.W.typeIn K (.ref C) = some (.type "type") ∧ T.exc c = C
structure KwT (P : Program) (w : World) (K : PySem.W.Frag) (mg : Str → Option Value) (base : Heap) (k : Nat) (y f : Str) (ks : List Str) (pm : List D → List D) (j : Nat) : Prop where
  ex : ∃ (C fI : Addr) (fs ps : List Str) (fd : FuncData) (pmV : List V → List V) (pmU : List Value → List Value), mg y = some (.ref C) ∧ OexC K C ∧ XfC K C ∧ PySem.W.findIn K (.ref C) "__init__" = some (some (.ref fI)) ∧ PySem.W.typeIn K (.ref fI) = some (.type "function") ∧
    FnOk P w K mg base C8.CX0 k fI fd ps (spXi C fs) ∧ (∀ (s : Shared) (self : Value) (ws : List Value), ws.length = ks.length → BindsTo s fd ⟨[self], ks.zip ws⟩ (ps.zip (self :: pmU ws))) ∧ (∀ zs ws, Vals zs ws → zs.length = ks.length → Vals (pmV zs) (pmU ws) ∧ (pmV zs).length = fs.length) ∧
    (∀ (T : Tab) (G : Hp) zs ds, Reps T G zs ds → zs.length = ks.length → Reps T G (pmV zs) (pm ds)) ∧ fs[j]? = some f ∧ fs.Nodup ∧ PySem.W.findIn K (.ref C) f = some none
section
variable {X : Cx} {T : Tab} {W : WX} {y x f : Str} {p q pos pos' r1 r2 : Pos} {i j k k2 : Nat} {tbl : Nat → Option Bool} {a : Addr} {oe : Obj} {cls : Value} {d : Option Addr} {pn : List (Addr × Obj)}
theorem jIsXn (hk : X.K = T.K) (it : IsTn X.K X.mg T y tbl) (hz : Zc cls d oe) (hf : ∃ vs, oe.data = .fields vs) (B : NoB X.mg) (hgy : Gl X y := by rfl) (hny : y ≠ "__name__" := by decide) (hdy : (y == ("__debug__" : Str)) = false := by decide) (hN : X.N[i]? = some x := by rfl)
    (hv : Vis X.env.scope x := by first | exact Or.inl rfl | exact Or.inr (Or.inl rfl) | exact Or.inr (Or.inr rfl)) (hgl : Gl X "isinstance" := by rfl) (hd : (x == ("__debug__" : Str)) = false := by decide) (hcd : (x == ("__classdict__" : Str)) = false := by decide)
    (hs : starEach [.Name x p, .Name y q] X.env = (false, eval (.Name x p) X.env) :: starEach [.Name y q] X.env := by rfl) (hs2 : starEach [.Name y q] X.env = (false, eval (.Name y q) X.env) :: starEach [] X.env := by rfl) (hpl : (backTo pos (starEach [.Name y q] X.env)).any (·.1) = false := by rfl) :
    JE (X.suite a ((a, oe) :: pn)) (eaT T (some (a, cls, d))) W (.Call (.Name "isinstance" r1) [.Name x p, .Name y q] [] pos) (eIsX i tbl) := by
  rcases it.ex with ⟨C, h1, h2⟩ | ⟨h1, t, h2, h3⟩
  · exact jIsX (v := V.ref C) hk h2 (pe_glob (X := X.suite a ((a, oe) :: pn)) hgy h1 rfl hdy) (fun u r => r) hz hf B hN hv hgl hd hcd hs hs2 hpl
  · exact jIsX (v := V.ty t) hk h3 (pe_bltn (X := X.suite a ((a, oe) :: pn)) hgy h1 h2 rfl hny hdy) (fun u r => r) hz hf B hN hv hgl hd hcd hs hs2 hpl
theorem jRaise0n {c : Nat} (hK : X.K = T.K) (e0 : Ex0 X.K X.mg T y c) (tk : Takes X W) (hc : X.calm = true := by rfl) (hg : Gl X y := by rfl) (hdb : (y == ("__debug__" : Str)) = false := by decide) : JS X T W [] (.Raise (some (.Call (.Name y p) [] [] pos)) none pos') (sRaise0 c) := by
  obtain ⟨C, h1, h2, h3, h4, h5, h6⟩ := e0.ex
  exact jRaise0 hK PySem.F.excBase_ValueError h2 h1 h3 (raises_own h4 h5) h6 tk hc hg hdb
theorem jKw {ks : List Str} {pm : List D → List D} {kws : List Keyword} {g : AF} (kt : KwT X.prog X.w X.K X.mg X.base k x f ks pm j) (hr : Room k2 X.A) (hkw : JK X T W kws g) (hk2 : k + 1 ≤ k2 := by decide) (hl : kws.length = ks.length := by rfl)
    (hg : Gl X x := by rfl) (hall : (backToKw pos (keywordEach kws X.env)).all (·.1.isSome) = true := by rfl) (hks : (backToKw pos (keywordEach kws X.env)).filterMap (·.1) = ks := by rfl) (hdb : (x == ("__debug__" : Str)) = false := by decide)
    (hpl : ((backTo pos (starEach [] X.env)).any (·.1) || (backToKw pos (keywordEach kws X.env)).any (·.1.isNone)) = false := by rfl) (hab : attributeBase (.Call (.Name x p) [] kws pos) f X.env (eval (.Call (.Name x p) [] kws pos) X.env) = eval (.Call (.Name x p) [] kws pos) X.env := by rfl) :
    JE X T W (.Attribute (.Call (.Name x p) [] kws pos) f pos') (eKwF pm j g) := by
  obtain ⟨C, fI, fs, ps, fd, pmV, pmU, h1, h2, h3, h4, h5, h6, h7, h8, h9, h10, h11, h12⟩ := kt.ex
  exact jKwF h2 h3 h4 h5 h6 h7 h8 (h9 T) h10 h11 h12 (hr.mono hk2) h1 hkw hl hg hall hks hdb hpl hab
end
section
variable {P : Program} {w : World} {K : PySem.W.Frag} {mg : Str → Option Value} {base : Heap} {T : Tab} {f cc cda C : Addr} {x qual : Str} {params : Arguments} {scope : Scope} {doc pm ct oc : Value} {an od : Option Addr}
    {osl : Array (Option Value)} {p0 p1 p2 p3 p4 q1 q2 q3 q4 q5 q6 q7 q8 q9 r1 : Pos} {a1 a2 f1 f2 : Str} {pl : Env → Sem Bool} {c n1 n2 : Nat}
theorem kwt1 (lk : K.lookup f = some ⟨oc, od, .func (PySem.W.ksFn "__init__" qual params [supCall p0 p1 p2 p3 p4 [.Name a1 q1], .Assign [.Attribute (.Name "self" q2) f1 q3] (.Name a1 q4) q5] scope .none .none doc pm an (.ref cda) ct cc), osl⟩)
    (xf : XfC K C) (mgC : mg x = some (.ref C)) (hcd : PySem.W.codeIn K (.ref cda) qual = true) (T1 : SupC K P C cc cda) (TO : OexC K C) (iC : PySem.W.findIn K (.ref C) "__init__" = some (some (.ref f))) (tI : PySem.W.typeIn K (.ref f) = some (.type "function")) (hf1 : PySem.W.findIn K (.ref C) f1 = some none) (hms : mg "super" = none)
    (hS : nscB ["self", a1, "__class__"] ["self", a1] ["__class__"] scope = true) (har : ∃ ar, (params.posonlyargs ++ params.args).head? = some ar ∧ ar.arg = "self") (hsup : scope.names.lookup ("super" : Str) = some .globalImplicit) (hd1 : (a1 == ("__debug__" : Str)) = false) (hc1 : (a1 == ("__classdict__" : Str)) = false)
    (hb : ∀ (self v : Value), bindArgs (PySem.W.ksFn "__init__" qual params [supCall p0 p1 p2 p3 p4 [.Name a1 q1], .Assign [.Attribute (.Name "self" q2) f1 q3] (.Name a1 q4) q5] scope .none .none doc pm an (.ref cda) ct cc) ⟨[self], [(a1, v)]⟩ = pure ((["self", a1] : List Str).zip [self, v]))
    (hev : ∀ env, eval (.Call (.Attribute (.Call (.Name "super" p0) [] [] p1) "__init__" p2) [.Name a1 q1] [] p3) env = (do
      let ov ← attributeBase (.Call (.Name "super" p0) [] [] p1) "__init__" env (eval (.Call (.Name "super" p0) [] [] p1) env)
      standAt p2.atName
      let (f, first) ← holding [ov] (getMethod ov "__init__" (pl env))
      callWith p3 f first (backTo p3 (starEach [.Name a1 q1] env)) [])) : KwT P w K mg base 1 x f1 [a1] id 0 :=
  ⟨C, f, [f1], ["self", a1], _, id, id, mgC, TO, xf, iC, tI, fn_x1 (pl := pl) lk hcd (nscope_by hS) T1 TO har hsup hms hf1 hd1 hc1 hev, fun s self ws hl => (match ws, hl with | [v], _ => .of_eq (hb self v)), fun zs ws r hl => ⟨r, hl⟩, fun T G zs ds r _ => r, rfl, by simp, hf1⟩
theorem kwt2 (lk : K.lookup f = some ⟨oc, od, .func (PySem.W.ksFn "__init__" qual params [supCall p0 p1 p2 p3 p4 [.Name a1 q1, .Name a2 q2], .Assign [.Attribute (.Name "self" q3) f1 q4] (.Name a1 q5) q6, .Assign [.Attribute (.Name "self" q7) f2 q8] (.Name a2 q9) r1] scope .none .none doc pm an (.ref cda) ct cc), osl⟩)
    (xf : XfC K C) (mgC : mg x = some (.ref C)) (hcd : PySem.W.codeIn K (.ref cda) qual = true) (T1 : SupC K P C cc cda) (TO : OexC K C) (iC : PySem.W.findIn K (.ref C) "__init__" = some (some (.ref f))) (tI : PySem.W.typeIn K (.ref f) = some (.type "function")) (hf1 : PySem.W.findIn K (.ref C) f1 = some none) (hf2 : PySem.W.findIn K (.ref C) f2 = some none) (hms : mg "super" = none)
    (hS : nscB ["self", a1, a2, "__class__"] ["self", a1, a2] ["__class__"] scope = true) (har : ∃ ar, (params.posonlyargs ++ params.args).head? = some ar ∧ ar.arg = "self") (hsup : scope.names.lookup ("super" : Str) = some .globalImplicit) (hd1 : (a1 == ("__debug__" : Str)) = false) (hc1 : (a1 == ("__classdict__" : Str)) = false) (hd2 : (a2 == ("__debug__" : Str)) = false) (hc2 : (a2 == ("__classdict__" : Str)) = false)
    (hb : ∀ (self v u : Value), bindArgs (PySem.W.ksFn "__init__" qual params [supCall p0 p1 p2 p3 p4 [.Name a1 q1, .Name a2 q2], .Assign [.Attribute (.Name "self" q3) f1 q4] (.Name a1 q5) q6, .Assign [.Attribute (.Name "self" q7) f2 q8] (.Name a2 q9) r1] scope .none .none doc pm an (.ref cda) ct cc) ⟨[self], [(a1, v), (a2, u)]⟩ = pure ((["self", a1, a2] : List Str).zip [self, v, u]))
    (hev : ∀ env, eval (.Call (.Attribute (.Call (.Name "super" p0) [] [] p1) "__init__" p2) [.Name a1 q1, .Name a2 q2] [] p3) env = (do
      let ov ← attributeBase (.Call (.Name "super" p0) [] [] p1) "__init__" env (eval (.Call (.Name "super" p0) [] [] p1) env)
      standAt p2.atName
      let (f, first) ← holding [ov] (getMethod ov "__init__" (pl env))
      callWith p3 f first (backTo p3 (starEach [.Name a1 q1, .Name a2 q2] env)) [])) (hne : f1 ≠ f2) : KwT P w K mg base 1 x f2 [a1, a2] id 1 :=
  ⟨C, f, [f1, f2], ["self", a1, a2], _, id, id, mgC, TO, xf, iC, tI, fn_x2 (pl := pl) lk hcd (nscope_by hS) T1 TO har hsup hms hf1 hf2 hd1 hc1 hd2 hc2 hev, fun s self ws hl => (match ws, hl with | [v, u], _ => .of_eq (hb self v u)), fun zs ws r hl => ⟨r, hl⟩, fun T G zs ds r _ => r, rfl, by simp [hne], hf2⟩
theorem kwt2r (lk : K.lookup f = some ⟨oc, od, .func (PySem.W.ksFn "__init__" qual params [supCall p0 p1 p2 p3 p4 [.Name a1 q1, .Name a2 q2], .Assign [.Attribute (.Name "self" q3) f1 q4] (.Name a1 q5) q6, .Assign [.Attribute (.Name "self" q7) f2 q8] (.Name a2 q9) r1] scope .none .none doc pm an (.ref cda) ct cc), osl⟩)
    (xf : XfC K C) (mgC : mg x = some (.ref C)) (hcd : PySem.W.codeIn K (.ref cda) qual = true) (T1 : SupC K P C cc cda) (TO : OexC K C) (iC : PySem.W.findIn K (.ref C) "__init__" = some (some (.ref f))) (tI : PySem.W.typeIn K (.ref f) = some (.type "function")) (hf1 : PySem.W.findIn K (.ref C) f1 = some none) (hf2 : PySem.W.findIn K (.ref C) f2 = some none) (hms : mg "super" = none)
    (hS : nscB ["self", a1, a2, "__class__"] ["self", a1, a2] ["__class__"] scope = true) (har : ∃ ar, (params.posonlyargs ++ params.args).head? = some ar ∧ ar.arg = "self") (hsup : scope.names.lookup ("super" : Str) = some .globalImplicit) (hd1 : (a1 == ("__debug__" : Str)) = false) (hc1 : (a1 == ("__classdict__" : Str)) = false) (hd2 : (a2 == ("__debug__" : Str)) = false) (hc2 : (a2 == ("__classdict__" : Str)) = false)
    (hb : ∀ (self v u : Value), bindArgs (PySem.W.ksFn "__init__" qual params [supCall p0 p1 p2 p3 p4 [.Name a1 q1, .Name a2 q2], .Assign [.Attribute (.Name "self" q3) f1 q4] (.Name a1 q5) q6, .Assign [.Attribute (.Name "self" q7) f2 q8] (.Name a2 q9) r1] scope .none .none doc pm an (.ref cda) ct cc) ⟨[self], [(a2, u), (a1, v)]⟩ = pure ((["self", a1, a2] : List Str).zip [self, v, u]))
    (hev : ∀ env, eval (.Call (.Attribute (.Call (.Name "super" p0) [] [] p1) "__init__" p2) [.Name a1 q1, .Name a2 q2] [] p3) env = (do
      let ov ← attributeBase (.Call (.Name "super" p0) [] [] p1) "__init__" env (eval (.Call (.Name "super" p0) [] [] p1) env)
      standAt p2.atName
      let (f, first) ← holding [ov] (getMethod ov "__init__" (pl env))
      callWith p3 f first (backTo p3 (starEach [.Name a1 q1, .Name a2 q2] env)) [])) (hne : f1 ≠ f2) : KwT P w K mg base 1 x f1 [a2, a1] List.reverse 0 :=
  ⟨C, f, [f1, f2], ["self", a1, a2], _, List.reverse, List.reverse, mgC, TO, xf, iC, tI, fn_x2 (pl := pl) lk hcd (nscope_by hS) T1 TO har hsup hms hf1 hf2 hd1 hc1 hd2 hc2 hev, fun s self ws hl => (match ws, hl with | [u, v], _ => .of_eq (hb self v u)), fun zs ws r hl => (match zs, ws, r, hl with | [_, _], _, .cons r1 (.cons r2 .nil), _ => ⟨.cons r2 (.cons r1 .nil), rfl⟩), fun T G zs ds r _ => r.rev, rfl, by simp [hne], hf1⟩
end
end J

set_option Elab.async false
set_option linter.all false
set_option maxRecDepth 100000
set_option maxHeartbeats 4000000
namespace K09
open PySem PySem.Spec PyProof.Rows L2 J
abbrev prog : Program := PySem.Challenge.pw_coachstages_k09_errors
def top (i : Nat) : Stmt := prog.main.body.getD i (.Pass ⟨0, 0, 0, 0⟩)
def hd_StagesError : Nat → Option Bool := fun c => if c = 0 then some true else if c = 1 then some true else if c = 2 then some true else if c = 3 then some true else if c = 4 then some true else if c = 5 then some true else if c = 6 then some true else if c = 7 then some true else if c = 8 then some true else if c = 9 then some true else none
def okX_value : Nat → Bool := fun c => decide (c = 0 ∨ c = 1 ∨ c = 3 ∨ c = 6 ∨ c = 7)
def okX_index : Nat → Bool := fun c => decide (c = 2)
def okX_line : Nat → Bool := fun c => decide (c = 4)
def okX_limit : Nat → Bool := fun c => decide (c = 5)
def okX_reason : Nat → Bool := fun c => decide (c = 8)
def okX_names : Nat → Bool := fun c => decide (c = 8)
def tbl_BadNumber : Nat → Option Bool := fun c => if c = 0 then some true else if c = 1 then some false else if c = 2 then some false else if c = 3 then some false else if c = 4 then some false else if c = 5 then some false else if c = 6 then some false else if c = 7 then some false else if c = 8 then some false else if c = 9 then some false else none
def tbl_BadName : Nat → Option Bool := fun c => if c = 0 then some false else if c = 1 then some true else if c = 2 then some false else if c = 3 then some false else if c = 4 then some false else if c = 5 then some false else if c = 6 then some false else if c = 7 then some false else if c = 8 then some false else if c = 9 then some false else none
def tbl_BadItem : Nat → Option Bool := fun c => if c = 0 then some false else if c = 1 then some false else if c = 2 then some true else if c = 3 then some false else if c = 4 then some false else if c = 5 then some false else if c = 6 then some false else if c = 7 then some false else if c = 8 then some false else if c = 9 then some false else none
def tbl_BadEvent : Nat → Option Bool := fun c => if c = 0 then some false else if c = 1 then some false else if c = 2 then some false else if c = 3 then some true else if c = 4 then some false else if c = 5 then some false else if c = 6 then some false else if c = 7 then some false else if c = 8 then some false else if c = 9 then some false else none
def tbl_BadNote : Nat → Option Bool := fun c => if c = 0 then some false else if c = 1 then some false else if c = 2 then some false else if c = 3 then some false else if c = 4 then some true else if c = 5 then some false else if c = 6 then some false else if c = 7 then some false else if c = 8 then some false else if c = 9 then some false else none
def tbl_TooMany : Nat → Option Bool := fun c => if c = 0 then some false else if c = 1 then some false else if c = 2 then some false else if c = 3 then some false else if c = 4 then some false else if c = 5 then some true else if c = 6 then some false else if c = 7 then some false else if c = 8 then some false else if c = 9 then some false else none
def tbl_Unknown : Nat → Option Bool := fun c => if c = 0 then some false else if c = 1 then some false else if c = 2 then some false else if c = 3 then some false else if c = 4 then some false else if c = 5 then some false else if c = 6 then some true else if c = 7 then some false else if c = 8 then some false else if c = 9 then some false else none
def tbl_Taken : Nat → Option Bool := fun c => if c = 0 then some false else if c = 1 then some false else if c = 2 then some false else if c = 3 then some false else if c = 4 then some false else if c = 5 then some false else if c = 6 then some false else if c = 7 then some true else if c = 8 then some false else if c = 9 then some false else none
def tbl_Refused : Nat → Option Bool := fun c => if c = 0 then some false else if c = 1 then some false else if c = 2 then some false else if c = 3 then some false else if c = 4 then some false else if c = 5 then some false else if c = 6 then some false else if c = 7 then some false else if c = 8 then some true else if c = 9 then some false else none
def tbl_NothingToUndo : Nat → Option Bool := fun c => if c = 0 then some false else if c = 1 then some false else if c = 2 then some false else if c = 3 then some false else if c = 4 then some false else if c = 5 then some false else if c = 6 then some false else if c = 7 then some false else if c = 8 then some false else if c = 9 then some true else none
def tbl_ValueError : Nat → Option Bool := fun c => if c = 0 then some true else if c = 1 then some true else if c = 2 then some true else if c = 3 then some true else if c = 4 then some true else if c = 5 then some true else if c = 6 then some true else if c = 7 then some true else if c = 8 then some true else if c = 9 then some true else none
def tbl_LookupError : Nat → Option Bool := fun c => if c = 0 then some false else if c = 1 then some false else if c = 2 then some false else if c = 3 then some false else if c = 4 then some false else if c = 5 then some false else if c = 6 then some false else if c = 7 then some false else if c = 8 then some false else if c = 9 then some false else none
def tbl_RuntimeError : Nat → Option Bool := fun c => if c = 0 then some false else if c = 1 then some false else if c = 2 then some false else if c = 3 then some false else if c = 4 then some false else if c = 5 then some false else if c = 6 then some false else if c = 7 then some false else if c = 8 then some false else if c = 9 then some false else none
abbrev s__law_alike : Stmt := (top 15)
theorem sc__law_alike : FnScope ["found", "due", "k"] ["found", "due"] (defScope s__law_alike) := C8.fnScope_by (by decide +kernel)
def b__law_alike (rec : FV) : SF :=
  (sCons (sIf (tB (eIsTs ["tuple", "list"] (rVar 1))) (sCons (sIf (tOrJ (tNotJ (tB (eIsTs ["tuple", "list"] (rVar 0)))) (tB (f2 neD (rVal (eIsT "list" (rVar 0))) (rVal (eIsT "list" (rVar 1)))))) (sRet (eC (.bl false))) sNil)
  (sCons (sIf (tB (f2 neD (rVal (eCallB (on1 lenD) (aCons (rVar 0) aNil))) (rVal (eCallB (on1 lenD) (aCons (rVar 1) aNil))))) (sRet (eC (.bl false))) sNil)
  (sRet (f2 eqD (rVal (eLc (iRng rng1 (aCons (rVal (eCallB (on1 lenD) (aCons (rVar 1) aNil))) aNil)) (bName 2) [2] (tNotJ (tB (eCall rec [] (aCons (rVal (f2 ixD (rVar 0) (rVar 2))) (aCons (rVal (f2 ixD (rVar 1) (rVar 2))) aNil))))) (eVar 2))) (rVal (eSeq .lst aNil)))))) sNil)
  (sCons (sIf (tOrJ (tB (f2 isNonD (rVar 1) (rVal (eC .non)))) (tB (eIsT "str" (rVar 1)))) (sRet (eAndJ (f2 eqD (rVar 0) (rVar 1)) (f2 eqD (rVal (eIsT "str" (rVar 0))) (rVal (eIsT "str" (rVar 1)))))) sNil)
  (sRet (eAndJ (eIsT "int" (rVar 0)) (eAndJ (f2 eqD (rVal (eIsT "bool" (rVar 0))) (rVal (eIsT "bool" (rVar 1)))) (f2 eqD (rVar 0) (rVar 1)))))))
def F__law_alike : Nat → FV
  | 0 => fun _ => .bad
  | n + 1 => fnV 1 (b__law_alike (F__law_alike n))
theorem cal__law_alike {P : Program} {w : World} {K : PySem.W.Frag} {mg : Str → Option Value} {base : Heap} {T : Tab} (hT : T.K = K) (B : NoB mg) {f : Addr} {fd : FuncData} (F : Fun K "_law_alike" "_law_alike" s__law_alike f fd) (hm : mg "_law_alike" = some (.ref f)) : ∀ n : Nat, CalV P w K mg base T (0 + 1 + n) "_law_alike" 2 (F__law_alike n)
  | 0 => calBad F hm (F.binds (ps := ["found", "due"]) fun _ _ _ _ _ _ us hl => match us, hl with | [_, _], _ => rfl)
  | n + 1 => by
    have ih := cal__law_alike (P := P) (w := w) (base := base) hT B F hm n
    exact calV F sc__law_alike hm (F.binds (ps := ["found", "due"]) fun _ _ _ _ _ _ us hl => match us, hl with | [_, _], _ => rfl) fun cdv A outer s H E b => have hu := Room.u b.hr;
  (js_cons (j_ifs (j_test (j_isTs (ts := ["tuple", "list"]) (j_rvar hT.symm 1) (ty2 (ty1 B.tuple (by decide +kernel)) (ty1 B.list (by decide +kernel))) B.isi)) (js_cons (j_ifs (JW.jt (j_or (j_not (j_test (j_isTs (ts := ["tuple", "list"]) (j_rvar hT.symm 0) (ty2 (ty1 B.tuple (by decide +kernel)) (ty1 B.list (by decide +kernel))) B.isi))) (j_or1 (jtNe hu (j_rval (j_isT (j_rvar hT.symm 0) (ty1 B.list (by decide +kernel)) B.isi)) (j_rval (j_isT (j_rvar hT.symm 1) (ty1 B.list (by decide +kernel)) B.isi)))))) (js_one (j_ret (j_bl hT.symm))) (js_nil hT.symm))
  (js_cons (j_ifs (jtNe hu (j_rval (jLen (ja_cons (j_rvar hT.symm 0) (ja_nil hT.symm)) B)) (j_rval (jLen (ja_cons (j_rvar hT.symm 1) (ja_nil hT.symm)) B))) (js_one (j_ret (j_bl hT.symm))) (js_nil hT.symm))
  (js_one (j_ret (jeEq hu (j_rval (j_frz (j_lcO (own := [("k", 2)]) rfl sc__law_alike.nd (ji_range1 (ja_cons (j_rval (jLen (ja_cons (j_rvar hT.symm 1) (ja_nil hT.symm)) B)) (ja_nil hT.symm)) B.range) (blkOk_by (by kernel_rfl)) (by decide) (fun s H C cl fp => (jg_name (i := 2) sc__law_alike.nd)) (fun s H C cl fp => (jts_one (j_not (j_test (jc ih b.hr takes0 (ja_cons (j_rval (j_ix (j_rvar hT.symm 0) (j_rvar hT.symm 2))) (ja_cons (j_rval (j_ix (j_rvar hT.symm 1) (j_rvar hT.symm 2))) (ja_nil hT.symm))) (Nat.le_refl _)))))) (fun s H C cl fp => (j_var hT.symm 2))))) (j_rval (j_frz (j_lstO (ja_nil hT.symm))))))))) (js_nil hT.symm))
  (js_cons (j_ifs (JW.jt (j_or (jtIsN (j_rvar hT.symm 1) (j_rval (j_non hT.symm))) (j_or1 (j_test (j_isT (j_rvar hT.symm 1) (ty1 B.str (by decide +kernel)) B.isi))))) (js_one (j_ret (j_vand (jeEq hu (j_rvar hT.symm 0) (j_rvar hT.symm 1)) (j_one (jeEq hu (j_rval (j_isT (j_rvar hT.symm 0) (ty1 B.str (by decide +kernel)) B.isi)) (j_rval (j_isT (j_rvar hT.symm 1) (ty1 B.str (by decide +kernel)) B.isi))))))) (js_nil hT.symm))
  (js_one (j_ret (j_vand (j_isT (j_rvar hT.symm 0) (ty1 B.int (by decide +kernel)) B.isi) (j_vand (jeEq hu (j_rval (j_isT (j_rvar hT.symm 0) (ty1 B.bool (by decide +kernel)) B.isi)) (j_rval (j_isT (j_rvar hT.symm 1) (ty1 B.bool (by decide +kernel)) B.isi))) (j_one (jeEq hu (j_rvar hT.symm 0) (j_rvar hT.symm 1)))))))))
def _law_taken_s1 : SF :=
  (sIf (tB (f2 gtD (rVal (f2 ixD (rVar 0) (rVal (eC (.int 3))))) (rVal (eC (.int 0))))) (sCons (sSet 3 (f2 modD (rVal (eCallB (on1 intD) (aCons (rVal (f2 ixD (rVar 0) (rVal (eC (.int 3))))) aNil))) (rVar 1)))
  (sCons (sSub 0 (f2 fdivD (rVal (f2 ixD (rVar 0) (rVal (eC (.int 3))))) (rVar 1)) (rVal (eC (.int 3))))
  (sRet (eVar 3)))) sNil)
def _law_taken_s2 : SF :=
  (sSub 0 (f2 addD (rVal (f2 ixD (rVar 0) (rVal (eC (.int 1))))) (rVal (eC (.int 1)))) (rVal (eC (.int 1))))
def _law_taken_s3 : SF :=
  (sIf (tB (f2 gtD (rVal (f2 ixD (rVar 0) (rVal (eC (.int 1))))) (rVal (eCallB (on1 lenD) (aCons (rVal (f2 ixD (rVar 0) (rVal (eC (.int 0))))) aNil))))) (sCons (sSub 0 (f2 modD (rVal (eCallB (on1 intD) (aCons (rVal (f2 addD (rVal (f2 mulD (rVal (f2 ixD (rVar 0) (rVal (eC (.int 2))))) (rVal (eC (.int 48271))))) (rVal (eC (.int 11))))) aNil))) (rVal (eC (.int 2147483647)))) (rVal (eC (.int 2))))
  (sRet (f2 modD (rVal (eCallB (on1 intD) (aCons (rVal (f2 fdivD (rVal (f2 ixD (rVar 0) (rVal (eC (.int 2))))) (rVal (eC (.int 7))))) aNil))) (rVar 1)))) sNil)
def _law_taken_s4 : SF :=
  (sSet 2 (f2 ixD (rVal (f2 ixD (rVar 0) (rVal (eC (.int 0))))) (rVal (f2 subD (rVal (f2 ixD (rVar 0) (rVal (eC (.int 1))))) (rVal (eC (.int 1)))))))
def _law_taken_s5 : SF :=
  (sSub 0 (f2 modD (rVal (eCallB (on1 intD) (aCons (rVal (f2 addD (rVal (f2 addD (rVal (f2 mulD (rVal (f2 ixD (rVar 0) (rVal (eC (.int 2))))) (rVal (eC (.int 48271))))) (rVar 2))) (rVal (eC (.int 11))))) aNil))) (rVal (eC (.int 2147483647)))) (rVal (eC (.int 2))))
def _law_taken_s6 : SF :=
  (sIf (tB (f2 geD (rVar 2) (rVal (f2 powD (rVal (eC (.int 10))) (rVal (eC (.int 18))))))) (sSub 0 (f2 fdivD (rVar 2) (rVar 1)) (rVal (eC (.int 3)))) sNil)
def _law_taken_s7 : SF :=
  (sRet (f2 modD (rVal (eCallB (on1 intD) (aCons (rVar 2) aNil))) (rVar 1)))
abbrev s__law_taken : Stmt := (top 13)
theorem sc__law_taken : FnScope ["row", "many", "cell", "found"] ["row", "many"] (defScope s__law_taken) := C8.fnScope_by (by decide +kernel)
def b__law_taken : SF :=
  (sCons _law_taken_s1
  (sCons _law_taken_s2
  (sCons _law_taken_s3
  (sCons _law_taken_s4
  (sCons _law_taken_s5
  (sCons _law_taken_s6
  _law_taken_s7))))))
def F__law_taken : FL := fnL 2 b__law_taken
theorem cal__law_taken {P : Program} {w : World} {K : PySem.W.Frag} {mg : Str → Option Value} {base : Heap} {T : Tab} (hT : T.K = K) (B : NoB mg) {f : Addr} {fd : FuncData} (F : Fun K "_law_taken" "_law_taken" s__law_taken f fd) (hm : mg "_law_taken" = some (.ref f)) : CalL P w K mg base T 1 "_law_taken" 1 F__law_taken :=
  calL F sc__law_taken hm (F.binds (ps := ["row", "many"]) fun _ _ _ _ _ _ us hl => match us, hl with | [_, _], _ => rfl) fun cdv A outer s H E b => have hu := Room.u b.hr;
  (js_cons (j_ifs (jtGt (j_rval (j_ix (j_rvar hT.symm 0) (j_rval (j_int hT.symm)))) (j_rval (j_int hT.symm))) (js_cons (j_set (i := 3) sc__law_taken.nd (j_mod (j_rval (jInt (ja_cons (j_rval (j_ix (j_rvar hT.symm 0) (j_rval (j_int hT.symm)))) (ja_nil hT.symm)) B)) (j_rvar hT.symm 1)))
  (js_cons (j_sub_store (i := 0) (j_fdiv (j_rval (j_ix (j_rvar hT.symm 0) (j_rval (j_int hT.symm)))) (j_rvar hT.symm 1)) (j_rval (j_int hT.symm)) rfl)
  (js_one (j_ret (j_var hT.symm 3))))) (js_nil hT.symm))
  (js_cons (j_sub_store (i := 0) (j_add (j_rval (j_ix (j_rvar hT.symm 0) (j_rval (j_int hT.symm)))) (j_rval (j_int hT.symm))) (j_rval (j_int hT.symm)) rfl)
  (js_cons (j_ifs (jtGt (j_rval (j_ix (j_rvar hT.symm 0) (j_rval (j_int hT.symm)))) (j_rval (jLen (ja_cons (j_rval (j_ix (j_rvar hT.symm 0) (j_rval (j_int hT.symm)))) (ja_nil hT.symm)) B))) (js_cons (j_sub_store (i := 0) (j_mod (j_rval (jInt (ja_cons (j_rval (j_add (j_rval (j_mul (j_rval (j_ix (j_rvar hT.symm 0) (j_rval (j_int hT.symm)))) (j_rval (j_int hT.symm)))) (j_rval (j_int hT.symm)))) (ja_nil hT.symm)) B)) (j_rval (j_int hT.symm))) (j_rval (j_int hT.symm)) rfl)
  (js_one (j_ret (j_mod (j_rval (jInt (ja_cons (j_rval (j_fdiv (j_rval (j_ix (j_rvar hT.symm 0) (j_rval (j_int hT.symm)))) (j_rval (j_int hT.symm)))) (ja_nil hT.symm)) B)) (j_rvar hT.symm 1))))) (js_nil hT.symm))
  (js_cons (j_set (i := 2) sc__law_taken.nd (j_ix (j_rval (j_ix (j_rvar hT.symm 0) (j_rval (j_int hT.symm)))) (j_rval (j_sub (j_rval (j_ix (j_rvar hT.symm 0) (j_rval (j_int hT.symm)))) (j_rval (j_int hT.symm))))))
  (js_cons (j_sub_store (i := 0) (j_mod (j_rval (jInt (ja_cons (j_rval (j_add (j_rval (j_add (j_rval (j_mul (j_rval (j_ix (j_rvar hT.symm 0) (j_rval (j_int hT.symm)))) (j_rval (j_int hT.symm)))) (j_rvar hT.symm 2))) (j_rval (j_int hT.symm)))) (ja_nil hT.symm)) B)) (j_rval (j_int hT.symm))) (j_rval (j_int hT.symm)) rfl)
  (js_cons (j_ifs (jtGe (j_rvar hT.symm 2) (j_rval (j_pow (j_rval (j_int hT.symm)) (j_rval (j_int hT.symm))))) (js_one (j_sub_store (i := 0) (j_fdiv (j_rvar hT.symm 2) (j_rvar hT.symm 1)) (j_rval (j_int hT.symm)) rfl)) (js_nil hT.symm))
  (js_one (j_ret (j_mod (j_rval (jInt (ja_cons (j_rvar hT.symm 2) (ja_nil hT.symm)) B)) (j_rvar hT.symm 1))))))))))
abbrev s__law_pick : Stmt := (top 14)
theorem sc__law_pick : FnScope ["row", "kinds"] ["row", "kinds"] (defScope s__law_pick) := C8.fnScope_by (by decide +kernel)
def b__law_pick : SF :=
  (sRet (f2 ixD (rVar 1) (rVal (eCallL F__law_taken (aCons (rVar 0) (aCons (rVal (eCallB (on1 lenD) (aCons (rVar 1) aNil))) aNil))))))
def F__law_pick : FL := fnL 0 b__law_pick
theorem cal__law_pick {P : Program} {w : World} {K : PySem.W.Frag} {mg : Str → Option Value} {base : Heap} {T : Tab} (hT : T.K = K) (B : NoB mg) {f : Addr} {fd : FuncData} (F : Fun K "_law_pick" "_law_pick" s__law_pick f fd) (hm : mg "_law_pick" = some (.ref f)) (c__law_taken : CalL P w K mg base T 1 "_law_taken" 1 F__law_taken) : CalL P w K mg base T 2 "_law_pick" 1 F__law_pick :=
  calL F sc__law_pick hm (F.binds (ps := ["row", "kinds"]) fun _ _ _ _ _ _ us hl => match us, hl with | [_, _], _ => rfl) fun cdv A outer s H E b => have hu := Room.u b.hr;
  (js_one (j_ret (j_ix (j_rvar hT.symm 1) (j_rval (jcl c__law_taken b.hr b.tk (ja_cons (j_rvar hT.symm 0) (ja_cons (j_rval (jLen (ja_cons (j_rvar hT.symm 1) (ja_nil hT.symm)) B)) (ja_nil hT.symm))))))))
def _law_raised_y1 : SF :=
  (sCons (sIf (tB (f2 eqD (rVar 0) (rVal (eC (.int 0))))) (sRaise 0 [0] (aCons (rVal (eVar 1)) aNil)) sNil)
  (sCons (sIf (tB (f2 eqD (rVar 0) (rVal (eC (.int 1))))) (sRaise 1 [0] (aCons (rVal (eVar 1)) aNil)) sNil)
  (sCons (sIf (tB (f2 eqD (rVar 0) (rVal (eC (.int 2))))) (sRaise 2 [1] (aCons (rVal (eVar 1)) aNil)) sNil)
  (sCons (sIf (tB (f2 eqD (rVar 0) (rVal (eC (.int 3))))) (sRaise 3 [0] (aCons (rVal (eVar 1)) aNil)) sNil)
  (sCons (sIf (tB (f2 eqD (rVar 0) (rVal (eC (.int 4))))) (sRaise 4 [2] (aCons (rVal (eVar 1)) aNil)) sNil)
  (sCons (sIf (tB (f2 eqD (rVar 0) (rVal (eC (.int 5))))) (sRaise 5 [3] (aCons (rVal (eVar 1)) aNil)) sNil)
  (sCons (sIf (tB (f2 eqD (rVar 0) (rVal (eC (.int 6))))) (sRaise 6 [0] (aCons (rVal (eVar 1)) aNil)) sNil)
  (sCons (sIf (tB (f2 eqD (rVar 0) (rVal (eC (.int 7))))) (sRaise 7 [0] (aCons (rVal (eVar 1)) aNil)) sNil)
  (sCons (sIf (tB (f2 eqD (rVar 0) (rVal (eC (.int 8))))) (sRaise 8 [5, 4] (aCons (rVal (eVar 1)) (aCons (rVal (eVar 2)) aNil))) sNil)
  (sRaise0 9))))))))))
def _law_raised_x1 : SF :=
  (sCons (sSet 4 (eSeq .lst (aCons (rVal (eIsX 3 tbl_BadNumber)) (aCons (rVal (eIsX 3 tbl_BadName)) (aCons (rVal (eIsX 3 tbl_BadItem)) (aCons (rVal (eIsX 3 tbl_BadEvent)) (aCons (rVal (eIsX 3 tbl_BadNote)) aNil)))))))
  (sCons (sSet 4 (f2 addD (rVar 4) (rVal (eSeq .lst (aCons (rVal (eIsX 3 tbl_TooMany)) (aCons (rVal (eIsX 3 tbl_Unknown)) (aCons (rVal (eIsX 3 tbl_Taken)) (aCons (rVal (eIsX 3 tbl_Refused)) (aCons (rVal (eIsX 3 tbl_NothingToUndo)) aNil)))))))))
  (sCons (sIf (tOrJ (tNotJ (tB (eIsX 3 tbl_ValueError))) (tOrJ (tB (eIsX 3 tbl_LookupError)) (tB (eIsX 3 tbl_RuntimeError)))) (sRet (eC .non)) sNil)
  (sCons (sSet 5 (eC .non))
  (sCons (sIf (tB (f2 (inD false) (rVar 0) (rVal (eSeq .lst (aCons (rVal (eC (.int 0))) (aCons (rVal (eC (.int 1))) (aCons (rVal (eC (.int 3))) (aCons (rVal (eC (.int 6))) (aCons (rVal (eC (.int 7))) aNil))))))))) (sSet 5 (eXf 3 0 okX_value)) sNil)
  (sCons (sIf (tB (f2 eqD (rVar 0) (rVal (eC (.int 2))))) (sSet 5 (eXf 3 1 okX_index)) sNil)
  (sCons (sIf (tB (f2 eqD (rVar 0) (rVal (eC (.int 4))))) (sSet 5 (eXf 3 2 okX_line)) sNil)
  (sCons (sIf (tB (f2 eqD (rVar 0) (rVal (eC (.int 5))))) (sSet 5 (eXf 3 3 okX_limit)) sNil)
  (sCons (sIf (tB (f2 eqD (rVar 0) (rVal (eC (.int 8))))) (sSet 5 (eSeq .tup (aCons (rVal (eXf 3 4 okX_reason)) (aCons (rVal (eXf 3 5 okX_names)) aNil)))) sNil)
  (sRet (eSeq .tup (aCons (rVal (eVar 4)) (aCons (rVal (eVar 5)) aNil)))))))))))))
abbrev s__law_raised : Stmt := (top 16)
theorem sc__law_raised : FnScope ["number", "value", "named", "e", "kinds", "field"] ["number", "value", "named"] (defScope s__law_raised) := C8.fnScope_by (by decide +kernel)
def b__law_raised : SF :=
  (sTryAs 3 hd_StagesError _law_raised_y1 _law_raised_x1)
def F__law_raised : FV := fnV 3 b__law_raised
theorem cal__law_raised {P : Program} {w : World} {K : PySem.W.Frag} {mg : Str → Option Value} {base : Heap} {T : Tab} (hT : T.K = K) (B : NoB mg) {f : Addr} {fd : FuncData} (F : Fun K "_law_raised" "_law_raised" s__law_raised f fd) (hm : mg "_law_raised" = some (.ref f)) (x_BadNumber : ExT P w K mg base T 1 "BadNumber" 0 [0] 1) (x_BadName : ExT P w K mg base T 1 "BadName" 1 [0] 1) (x_BadItem : ExT P w K mg base T 1 "BadItem" 2 [1] 1) (x_BadEvent : ExT P w K mg base T 1 "BadEvent" 3 [0] 1) (x_BadNote : ExT P w K mg base T 1 "BadNote" 4 [2] 1) (x_TooMany : ExT P w K mg base T 1 "TooMany" 5 [3] 1) (x_Unknown : ExT P w K mg base T 1 "Unknown" 6 [0] 1) (x_Taken : ExT P w K mg base T 1 "Taken" 7 [0] 1) (x_Refused : ExT P w K mg base T 1 "Refused" 8 [5, 4] 2) (h_StagesError : HdT K mg T "StagesError" hd_StagesError) (e0_NothingToUndo : Ex0 K mg T "NothingToUndo" 9) (is_BadNumber : IsTn K mg T "BadNumber" tbl_BadNumber) (is_BadName : IsTn K mg T "BadName" tbl_BadName) (is_BadItem : IsTn K mg T "BadItem" tbl_BadItem) (is_BadEvent : IsTn K mg T "BadEvent" tbl_BadEvent) (is_BadNote : IsTn K mg T "BadNote" tbl_BadNote) (is_TooMany : IsTn K mg T "TooMany" tbl_TooMany) (is_Unknown : IsTn K mg T "Unknown" tbl_Unknown) (is_Taken : IsTn K mg T "Taken" tbl_Taken) (is_Refused : IsTn K mg T "Refused" tbl_Refused) (is_NothingToUndo : IsTn K mg T "NothingToUndo" tbl_NothingToUndo) (is_ValueError : IsTn K mg T "ValueError" tbl_ValueError) (is_LookupError : IsTn K mg T "LookupError" tbl_LookupError) (is_RuntimeError : IsTn K mg T "RuntimeError" tbl_RuntimeError) (xf_value : XfT K T 0 "value" okX_value) (xf_index : XfT K T 1 "index" okX_index) (xf_line : XfT K T 2 "line" okX_line) (xf_limit : XfT K T 3 "limit" okX_limit) (xf_reason : XfT K T 4 "reason" okX_reason) (xf_names : XfT K T 5 "names" okX_names) (hinj : ∀ a b, T.fnm a = T.fnm b → a = b) : CalV P w K mg base T 3 "_law_raised" 3 F__law_raised :=
  calV F sc__law_raised hm (F.binds (ps := ["number", "value", "named"]) fun _ _ _ _ _ _ us hl => match us, hl with | [_, _, _], _ => rfl) fun cdv A outer s H E b => have hu := Room.u b.hr;
  (js_one (jTryAs (i := 3) hT.symm sc__law_raised.nd h_StagesError b.tk (fun W pn xe tk hp => (js_cons (j_ifs (jtEq hu (j_rvar hT.symm 0) (j_rval (j_int hT.symm))) (js_one (jRaise x_BadNumber b.hr tk (ja_cons (j_rval (j_var hT.symm 1)) (ja_nil hT.symm)))) (js_nil hT.symm))
  (js_cons (j_ifs (jtEq hu (j_rvar hT.symm 0) (j_rval (j_int hT.symm))) (js_one (jRaise x_BadName b.hr tk (ja_cons (j_rval (j_var hT.symm 1)) (ja_nil hT.symm)))) (js_nil hT.symm))
  (js_cons (j_ifs (jtEq hu (j_rvar hT.symm 0) (j_rval (j_int hT.symm))) (js_one (jRaise x_BadItem b.hr tk (ja_cons (j_rval (j_var hT.symm 1)) (ja_nil hT.symm)))) (js_nil hT.symm))
  (js_cons (j_ifs (jtEq hu (j_rvar hT.symm 0) (j_rval (j_int hT.symm))) (js_one (jRaise x_BadEvent b.hr tk (ja_cons (j_rval (j_var hT.symm 1)) (ja_nil hT.symm)))) (js_nil hT.symm))
  (js_cons (j_ifs (jtEq hu (j_rvar hT.symm 0) (j_rval (j_int hT.symm))) (js_one (jRaise x_BadNote b.hr tk (ja_cons (j_rval (j_var hT.symm 1)) (ja_nil hT.symm)))) (js_nil hT.symm))
  (js_cons (j_ifs (jtEq hu (j_rvar hT.symm 0) (j_rval (j_int hT.symm))) (js_one (jRaise x_TooMany b.hr tk (ja_cons (j_rval (j_var hT.symm 1)) (ja_nil hT.symm)))) (js_nil hT.symm))
  (js_cons (j_ifs (jtEq hu (j_rvar hT.symm 0) (j_rval (j_int hT.symm))) (js_one (jRaise x_Unknown b.hr tk (ja_cons (j_rval (j_var hT.symm 1)) (ja_nil hT.symm)))) (js_nil hT.symm))
  (js_cons (j_ifs (jtEq hu (j_rvar hT.symm 0) (j_rval (j_int hT.symm))) (js_one (jRaise x_Taken b.hr tk (ja_cons (j_rval (j_var hT.symm 1)) (ja_nil hT.symm)))) (js_nil hT.symm))
  (js_cons (j_ifs (jtEq hu (j_rvar hT.symm 0) (j_rval (j_int hT.symm))) (js_one (jRaise x_Refused b.hr tk (ja_cons (j_rval (j_var hT.symm 1)) (ja_cons (j_rval (j_var hT.symm 2)) (ja_nil hT.symm))))) (js_nil hT.symm))
  (js_one (jRaise0n hT.symm e0_NothingToUndo tk)))))))))))) (fun a oe cls d pn z v => (js_cons (j_set (i := 4) sc__law_raised.nd (j_frz (j_lstO (ja_cons (j_rval (jIsXn hT.symm is_BadNumber z v B)) (ja_cons (j_rval (jIsXn hT.symm is_BadName z v B)) (ja_cons (j_rval (jIsXn hT.symm is_BadItem z v B)) (ja_cons (j_rval (jIsXn hT.symm is_BadEvent z v B)) (ja_cons (j_rval (jIsXn hT.symm is_BadNote z v B)) (ja_nil hT.symm)))))))))
  (js_cons (j_set (i := 4) sc__law_raised.nd (j_add (j_rvar hT.symm 4) (j_rval (j_frz (j_lstO (ja_cons (j_rval (jIsXn hT.symm is_TooMany z v B)) (ja_cons (j_rval (jIsXn hT.symm is_Unknown z v B)) (ja_cons (j_rval (jIsXn hT.symm is_Taken z v B)) (ja_cons (j_rval (jIsXn hT.symm is_Refused z v B)) (ja_cons (j_rval (jIsXn hT.symm is_NothingToUndo z v B)) (ja_nil hT.symm)))))))))))
  (js_cons (j_ifs (JW.jt (j_or (j_not (j_test (jIsXn hT.symm is_ValueError z v B))) (j_or (j_test (jIsXn hT.symm is_LookupError z v B)) (j_or1 (j_test (jIsXn hT.symm is_RuntimeError z v B)))))) (js_one (j_ret (j_non hT.symm))) (js_nil hT.symm))
  (js_cons (j_set (i := 5) sc__law_raised.nd (j_non hT.symm))
  (js_cons (j_ifs (jtIn hu (j_rvar hT.symm 0) (j_rval (j_frz (j_lstO (ja_cons (j_rval (j_int hT.symm)) (ja_cons (j_rval (j_int hT.symm)) (ja_cons (j_rval (j_int hT.symm)) (ja_cons (j_rval (j_int hT.symm)) (ja_cons (j_rval (j_int hT.symm)) (ja_nil hT.symm)))))))))) (js_one (j_set (i := 5) sc__law_raised.nd (jXf hT.symm hinj xf_value z v))) (js_nil hT.symm))
  (js_cons (j_ifs (jtEq hu (j_rvar hT.symm 0) (j_rval (j_int hT.symm))) (js_one (j_set (i := 5) sc__law_raised.nd (jXf hT.symm hinj xf_index z v))) (js_nil hT.symm))
  (js_cons (j_ifs (jtEq hu (j_rvar hT.symm 0) (j_rval (j_int hT.symm))) (js_one (j_set (i := 5) sc__law_raised.nd (jXf hT.symm hinj xf_line z v))) (js_nil hT.symm))
  (js_cons (j_ifs (jtEq hu (j_rvar hT.symm 0) (j_rval (j_int hT.symm))) (js_one (j_set (i := 5) sc__law_raised.nd (jXf hT.symm hinj xf_limit z v))) (js_nil hT.symm))
  (js_cons (j_ifs (jtEq hu (j_rvar hT.symm 0) (j_rval (j_int hT.symm))) (js_one (j_set (i := 5) sc__law_raised.nd (j_tup (ja_cons (j_rval (jXf hT.symm hinj xf_reason z v)) (ja_cons (j_rval (jXf hT.symm hinj xf_names z v)) (ja_nil hT.symm)))))) (js_nil hT.symm))
  (js_one (j_ret (j_tup (ja_cons (j_rval (j_var hT.symm 4)) (ja_cons (j_rval (j_var hT.symm 5)) (ja_nil hT.symm))))))))))))))))))
def law_s1 : SF :=
  (sSetO 1 (eSeq .lst (aCons (rVal (eVar 0)) (aCons (rVal (eC (.int 0))) (aCons (rVal (eC (.int 53))) (aCons (rVal (eC (.int 0))) aNil))))))
def law_e1 : EF :=
  (f2 eqD (rVar 8) (rVar 2))
def law_b1 : SF :=
  (sCons (sSet 4 (eCallL F__law_pick (aCons (rVar 1) (aCons (rVal (eSeq .lst (aCons (rVal (eC .non)) (aCons (rVal (eC (.int 7))) (aCons (rVal (eC (.str "x"))) (aCons (rVal (eSeq .tup (aCons (rVal (eC (.int 1))) (aCons (rVal (eC (.int 2))) aNil)))) (aCons (rVal (eC (.bl true))) (aCons (rVal (eCallL F__law_taken (aCons (rVar 1) (aCons (rVal (f2 powD (rVal (eC (.int 10))) (rVal (eC (.int 9))))) aNil)))) aNil)))))))) aNil))))
  (sCons (sSet 5 (eCallL F__law_pick (aCons (rVar 1) (aCons (rVal (eSeq .lst (aCons (rVal (eSeq .tup aNil)) (aCons (rVal (eSeq .tup (aCons (rVal (eC (.str "a"))) aNil))) aNil)))) aNil))))
  (sCons (sSet 6 (eCall F__law_raised [] (aCons (rVal (eVar 2)) (aCons (rVal (eVar 4)) (aCons (rVal (eVar 5)) aNil)))))
  (sCons (sIf (tOrJ (tB (f2 isNonD (rVar 6) (rVal (eC .non)))) (tB (f2 neD (rVal (f2 ixD (rVar 6) (rVal (eC (.int 0))))) (rVal (eLc (iRng rng1 (aCons (rVal (eC (.int 10))) aNil)) (bName 8) [8] tYesJ law_e1))))) (sRet (eC (.bl false))) sNil)
  (sCons (sSet 7 (eVar 4))
  (sCons (sIf (tB (f2 eqD (rVar 2) (rVal (eC (.int 8))))) (sSet 7 (eSeq .tup (aCons (rVal (eVar 4)) (aCons (rVal (eVar 5)) aNil)))) sNil)
  (sIf (tAndJ (tB (f2 ltD (rVar 2) (rVal (eC (.int 9))))) (tOrJ (tB (f2 neD (rVal (f2 ixD (rVar 6) (rVal (eC (.int 1))))) (rVar 7))) (tB (f2 neD (rVal (eIsT "bool" (rVal (f2 ixD (rVar 6) (rVal (eC (.int 1))))))) (rVal (eIsT "bool" (rVar 7))))))) (sRet (eC (.bl false))) sNil)))))))
def law_s2 : SF :=
  (sFor (iRng rng1 (aCons (rVal (eC (.int 10))) aNil)) (bName 2)
  law_b1)
def law_s3 : SF :=
  (sSet 3 (eSeq .lst (aCons (rVal (eKwF id 0 (aCons (rVal (eC (.int 1))) aNil))) (aCons (rVal (eKwF id 0 (aCons (rVal (eC (.str "a"))) aNil))) (aCons (rVal (eKwF id 0 (aCons (rVal (eC (.int 4))) aNil))) (aCons (rVal (eKwF id 0 (aCons (rVal (eC (.int 5))) aNil))) (aCons (rVal (eKwF id 0 (aCons (rVal (eC (.int 6))) aNil))) aNil)))))))
def law_s4 : SF :=
  (sSet 3 (f2 addD (rVar 3) (rVal (eSeq .lst (aCons (rVal (eKwF id 0 (aCons (rVal (eC (.int 7))) aNil))) (aCons (rVal (eKwF id 0 (aCons (rVal (eC (.int 8))) aNil))) (aCons (rVal (eKwF id 0 (aCons (rVal (eC (.int 9))) aNil))) (aCons (rVal (eKwF id 1 (aCons (rVal (eC (.str "r"))) (aCons (rVal (eC (.int 11))) aNil)))) (aCons (rVal (eKwF List.reverse 0 (aCons (rVal (eC (.int 1))) (aCons (rVal (eC (.str "s"))) aNil)))) aNil)))))))))
def law_s5 : SF :=
  (sRet (eCall (F__law_alike 6) [] (aCons (rVal (eVar 3)) (aCons (rVal (eSeq .lst (aCons (rVal (eC (.int 1))) (aCons (rVal (eC (.str "a"))) (aCons (rVal (eC (.int 4))) (aCons (rVal (eC (.int 5))) (aCons (rVal (eC (.int 6))) (aCons (rVal (eC (.int 7))) (aCons (rVal (eC (.int 8))) (aCons (rVal (eC (.int 9))) (aCons (rVal (eC (.int 11))) (aCons (rVal (eC (.str "s"))) aNil)))))))))))) aNil))))
abbrev s_law : Stmt := (top 17)
theorem sc_law : FnScope ["script", "row", "number", "made", "value", "named", "told", "due", "k"] ["script"] (defScope s_law) := C8.fnScope_by (by decide +kernel)
def b_law : SF :=
  (sCons law_s1
  (sCons law_s2
  (sCons law_s3
  (sCons law_s4
  law_s5))))
def F_law : FV := fnV 8 b_law
theorem ok_law {P : Program} {w : World} {K : PySem.W.Frag} {mg : Str → Option Value} {base : Heap} {T : Tab} (hT : T.K = K) (B : NoB mg) {f : Addr} {fd : FuncData} (F : Fun K "law" "law" s_law f fd) (hm : mg "law" = some (.ref f)) (c__law_pick : CalL P w K mg base T 2 "_law_pick" 1 F__law_pick) (c__law_taken : CalL P w K mg base T 1 "_law_taken" 1 F__law_taken) (c__law_raised : CalV P w K mg base T 3 "_law_raised" 3 F__law_raised) (c__law_alike : CalV P w K mg base T 7 "_law_alike" 2 (F__law_alike 6)) (kw_BadNumber_value_value : KwT P w K mg base 1 "BadNumber" "value" ["value"] id 0) (kw_BadName_value_value : KwT P w K mg base 1 "BadName" "value" ["value"] id 0) (kw_BadItem_index_index : KwT P w K mg base 1 "BadItem" "index" ["index"] id 0) (kw_BadEvent_value_value : KwT P w K mg base 1 "BadEvent" "value" ["value"] id 0) (kw_BadNote_line_line : KwT P w K mg base 1 "BadNote" "line" ["line"] id 0) (kw_TooMany_limit_limit : KwT P w K mg base 1 "TooMany" "limit" ["limit"] id 0) (kw_Unknown_value_value : KwT P w K mg base 1 "Unknown" "value" ["value"] id 0) (kw_Taken_value_value : KwT P w K mg base 1 "Taken" "value" ["value"] id 0) (kw_Refused_names_reason_names : KwT P w K mg base 1 "Refused" "names" ["reason", "names"] id 1) (kw_Refused_reason_names_reason : KwT P w K mg base 1 "Refused" "reason" ["names", "reason"] List.reverse 0) : FnG P w K mg base (L2.CX P w) 8 f fd ["script"] (spV T 1 F_law) :=
  fnG_V F sc_law rfl fun cdv A outer s H E gd b => have hu := Room.u b.hr;
  (js_cons (j_setO (i := 1) sc_law.nd (j_lstO (ja_cons (j_rval (j_var hT.symm 0)) (ja_cons (j_rval (j_int hT.symm)) (ja_cons (j_rval (j_int hT.symm)) (ja_cons (j_rval (j_int hT.symm)) (ja_nil hT.symm)))))))
  (js_cons (j_for b.hp rfl (ji_range1 (ja_cons (j_rval (j_int hT.symm)) (ja_nil hT.symm)) B.range) (jg_name (i := 2) sc_law.nd)
  (js_cons (j_set (i := 4) sc_law.nd (jcl c__law_pick b.hr b.tk (ja_cons (j_rvar hT.symm 1) (ja_cons (j_rval (j_frz (j_lstO (ja_cons (j_rval (j_non hT.symm)) (ja_cons (j_rval (j_int hT.symm)) (ja_cons (j_rval (j_str hT.symm)) (ja_cons (j_rval (j_tup (ja_cons (j_rval (j_int hT.symm)) (ja_cons (j_rval (j_int hT.symm)) (ja_nil hT.symm))))) (ja_cons (j_rval (j_bl hT.symm)) (ja_cons (j_rval (jcl c__law_taken b.hr b.tk (ja_cons (j_rvar hT.symm 1) (ja_cons (j_rval (j_pow (j_rval (j_int hT.symm)) (j_rval (j_int hT.symm)))) (ja_nil hT.symm))))) (ja_nil hT.symm)))))))))) (ja_nil hT.symm)))))
  (js_cons (j_set (i := 5) sc_law.nd (jcl c__law_pick b.hr b.tk (ja_cons (j_rvar hT.symm 1) (ja_cons (j_rval (j_frz (j_lstO (ja_cons (j_rval (j_tup (ja_nil hT.symm))) (ja_cons (j_rval (j_tup (ja_cons (j_rval (j_str hT.symm)) (ja_nil hT.symm)))) (ja_nil hT.symm)))))) (ja_nil hT.symm)))))
  (js_cons (j_set (i := 6) sc_law.nd (jc c__law_raised b.hr b.tk (ja_cons (j_rval (j_var hT.symm 2)) (ja_cons (j_rval (j_var hT.symm 4)) (ja_cons (j_rval (j_var hT.symm 5)) (ja_nil hT.symm))))))
  (js_cons (j_ifs (JW.jt (j_or (jtIsN (j_rvar hT.symm 6) (j_rval (j_non hT.symm))) (j_or1 (jtNe hu (j_rval (j_ix (j_rvar hT.symm 6) (j_rval (j_int hT.symm)))) (j_rval (j_frz (j_lcO (own := [("k", 8)]) rfl sc_law.nd (ji_range1 (ja_cons (j_rval (j_int hT.symm)) (ja_nil hT.symm)) B.range) (blkOk_by (by kernel_rfl)) (by decide) (fun s H C cl fp => (jg_name (i := 8) sc_law.nd)) (fun s H C cl fp => jts_nil) (fun s H C cl fp => (jeEq hu (j_rvar hT.symm 8) (j_rvar hT.symm 2)))))))))) (js_one (j_ret (j_bl hT.symm))) (js_nil hT.symm))
  (js_cons (j_set (i := 7) sc_law.nd (j_var hT.symm 4))
  (js_cons (j_ifs (jtEq hu (j_rvar hT.symm 2) (j_rval (j_int hT.symm))) (js_one (j_set (i := 7) sc_law.nd (j_tup (ja_cons (j_rval (j_var hT.symm 4)) (ja_cons (j_rval (j_var hT.symm 5)) (ja_nil hT.symm)))))) (js_nil hT.symm))
  (js_one (j_ifs (JW.jt (j_and (jtLt (j_rvar hT.symm 2) (j_rval (j_int hT.symm))) (j_and1 (JW.jt (j_or (jtNe hu (j_rval (j_ix (j_rvar hT.symm 6) (j_rval (j_int hT.symm)))) (j_rvar hT.symm 7)) (j_or1 (jtNe hu (j_rval (j_isT (j_rval (j_ix (j_rvar hT.symm 6) (j_rval (j_int hT.symm)))) (ty1 B.bool (by decide +kernel)) B.isi)) (j_rval (j_isT (j_rvar hT.symm 7) (ty1 B.bool (by decide +kernel)) B.isi))))))))) (js_one (j_ret (j_bl hT.symm))) (js_nil hT.symm))))))))))
  (js_cons (j_set (i := 3) sc_law.nd (j_frz (j_lstO (ja_cons (j_rval (jKw kw_BadNumber_value_value b.hr (jk_cons (j_int hT.symm) (jk_nil hT.symm)))) (ja_cons (j_rval (jKw kw_BadName_value_value b.hr (jk_cons (j_str hT.symm) (jk_nil hT.symm)))) (ja_cons (j_rval (jKw kw_BadItem_index_index b.hr (jk_cons (j_int hT.symm) (jk_nil hT.symm)))) (ja_cons (j_rval (jKw kw_BadEvent_value_value b.hr (jk_cons (j_int hT.symm) (jk_nil hT.symm)))) (ja_cons (j_rval (jKw kw_BadNote_line_line b.hr (jk_cons (j_int hT.symm) (jk_nil hT.symm)))) (ja_nil hT.symm)))))))))
  (js_cons (j_set (i := 3) sc_law.nd (j_add (j_rvar hT.symm 3) (j_rval (j_frz (j_lstO (ja_cons (j_rval (jKw kw_TooMany_limit_limit b.hr (jk_cons (j_int hT.symm) (jk_nil hT.symm)))) (ja_cons (j_rval (jKw kw_Unknown_value_value b.hr (jk_cons (j_int hT.symm) (jk_nil hT.symm)))) (ja_cons (j_rval (jKw kw_Taken_value_value b.hr (jk_cons (j_int hT.symm) (jk_nil hT.symm)))) (ja_cons (j_rval (jKw kw_Refused_names_reason_names b.hr (jk_cons (j_str hT.symm) (jk_cons (j_int hT.symm) (jk_nil hT.symm))))) (ja_cons (j_rval (jKw kw_Refused_reason_names_reason b.hr (jk_cons (j_int hT.symm) (jk_cons (j_str hT.symm) (jk_nil hT.symm))))) (ja_nil hT.symm)))))))))))
  (js_one (j_ret (jc c__law_alike b.hr b.tk (ja_cons (j_rval (j_var hT.symm 3)) (ja_cons (j_rval (j_frz (j_lstO (ja_cons (j_rval (j_int hT.symm)) (ja_cons (j_rval (j_str hT.symm)) (ja_cons (j_rval (j_int hT.symm)) (ja_cons (j_rval (j_int hT.symm)) (ja_cons (j_rval (j_int hT.symm)) (ja_cons (j_rval (j_int hT.symm)) (ja_cons (j_rval (j_int hT.symm)) (ja_cons (j_rval (j_int hT.symm)) (ja_cons (j_rval (j_int hT.symm)) (ja_cons (j_rval (j_str hT.symm)) (ja_nil hT.symm)))))))))))))) (ja_nil hT.symm))))))))))
end K09

set_option Elab.async false
set_option linter.all false
set_option maxRecDepth 100000
set_option maxHeartbeats 4000000
namespace K09
open PySem PySem.Spec PyProof.Rows L2 J
theorem e_taken : F__law_taken = takenF := rfl
theorem e_alike : ∀ n, F__law_alike n = alikeF n
  | 0 => rfl
  | n + 1 => by show fnV 1 (b__law_alike (F__law_alike n)) = fnV 1 (b_alike (alikeF n)); rw [e_alike n]; rfl
theorem pick_ok (ns : List Int) (s : Dr) (hs : s.ok) (ds : List D) (h1 : 1 ≤ ds.length) (h2 : ds.length < 1000000) : ∃ x s', F__law_pick (encR ns s) [.lst ds] = some (x, encR ns s') ∧ s'.ok ∧ x ∈ ds := by
  obtain ⟨v, s', e, o, l, u⟩ := taken_ok ns s hs ds.length (by omega) (by omega)
  have hv : v.toNat < ds.length := by omega
  have ha : L2.atI ds v = some ds[v.toNat] := by
    have z := atI_nat' ds v.toNat
    rw [show ((v.toNat : Nat) : Int) = v by omega, List.getElem?_eq_getElem hv] at z
    exact z
  refine ⟨ds[v.toNat], s', ?_, o, List.getElem_mem hv⟩
  simp [F__law_pick, b__law_pick, e_taken, e, ha]
def fld (n : Nat) (v nm : D) : D := if n < 8 then v else if n = 8 then .tup [v, nm] else .non
def flags (n : Nat) : List D := (List.range 10).map fun k => .bl (decide (k = n))
theorem ad10 (a b c d e f g h i j : D) : addD (.lst [a, b, c, d, e]) (.lst [f, g, h, i, j]) = some (.lst [a, b, c, d, e, f, g, h, i, j]) := add_ll _ _ (by simp)
theorem raised_0 (v nm : D) : F__law_raised [.int 0, v, nm] = .ok (.tup [.lst [.bl true, .bl false, .bl false, .bl false, .bl false, .bl false, .bl false, .bl false, .bl false, .bl false], v]) := by
  simp [F__law_raised, b__law_raised, _law_raised_y1, _law_raised_x1, eqD, okE, okEs, eqv, sRaise0, eIsX, hd_StagesError, noEx, isEx, tbl_BadNumber, tbl_BadName, tbl_BadItem, tbl_BadEvent, tbl_BadNote, tbl_TooMany, tbl_Unknown, tbl_Taken, tbl_Refused, tbl_NothingToUndo, tbl_ValueError, tbl_LookupError, tbl_RuntimeError, inD, okX_value, okX_index, okX_line, okX_limit, okX_reason, okX_names, fget, ad10]
theorem raised_1 (v nm : D) : F__law_raised [.int 1, v, nm] = .ok (.tup [.lst [.bl false, .bl true, .bl false, .bl false, .bl false, .bl false, .bl false, .bl false, .bl false, .bl false], v]) := by
  simp [F__law_raised, b__law_raised, _law_raised_y1, _law_raised_x1, eqD, okE, okEs, eqv, sRaise0, eIsX, hd_StagesError, noEx, isEx, tbl_BadNumber, tbl_BadName, tbl_BadItem, tbl_BadEvent, tbl_BadNote, tbl_TooMany, tbl_Unknown, tbl_Taken, tbl_Refused, tbl_NothingToUndo, tbl_ValueError, tbl_LookupError, tbl_RuntimeError, inD, okX_value, okX_index, okX_line, okX_limit, okX_reason, okX_names, fget, ad10]
theorem raised_2 (v nm : D) : F__law_raised [.int 2, v, nm] = .ok (.tup [.lst [.bl false, .bl false, .bl true, .bl false, .bl false, .bl false, .bl false, .bl false, .bl false, .bl false], v]) := by
  simp [F__law_raised, b__law_raised, _law_raised_y1, _law_raised_x1, eqD, okE, okEs, eqv, sRaise0, eIsX, hd_StagesError, noEx, isEx, tbl_BadNumber, tbl_BadName, tbl_BadItem, tbl_BadEvent, tbl_BadNote, tbl_TooMany, tbl_Unknown, tbl_Taken, tbl_Refused, tbl_NothingToUndo, tbl_ValueError, tbl_LookupError, tbl_RuntimeError, inD, okX_value, okX_index, okX_line, okX_limit, okX_reason, okX_names, fget, ad10]
theorem raised_3 (v nm : D) : F__law_raised [.int 3, v, nm] = .ok (.tup [.lst [.bl false, .bl false, .bl false, .bl true, .bl false, .bl false, .bl false, .bl false, .bl false, .bl false], v]) := by
  simp [F__law_raised, b__law_raised, _law_raised_y1, _law_raised_x1, eqD, okE, okEs, eqv, sRaise0, eIsX, hd_StagesError, noEx, isEx, tbl_BadNumber, tbl_BadName, tbl_BadItem, tbl_BadEvent, tbl_BadNote, tbl_TooMany, tbl_Unknown, tbl_Taken, tbl_Refused, tbl_NothingToUndo, tbl_ValueError, tbl_LookupError, tbl_RuntimeError, inD, okX_value, okX_index, okX_line, okX_limit, okX_reason, okX_names, fget, ad10]
theorem raised_4 (v nm : D) : F__law_raised [.int 4, v, nm] = .ok (.tup [.lst [.bl false, .bl false, .bl false, .bl false, .bl true, .bl false, .bl false, .bl false, .bl false, .bl false], v]) := by
  simp [F__law_raised, b__law_raised, _law_raised_y1, _law_raised_x1, eqD, okE, okEs, eqv, sRaise0, eIsX, hd_StagesError, noEx, isEx, tbl_BadNumber, tbl_BadName, tbl_BadItem, tbl_BadEvent, tbl_BadNote, tbl_TooMany, tbl_Unknown, tbl_Taken, tbl_Refused, tbl_NothingToUndo, tbl_ValueError, tbl_LookupError, tbl_RuntimeError, inD, okX_value, okX_index, okX_line, okX_limit, okX_reason, okX_names, fget, ad10]
theorem raised_5 (v nm : D) : F__law_raised [.int 5, v, nm] = .ok (.tup [.lst [.bl false, .bl false, .bl false, .bl false, .bl false, .bl true, .bl false, .bl false, .bl false, .bl false], v]) := by
  simp [F__law_raised, b__law_raised, _law_raised_y1, _law_raised_x1, eqD, okE, okEs, eqv, sRaise0, eIsX, hd_StagesError, noEx, isEx, tbl_BadNumber, tbl_BadName, tbl_BadItem, tbl_BadEvent, tbl_BadNote, tbl_TooMany, tbl_Unknown, tbl_Taken, tbl_Refused, tbl_NothingToUndo, tbl_ValueError, tbl_LookupError, tbl_RuntimeError, inD, okX_value, okX_index, okX_line, okX_limit, okX_reason, okX_names, fget, ad10]
theorem raised_6 (v nm : D) : F__law_raised [.int 6, v, nm] = .ok (.tup [.lst [.bl false, .bl false, .bl false, .bl false, .bl false, .bl false, .bl true, .bl false, .bl false, .bl false], v]) := by
  simp [F__law_raised, b__law_raised, _law_raised_y1, _law_raised_x1, eqD, okE, okEs, eqv, sRaise0, eIsX, hd_StagesError, noEx, isEx, tbl_BadNumber, tbl_BadName, tbl_BadItem, tbl_BadEvent, tbl_BadNote, tbl_TooMany, tbl_Unknown, tbl_Taken, tbl_Refused, tbl_NothingToUndo, tbl_ValueError, tbl_LookupError, tbl_RuntimeError, inD, okX_value, okX_index, okX_line, okX_limit, okX_reason, okX_names, fget, ad10]
theorem raised_7 (v nm : D) : F__law_raised [.int 7, v, nm] = .ok (.tup [.lst [.bl false, .bl false, .bl false, .bl false, .bl false, .bl false, .bl false, .bl true, .bl false, .bl false], v]) := by
  simp [F__law_raised, b__law_raised, _law_raised_y1, _law_raised_x1, eqD, okE, okEs, eqv, sRaise0, eIsX, hd_StagesError, noEx, isEx, tbl_BadNumber, tbl_BadName, tbl_BadItem, tbl_BadEvent, tbl_BadNote, tbl_TooMany, tbl_Unknown, tbl_Taken, tbl_Refused, tbl_NothingToUndo, tbl_ValueError, tbl_LookupError, tbl_RuntimeError, inD, okX_value, okX_index, okX_line, okX_limit, okX_reason, okX_names, fget, ad10]
theorem raised_8 (v nm : D) : F__law_raised [.int 8, v, nm] = .ok (.tup [.lst [.bl false, .bl false, .bl false, .bl false, .bl false, .bl false, .bl false, .bl false, .bl true, .bl false], .tup [v, nm]]) := by
  simp [F__law_raised, b__law_raised, _law_raised_y1, _law_raised_x1, eqD, okE, okEs, eqv, sRaise0, eIsX, hd_StagesError, noEx, isEx, tbl_BadNumber, tbl_BadName, tbl_BadItem, tbl_BadEvent, tbl_BadNote, tbl_TooMany, tbl_Unknown, tbl_Taken, tbl_Refused, tbl_NothingToUndo, tbl_ValueError, tbl_LookupError, tbl_RuntimeError, inD, okX_value, okX_index, okX_line, okX_limit, okX_reason, okX_names, fget, ad10]
theorem raised_9 (v nm : D) : F__law_raised [.int 9, v, nm] = .ok (.tup [.lst [.bl false, .bl false, .bl false, .bl false, .bl false, .bl false, .bl false, .bl false, .bl false, .bl true], .non]) := by
  simp [F__law_raised, b__law_raised, _law_raised_y1, _law_raised_x1, eqD, okE, okEs, eqv, sRaise0, eIsX, hd_StagesError, noEx, isEx, tbl_BadNumber, tbl_BadName, tbl_BadItem, tbl_BadEvent, tbl_BadNote, tbl_TooMany, tbl_Unknown, tbl_Taken, tbl_Refused, tbl_NothingToUndo, tbl_ValueError, tbl_LookupError, tbl_RuntimeError, inD, okX_value, okX_index, okX_line, okX_limit, okX_reason, okX_names, fget, ad10]
theorem raised_ok (n : Nat) (hn : n < 10) (v nm : D) : F__law_raised [.int n, v, nm] = .ok (.tup [.lst (flags n), fld n v nm]) := by
  rcases (by omega : n = 0 ∨ n = 1 ∨ n = 2 ∨ n = 3 ∨ n = 4 ∨ n = 5 ∨ n = 6 ∨ n = 7 ∨ n = 8 ∨ n = 9) with rfl | rfl | rfl | rfl | rfl | rfl | rfl | rfl | rfl | rfl
  · exact raised_0 v nm
  · exact raised_1 v nm
  · exact raised_2 v nm
  · exact raised_3 v nm
  · exact raised_4 v nm
  · exact raised_5 v nm
  · exact raised_6 v nm
  · exact raised_7 v nm
  · exact raised_8 v nm
  · exact raised_9 v nm
theorem okEs_bls : ∀ l : List Nat, ∀ (m n : Nat), okEs m (l.map fun k => D.bl (decide (k = n))) = true ∧ eqvs (l.map fun k => D.bl (decide (k = n))) (l.map fun k => D.bl (decide (k = n))) = true
  | [], _, _ => ⟨rfl, rfl⟩
  | k :: l, m, n => by
    obtain ⟨h1, h2⟩ := okEs_bls l m n
    exact ⟨by rw [List.map_cons]; show (true && okEs m _) = true; rw [h1]; rfl, by rw [List.map_cons]; show ((_ == _) && eqvs _ _) = true; rw [h2]; simp⟩
structure Pl (v : D) : Prop where
  o : ∀ n, okE (n + 1) v = true
  e : eqv v v = true
  t : ∃ b, isTD "bool" v = some (.bl b)
abbrev Env (S : D) (r : D) (a b c d e : Sl) : En := [.sh S, .ow r, a, .no, b, c, d, e, .no]
theorem turn (ns : List Int) (s : Dr) (hs : s.ok) (n : Nat) (hn : n < 10) (a b c d e : Sl) : ∃ s' a' b' c' d' e', s'.ok ∧ forS (bName 2) law_b1 [.int n] (Env (.scr (ns.map D.int)) (encR ns s) a b c d e) = .ok .nx (Env (.scr (ns.map D.int)) (encR ns s') a' b' c' d' e') := by
  have hp : CPow 10 9 := ⟨by decide, by decide, by decide⟩
  obtain ⟨v0, s0, e0, o0, l0, u0⟩ := taken_ok ns s hs 1000000000 (by decide) (by decide)
  obtain ⟨v, s1, e1, o1, m1⟩ := pick_ok ns s0 o0 [.non, .int 7, .str "x", .tup [.int 1, .int 2], .bl true, .int v0] (by simp) (by simp)
  obtain ⟨nm, s2, e2, o2, m2⟩ := pick_ok ns s1 o1 [.tup [], .tup [.str "a"]] (by simp) (by simp)
  have pv : Pl v := by
    simp only [List.mem_cons, List.not_mem_nil, or_false] at m1
    rcases m1 with rfl | rfl | rfl | rfl | rfl | rfl <;> exact ⟨fun n => by simp [okE, okEs], by simp [eqv, eqvs], ⟨_, by simp; rfl⟩⟩
  have pn : Pl nm := by
    simp only [List.mem_cons, List.not_mem_nil, or_false] at m2
    rcases m2 with rfl | rfl <;> exact ⟨fun n => by simp [okE, okEs], by simp [eqv, eqvs], ⟨_, by simp; rfl⟩⟩
  have er := raised_ok n hn v nm
  have L := lcS_all (b := bName 8) (vs := [8]) (t := tYesJ) (f := law_e1) (ρ := Env (.scr (ns.map D.int)) (encR ns s2) (.sh (.int n)) (.sh v) (.sh nm) (.sh (.tup [.lst (flags n), fld n v nm])) e) (e := fun i : Nat => D.int (i : Nat)) (q := fun k => [D.bl (decide (k = n))]) (l := List.range 10) (acc := []) (fun k _ => by
    have z : ((k : Int) == (n : Int)) = decide (k = n) := by rw [Bool.eq_iff_iff]; simp; omega
    simp [lcS, wipeE, rst, law_e1, eqD, okE, eqv, z])
  rw [List.nil_append, show (List.range 10).flatMap (fun k => [D.bl (decide (k = n))]) = flags n from by simp [flags, List.flatMap_singleton']; rfl] at L
  have h10 := rng1_nat 10 (by decide)
  obtain ⟨f1, f2⟩ := okEs_bls (List.range 10) 59 n
  have f1' : okEs 59 (flags n) = true := f1
  have f2' : eqvs (flags n) (flags n) = true := f2
  have v60 : okE 60 v = true := pv.o 59
  have v59 : okE 59 v = true := pv.o 58
  have n59 : okE 59 nm = true := pn.o 58
  obtain ⟨tb, ht⟩ := pv.t
  have hve := pv.e
  have hne := pn.e
  by_cases h8 : n = 8
  · subst h8
    refine ⟨s2, .sh (.int 8), .sh v, .sh nm, .sh (.tup [.lst (flags 8), .tup [v, nm]]), .sh (.tup [v, nm]), o2, ?_⟩
    simp [fld] at h10 er e0 e1 e2 L
    simp [forS_cons, law_b1, e_taken, hp, e0, e1, e2, er, isNonD, h10, noOw, L, neD, okE, f1', eqv, f2', eqD, fld, okEs, v59, n59, hve, hne, eqvs]
  · by_cases h9 : n = 9
    · subst h9
      refine ⟨s2, .sh (.int 9), .sh v, .sh nm, .sh (.tup [.lst (flags 9), .non]), .sh v, o2, ?_⟩
      simp [fld] at h10 er e0 e1 e2 L
      simp [forS_cons, law_b1, e_taken, hp, e0, e1, e2, er, isNonD, h10, noOw, L, neD, okE, f1', eqv, f2', eqD, fld]
    · have hlt : n < 8 := by omega
      have k1 : ¬ ((n : Int) = 8) := by omega
      have k2 : (n : Int) < 9 := by omega
      refine ⟨s2, .sh (.int n), .sh v, .sh nm, .sh (.tup [.lst (flags n), v]), .sh v, o2, ?_⟩
      simp [fld, hlt] at er L
      simp at h10 e0 e1 e2
      simp [forS_cons, law_b1, e_taken, hp, e0, e1, e2, er, isNonD, h10, noOw, L, neD, okE, f1', eqv, f2', eqD, k1, k2, v60, hve, ht]
theorem law_math : ∀ ns : List Int, ns.length ≤ 63 → F_law [.scr (ns.map D.int)] = .ok (.bl true) := by
  intro ns _
  obtain ⟨ρ, e, s, a, b, c, d, x, hs, rfl⟩ := forS_inv (b := bName 2) (body := law_b1) (e := fun i : Nat => D.int (i : Nat)) (fun _ ρ => ∃ s a b c d e, Dr.ok s ∧ ρ = Env (.scr (ns.map D.int)) (encR ns s) a b c d e)
    (l := List.range 10) (k := 0) (ρ := Env (.scr (ns.map D.int)) (encR ns ⟨0, 53, 0⟩) .no .no .no .no .no) ⟨⟨0, 53, 0⟩, .no, .no, .no, .no, .no, ⟨by decide, by decide, by decide, by decide⟩, rfl⟩ (by
      rintro i n ρ hi ⟨s, a, b, c, d, e, hs, rfl⟩
      have hn : n < 10 := List.mem_range.mp (List.mem_of_getElem? hi)
      obtain ⟨s', a', b', c', d', e', h1, h2⟩ := turn ns s hs n hn a b c d e
      exact ⟨_, h2, s', a', b', c', d', e', h1, rfl⟩)
  have h10 := rng1_nat 10 (by decide)
  have ad : ∀ a b c d e f g h i j : D, addD (.lst [a, b, c, d, e]) (.lst [f, g, h, i, j]) = some (.lst [a, b, c, d, e, f, g, h, i, j]) := fun a b c d e f g h i j => add_ll _ _ (by simp)
  have hk := alike_refl 6 (.lst [.int 1, .str "a", .int 4, .int 5, .int 6, .int 7, .int 8, .int 9, .int 11, .str "s"]) rfl
  rw [← e_alike] at hk
  simp at h10
  simp [encR] at e
  simp [F_law, b_law, law_s1, law_s2, law_s3, law_s4, law_s5, h10, e, eKwF, ad, hk]
end K09

set_option Elab.async false
set_option linter.all false
set_option maxRecDepth 100000
set_option maxHeartbeats 4000000
namespace K09
open PySem PySem.Spec PyProof.Rows L2 J
abbrev s_BadNumber : Stmt := inClass (top 2) 0
abbrev s_BadName : Stmt := inClass (top 3) 0
abbrev s_BadItem : Stmt := inClass (top 4) 0
abbrev s_BadEvent : Stmt := inClass (top 5) 0
abbrev s_BadNote : Stmt := inClass (top 6) 0
abbrev s_TooMany : Stmt := inClass (top 7) 0
abbrev s_Unknown : Stmt := inClass (top 8) 0
abbrev s_Taken : Stmt := inClass (top 9) 0
abbrev s_Refused : Stmt := inClass (top 10) 0
set_option maxHeartbeats 8000000 in
theorem all_mk {P : Program} {w : World} {K : PySem.W.Frag} {h : Heap} {mg : Str → Option Value} {fa : Addr} (X : K.In h) (G : h.Ns mainGlobals mg) (hfa : mg "law" = some (.ref fa)) (tp : (P.main.scope.names.lookup ("super" : Str)).isSome = false)
    {f__law_alike : Addr} {od__law_alike an__law_alike : Option Addr} {sl__law_alike : Array (Option Value)} {oc__law_alike kV__law_alike dc__law_alike pm__law_alike cd__law_alike ct__law_alike : Value}
    {f__law_taken : Addr} {od__law_taken an__law_taken : Option Addr} {sl__law_taken : Array (Option Value)} {oc__law_taken kV__law_taken dc__law_taken pm__law_taken cd__law_taken ct__law_taken : Value}
    {f__law_pick : Addr} {od__law_pick an__law_pick : Option Addr} {sl__law_pick : Array (Option Value)} {oc__law_pick kV__law_pick dc__law_pick pm__law_pick cd__law_pick ct__law_pick : Value}
    {f__law_raised : Addr} {od__law_raised an__law_raised : Option Addr} {sl__law_raised : Array (Option Value)} {oc__law_raised kV__law_raised dc__law_raised pm__law_raised cd__law_raised ct__law_raised : Value}
    {f_law : Addr} {od_law an_law : Option Addr} {sl_law : Array (Option Value)} {oc_law kV_law dc_law pm_law cd_law ct_law : Value}
    {C_BadNumber : Addr}
    {C_BadName : Addr}
    {C_BadItem : Addr}
    {C_BadEvent : Addr}
    {C_BadNote : Addr}
    {C_TooMany : Addr}
    {C_Unknown : Addr}
    {C_Taken : Addr}
    {C_Refused : Addr}
    {C_StagesError : Addr}
    {C_NothingToUndo : Addr}
    {nm_BadNumber q_BadNumber : Str} {N_BadNumber : Addr} {bs_BadNumber bm_BadNumber : List Value} {sn_BadNumber : List Str} {sub_BadNumber : List Value} {ab_BadNumber : Bool} {col_BadNumber : Option Bool} {dd_BadNumber : Option Addr} {m0_BadNumber m1_BadNumber m2_BadNumber m3_BadNumber m5_BadNumber : Option Value}
    {fI_BadNumber cc_BadNumber cda_BadNumber : Addr} {odI_BadNumber anI_BadNumber cld_BadNumber cdd_BadNumber : Option Addr} {slI_BadNumber csl_BadNumber ccs_BadNumber : Array (Option Value)} {ocI_BadNumber dcI_BadNumber pmI_BadNumber ctI_BadNumber cl_BadNumber ccl_BadNumber : Value} {vs_BadNumber : Array Value} {fl_BadNumber : Str} {tf_BadNumber : Tok}
    {nm_BadName q_BadName : Str} {N_BadName : Addr} {bs_BadName bm_BadName : List Value} {sn_BadName : List Str} {sub_BadName : List Value} {ab_BadName : Bool} {col_BadName : Option Bool} {dd_BadName : Option Addr} {m0_BadName m1_BadName m2_BadName m3_BadName m5_BadName : Option Value}
    {fI_BadName cc_BadName cda_BadName : Addr} {odI_BadName anI_BadName cld_BadName cdd_BadName : Option Addr} {slI_BadName csl_BadName ccs_BadName : Array (Option Value)} {ocI_BadName dcI_BadName pmI_BadName ctI_BadName cl_BadName ccl_BadName : Value} {vs_BadName : Array Value} {fl_BadName : Str} {tf_BadName : Tok}
    {nm_BadItem q_BadItem : Str} {N_BadItem : Addr} {bs_BadItem bm_BadItem : List Value} {sn_BadItem : List Str} {sub_BadItem : List Value} {ab_BadItem : Bool} {col_BadItem : Option Bool} {dd_BadItem : Option Addr} {m0_BadItem m1_BadItem m2_BadItem m3_BadItem m5_BadItem : Option Value}
    {fI_BadItem cc_BadItem cda_BadItem : Addr} {odI_BadItem anI_BadItem cld_BadItem cdd_BadItem : Option Addr} {slI_BadItem csl_BadItem ccs_BadItem : Array (Option Value)} {ocI_BadItem dcI_BadItem pmI_BadItem ctI_BadItem cl_BadItem ccl_BadItem : Value} {vs_BadItem : Array Value} {fl_BadItem : Str} {tf_BadItem : Tok}
    {nm_BadEvent q_BadEvent : Str} {N_BadEvent : Addr} {bs_BadEvent bm_BadEvent : List Value} {sn_BadEvent : List Str} {sub_BadEvent : List Value} {ab_BadEvent : Bool} {col_BadEvent : Option Bool} {dd_BadEvent : Option Addr} {m0_BadEvent m1_BadEvent m2_BadEvent m3_BadEvent m5_BadEvent : Option Value}
    {fI_BadEvent cc_BadEvent cda_BadEvent : Addr} {odI_BadEvent anI_BadEvent cld_BadEvent cdd_BadEvent : Option Addr} {slI_BadEvent csl_BadEvent ccs_BadEvent : Array (Option Value)} {ocI_BadEvent dcI_BadEvent pmI_BadEvent ctI_BadEvent cl_BadEvent ccl_BadEvent : Value} {vs_BadEvent : Array Value} {fl_BadEvent : Str} {tf_BadEvent : Tok}
    {nm_BadNote q_BadNote : Str} {N_BadNote : Addr} {bs_BadNote bm_BadNote : List Value} {sn_BadNote : List Str} {sub_BadNote : List Value} {ab_BadNote : Bool} {col_BadNote : Option Bool} {dd_BadNote : Option Addr} {m0_BadNote m1_BadNote m2_BadNote m3_BadNote m5_BadNote : Option Value}
    {fI_BadNote cc_BadNote cda_BadNote : Addr} {odI_BadNote anI_BadNote cld_BadNote cdd_BadNote : Option Addr} {slI_BadNote csl_BadNote ccs_BadNote : Array (Option Value)} {ocI_BadNote dcI_BadNote pmI_BadNote ctI_BadNote cl_BadNote ccl_BadNote : Value} {vs_BadNote : Array Value} {fl_BadNote : Str} {tf_BadNote : Tok}
    {nm_TooMany q_TooMany : Str} {N_TooMany : Addr} {bs_TooMany bm_TooMany : List Value} {sn_TooMany : List Str} {sub_TooMany : List Value} {ab_TooMany : Bool} {col_TooMany : Option Bool} {dd_TooMany : Option Addr} {m0_TooMany m1_TooMany m2_TooMany m3_TooMany m5_TooMany : Option Value}
    {fI_TooMany cc_TooMany cda_TooMany : Addr} {odI_TooMany anI_TooMany cld_TooMany cdd_TooMany : Option Addr} {slI_TooMany csl_TooMany ccs_TooMany : Array (Option Value)} {ocI_TooMany dcI_TooMany pmI_TooMany ctI_TooMany cl_TooMany ccl_TooMany : Value} {vs_TooMany : Array Value} {fl_TooMany : Str} {tf_TooMany : Tok}
    {nm_Unknown q_Unknown : Str} {N_Unknown : Addr} {bs_Unknown bm_Unknown : List Value} {sn_Unknown : List Str} {sub_Unknown : List Value} {ab_Unknown : Bool} {col_Unknown : Option Bool} {dd_Unknown : Option Addr} {m0_Unknown m1_Unknown m2_Unknown m3_Unknown m5_Unknown : Option Value}
    {fI_Unknown cc_Unknown cda_Unknown : Addr} {odI_Unknown anI_Unknown cld_Unknown cdd_Unknown : Option Addr} {slI_Unknown csl_Unknown ccs_Unknown : Array (Option Value)} {ocI_Unknown dcI_Unknown pmI_Unknown ctI_Unknown cl_Unknown ccl_Unknown : Value} {vs_Unknown : Array Value} {fl_Unknown : Str} {tf_Unknown : Tok}
    {nm_Taken q_Taken : Str} {N_Taken : Addr} {bs_Taken bm_Taken : List Value} {sn_Taken : List Str} {sub_Taken : List Value} {ab_Taken : Bool} {col_Taken : Option Bool} {dd_Taken : Option Addr} {m0_Taken m1_Taken m2_Taken m3_Taken m5_Taken : Option Value}
    {fI_Taken cc_Taken cda_Taken : Addr} {odI_Taken anI_Taken cld_Taken cdd_Taken : Option Addr} {slI_Taken csl_Taken ccs_Taken : Array (Option Value)} {ocI_Taken dcI_Taken pmI_Taken ctI_Taken cl_Taken ccl_Taken : Value} {vs_Taken : Array Value} {fl_Taken : Str} {tf_Taken : Tok}
    {nm_Refused q_Refused : Str} {N_Refused : Addr} {bs_Refused bm_Refused : List Value} {sn_Refused : List Str} {sub_Refused : List Value} {ab_Refused : Bool} {col_Refused : Option Bool} {dd_Refused : Option Addr} {m0_Refused m1_Refused m2_Refused m3_Refused m5_Refused : Option Value}
    {fI_Refused cc_Refused cda_Refused : Addr} {odI_Refused anI_Refused cld_Refused cdd_Refused : Option Addr} {slI_Refused csl_Refused ccs_Refused : Array (Option Value)} {ocI_Refused dcI_Refused pmI_Refused ctI_Refused cl_Refused ccl_Refused : Value} {vs_Refused : Array Value} {fl_Refused : Str} {tf_Refused : Tok}
    (a__law_alike : PySem.W.nsIn K mainGlobals "_law_alike" = some (some (.ref f__law_alike)))
    (l__law_alike : K.lookup f__law_alike = some ⟨oc__law_alike, od__law_alike, .func (PySem.W.fnOf "_law_alike" "_law_alike" (defArgs s__law_alike) (defBody s__law_alike) (defScope s__law_alike) .none kV__law_alike dc__law_alike pm__law_alike an__law_alike cd__law_alike ct__law_alike), sl__law_alike⟩)
    (c__law_alike : PySem.W.codeIn K cd__law_alike "_law_alike" = true)
    (k__law_alike : PySem.W.keepIn K (.ref f__law_alike) = true)
    (a__law_taken : PySem.W.nsIn K mainGlobals "_law_taken" = some (some (.ref f__law_taken)))
    (l__law_taken : K.lookup f__law_taken = some ⟨oc__law_taken, od__law_taken, .func (PySem.W.fnOf "_law_taken" "_law_taken" (defArgs s__law_taken) (defBody s__law_taken) (defScope s__law_taken) .none kV__law_taken dc__law_taken pm__law_taken an__law_taken cd__law_taken ct__law_taken), sl__law_taken⟩)
    (c__law_taken : PySem.W.codeIn K cd__law_taken "_law_taken" = true)
    (k__law_taken : PySem.W.keepIn K (.ref f__law_taken) = true)
    (a__law_pick : PySem.W.nsIn K mainGlobals "_law_pick" = some (some (.ref f__law_pick)))
    (l__law_pick : K.lookup f__law_pick = some ⟨oc__law_pick, od__law_pick, .func (PySem.W.fnOf "_law_pick" "_law_pick" (defArgs s__law_pick) (defBody s__law_pick) (defScope s__law_pick) .none kV__law_pick dc__law_pick pm__law_pick an__law_pick cd__law_pick ct__law_pick), sl__law_pick⟩)
    (c__law_pick : PySem.W.codeIn K cd__law_pick "_law_pick" = true)
    (k__law_pick : PySem.W.keepIn K (.ref f__law_pick) = true)
    (a__law_raised : PySem.W.nsIn K mainGlobals "_law_raised" = some (some (.ref f__law_raised)))
    (l__law_raised : K.lookup f__law_raised = some ⟨oc__law_raised, od__law_raised, .func (PySem.W.fnOf "_law_raised" "_law_raised" (defArgs s__law_raised) (defBody s__law_raised) (defScope s__law_raised) .none kV__law_raised dc__law_raised pm__law_raised an__law_raised cd__law_raised ct__law_raised), sl__law_raised⟩)
    (c__law_raised : PySem.W.codeIn K cd__law_raised "_law_raised" = true)
    (k__law_raised : PySem.W.keepIn K (.ref f__law_raised) = true)
    (a_law : PySem.W.nsIn K mainGlobals "law" = some (some (.ref f_law)))
    (l_law : K.lookup f_law = some ⟨oc_law, od_law, .func (PySem.W.fnOf "law" "law" (defArgs s_law) (defBody s_law) (defScope s_law) .none kV_law dc_law pm_law an_law cd_law ct_law), sl_law⟩)
    (c_law : PySem.W.codeIn K cd_law "law" = true)
    (k_law : PySem.W.keepIn K (.ref f_law) = true)
    (z_len : PySem.W.nsIn K mainGlobals "len" = some none)
    (z_abs : PySem.W.nsIn K mainGlobals "abs" = some none)
    (z_int : PySem.W.nsIn K mainGlobals "int" = some none)
    (z_tuple : PySem.W.nsIn K mainGlobals "tuple" = some none)
    (z_list : PySem.W.nsIn K mainGlobals "list" = some none)
    (z_sum : PySem.W.nsIn K mainGlobals "sum" = some none)
    (z_max : PySem.W.nsIn K mainGlobals "max" = some none)
    (z_min : PySem.W.nsIn K mainGlobals "min" = some none)
    (z_any : PySem.W.nsIn K mainGlobals "any" = some none)
    (z_all : PySem.W.nsIn K mainGlobals "all" = some none)
    (z_range : PySem.W.nsIn K mainGlobals "range" = some none)
    (z_isinstance : PySem.W.nsIn K mainGlobals "isinstance" = some none)
    (z_str : PySem.W.nsIn K mainGlobals "str" = some none)
    (z_bool : PySem.W.nsIn K mainGlobals "bool" = some none)
    (z_sorted : PySem.W.nsIn K mainGlobals "sorted" = some none)
    (z_set : PySem.W.nsIn K mainGlobals "set" = some none)
    (z_dict : PySem.W.nsIn K mainGlobals "dict" = some none)
    (z_enumerate : PySem.W.nsIn K mainGlobals "enumerate" = some none)
    (z_zip : PySem.W.nsIn K mainGlobals "zip" = some none)
    (z_repr : PySem.W.nsIn K mainGlobals "repr" = some none)
    (z_super : PySem.W.nsIn K mainGlobals "super" = some none)
    (nos : PySem.W.nsIn K cStatics "thirdparty.any" = some none)
    (bi_ValueError : PySem.W.nsIn K mainGlobals "ValueError" = some none)
    (bi_LookupError : PySem.W.nsIn K mainGlobals "LookupError" = some none)
    (bi_RuntimeError : PySem.W.nsIn K mainGlobals "RuntimeError" = some none)
    (xn : PySem.W.specialIn K (.builtin "object.__class__") "__get__" = some (some (.builtin "getset_descriptor.__get__")))
    (xt : PySem.W.takesIn K (.builtin "object.__class__") = some true)
    (aC_BadNumber : PySem.W.nsIn K mainGlobals "BadNumber" = some (some (.ref C_BadNumber)))
    (aC_BadName : PySem.W.nsIn K mainGlobals "BadName" = some (some (.ref C_BadName)))
    (aC_BadItem : PySem.W.nsIn K mainGlobals "BadItem" = some (some (.ref C_BadItem)))
    (aC_BadEvent : PySem.W.nsIn K mainGlobals "BadEvent" = some (some (.ref C_BadEvent)))
    (aC_BadNote : PySem.W.nsIn K mainGlobals "BadNote" = some (some (.ref C_BadNote)))
    (aC_TooMany : PySem.W.nsIn K mainGlobals "TooMany" = some (some (.ref C_TooMany)))
    (aC_Unknown : PySem.W.nsIn K mainGlobals "Unknown" = some (some (.ref C_Unknown)))
    (aC_Taken : PySem.W.nsIn K mainGlobals "Taken" = some (some (.ref C_Taken)))
    (aC_Refused : PySem.W.nsIn K mainGlobals "Refused" = some (some (.ref C_Refused)))
    (aC_StagesError : PySem.W.nsIn K mainGlobals "StagesError" = some (some (.ref C_StagesError)))
    (aC_NothingToUndo : PySem.W.nsIn K mainGlobals "NothingToUndo" = some (some (.ref C_NothingToUndo)))
    (xL_BadNumber : K.lookup C_BadNumber = some (excClassObj nm_BadNumber q_BadNumber C_BadNumber N_BadNumber bs_BadNumber bm_BadNumber true sn_BadNumber sub_BadNumber ab_BadNumber col_BadNumber dd_BadNumber m0_BadNumber m1_BadNumber m2_BadNumber m3_BadNumber m5_BadNumber "ValueError.__new__"))
    (rv_BadNumber : PySem.HandSPX.refsVE bm_BadNumber = true)
    (sa_BadNumber : PySem.W.findIn K (.ref C_BadNumber) "__setattr__" = some (some (.builtin "object.__setattr__")))
    (eC_BadNumber : PySem.W.subIn K (.ref C_BadNumber) (.type "BaseException") = some true)
    (tC_BadNumber : PySem.W.typeIn K (.ref C_BadNumber) = some (.type "type"))
    (kC_BadNumber : PySem.W.keepIn K (.ref C_BadNumber) = true)
    (i_BadNumber : PySem.W.findIn K (.ref C_BadNumber) "__init__" = some (some (.ref fI_BadNumber)))
    (t_BadNumber : PySem.W.typeIn K (.ref fI_BadNumber) = some (.type "function"))
    (l_BadNumber : K.lookup fI_BadNumber = some ⟨ocI_BadNumber, odI_BadNumber, .func (PySem.W.ksFn "__init__" "BadNumber.__init__" (defArgs s_BadNumber) (defBody s_BadNumber) (defScope s_BadNumber) .none .none dcI_BadNumber pmI_BadNumber anI_BadNumber (.ref cda_BadNumber) ctI_BadNumber cc_BadNumber), slI_BadNumber⟩)
    (c_BadNumber : PySem.W.codeIn K (.ref cda_BadNumber) "BadNumber.__init__" = true)
    (ce_BadNumber : K.lookup cc_BadNumber = some ⟨cl_BadNumber, cld_BadNumber, .cell (some (.ref C_BadNumber)), csl_BadNumber⟩)
    (co_BadNumber : K.lookup cda_BadNumber = some ⟨ccl_BadNumber, cdd_BadNumber, .fields vs_BadNumber, ccs_BadNumber⟩)
    (v_BadNumber : vs_BadNumber[2]? = some (.str fl_BadNumber tf_BadNumber))
    (fi_BadNumber : ((P.main.file : Str) == fl_BadNumber) = true)
    (su_BadNumber : PySem.W.ks_superIn K C_BadNumber C_BadNumber "__init__" = some (some (.builtin "ValueError.__init__")))
    (mr_BadNumber : PySem.W.mroIn K C_BadNumber (.ref C_BadNumber) = some true)
    (sv_BadNumber : PySem.W.subIn K (.ref C_BadNumber) (.type "ValueError") = some true)
    (n_BadNumber_value : PySem.W.findIn K (.ref C_BadNumber) "value" = some none)
    (ga_BadNumber : PySem.W.findIn K (.ref C_BadNumber) "__getattribute__" = some (some (.builtin "BaseException.__getattribute__")))
    (gg_BadNumber : PySem.W.findIn K (.ref C_BadNumber) "__getattr__" = some none)
    (hdi_BadNumber : PySem.W.hasDictIn K C_BadNumber = true)
    (xL_BadName : K.lookup C_BadName = some (excClassObj nm_BadName q_BadName C_BadName N_BadName bs_BadName bm_BadName true sn_BadName sub_BadName ab_BadName col_BadName dd_BadName m0_BadName m1_BadName m2_BadName m3_BadName m5_BadName "ValueError.__new__"))
    (rv_BadName : PySem.HandSPX.refsVE bm_BadName = true)
    (sa_BadName : PySem.W.findIn K (.ref C_BadName) "__setattr__" = some (some (.builtin "object.__setattr__")))
    (eC_BadName : PySem.W.subIn K (.ref C_BadName) (.type "BaseException") = some true)
    (tC_BadName : PySem.W.typeIn K (.ref C_BadName) = some (.type "type"))
    (kC_BadName : PySem.W.keepIn K (.ref C_BadName) = true)
    (i_BadName : PySem.W.findIn K (.ref C_BadName) "__init__" = some (some (.ref fI_BadName)))
    (t_BadName : PySem.W.typeIn K (.ref fI_BadName) = some (.type "function"))
    (l_BadName : K.lookup fI_BadName = some ⟨ocI_BadName, odI_BadName, .func (PySem.W.ksFn "__init__" "BadName.__init__" (defArgs s_BadName) (defBody s_BadName) (defScope s_BadName) .none .none dcI_BadName pmI_BadName anI_BadName (.ref cda_BadName) ctI_BadName cc_BadName), slI_BadName⟩)
    (c_BadName : PySem.W.codeIn K (.ref cda_BadName) "BadName.__init__" = true)
    (ce_BadName : K.lookup cc_BadName = some ⟨cl_BadName, cld_BadName, .cell (some (.ref C_BadName)), csl_BadName⟩)
    (co_BadName : K.lookup cda_BadName = some ⟨ccl_BadName, cdd_BadName, .fields vs_BadName, ccs_BadName⟩)
    (v_BadName : vs_BadName[2]? = some (.str fl_BadName tf_BadName))
    (fi_BadName : ((P.main.file : Str) == fl_BadName) = true)
    (su_BadName : PySem.W.ks_superIn K C_BadName C_BadName "__init__" = some (some (.builtin "ValueError.__init__")))
    (mr_BadName : PySem.W.mroIn K C_BadName (.ref C_BadName) = some true)
    (sv_BadName : PySem.W.subIn K (.ref C_BadName) (.type "ValueError") = some true)
    (n_BadName_value : PySem.W.findIn K (.ref C_BadName) "value" = some none)
    (ga_BadName : PySem.W.findIn K (.ref C_BadName) "__getattribute__" = some (some (.builtin "BaseException.__getattribute__")))
    (gg_BadName : PySem.W.findIn K (.ref C_BadName) "__getattr__" = some none)
    (hdi_BadName : PySem.W.hasDictIn K C_BadName = true)
    (xL_BadItem : K.lookup C_BadItem = some (excClassObj nm_BadItem q_BadItem C_BadItem N_BadItem bs_BadItem bm_BadItem true sn_BadItem sub_BadItem ab_BadItem col_BadItem dd_BadItem m0_BadItem m1_BadItem m2_BadItem m3_BadItem m5_BadItem "ValueError.__new__"))
    (rv_BadItem : PySem.HandSPX.refsVE bm_BadItem = true)
    (sa_BadItem : PySem.W.findIn K (.ref C_BadItem) "__setattr__" = some (some (.builtin "object.__setattr__")))
    (eC_BadItem : PySem.W.subIn K (.ref C_BadItem) (.type "BaseException") = some true)
    (tC_BadItem : PySem.W.typeIn K (.ref C_BadItem) = some (.type "type"))
    (kC_BadItem : PySem.W.keepIn K (.ref C_BadItem) = true)
    (i_BadItem : PySem.W.findIn K (.ref C_BadItem) "__init__" = some (some (.ref fI_BadItem)))
    (t_BadItem : PySem.W.typeIn K (.ref fI_BadItem) = some (.type "function"))
    (l_BadItem : K.lookup fI_BadItem = some ⟨ocI_BadItem, odI_BadItem, .func (PySem.W.ksFn "__init__" "BadItem.__init__" (defArgs s_BadItem) (defBody s_BadItem) (defScope s_BadItem) .none .none dcI_BadItem pmI_BadItem anI_BadItem (.ref cda_BadItem) ctI_BadItem cc_BadItem), slI_BadItem⟩)
    (c_BadItem : PySem.W.codeIn K (.ref cda_BadItem) "BadItem.__init__" = true)
    (ce_BadItem : K.lookup cc_BadItem = some ⟨cl_BadItem, cld_BadItem, .cell (some (.ref C_BadItem)), csl_BadItem⟩)
    (co_BadItem : K.lookup cda_BadItem = some ⟨ccl_BadItem, cdd_BadItem, .fields vs_BadItem, ccs_BadItem⟩)
    (v_BadItem : vs_BadItem[2]? = some (.str fl_BadItem tf_BadItem))
    (fi_BadItem : ((P.main.file : Str) == fl_BadItem) = true)
    (su_BadItem : PySem.W.ks_superIn K C_BadItem C_BadItem "__init__" = some (some (.builtin "ValueError.__init__")))
    (mr_BadItem : PySem.W.mroIn K C_BadItem (.ref C_BadItem) = some true)
    (sv_BadItem : PySem.W.subIn K (.ref C_BadItem) (.type "ValueError") = some true)
    (n_BadItem_index : PySem.W.findIn K (.ref C_BadItem) "index" = some none)
    (ga_BadItem : PySem.W.findIn K (.ref C_BadItem) "__getattribute__" = some (some (.builtin "BaseException.__getattribute__")))
    (gg_BadItem : PySem.W.findIn K (.ref C_BadItem) "__getattr__" = some none)
    (hdi_BadItem : PySem.W.hasDictIn K C_BadItem = true)
    (xL_BadEvent : K.lookup C_BadEvent = some (excClassObj nm_BadEvent q_BadEvent C_BadEvent N_BadEvent bs_BadEvent bm_BadEvent true sn_BadEvent sub_BadEvent ab_BadEvent col_BadEvent dd_BadEvent m0_BadEvent m1_BadEvent m2_BadEvent m3_BadEvent m5_BadEvent "ValueError.__new__"))
    (rv_BadEvent : PySem.HandSPX.refsVE bm_BadEvent = true)
    (sa_BadEvent : PySem.W.findIn K (.ref C_BadEvent) "__setattr__" = some (some (.builtin "object.__setattr__")))
    (eC_BadEvent : PySem.W.subIn K (.ref C_BadEvent) (.type "BaseException") = some true)
    (tC_BadEvent : PySem.W.typeIn K (.ref C_BadEvent) = some (.type "type"))
    (kC_BadEvent : PySem.W.keepIn K (.ref C_BadEvent) = true)
    (i_BadEvent : PySem.W.findIn K (.ref C_BadEvent) "__init__" = some (some (.ref fI_BadEvent)))
    (t_BadEvent : PySem.W.typeIn K (.ref fI_BadEvent) = some (.type "function"))
    (l_BadEvent : K.lookup fI_BadEvent = some ⟨ocI_BadEvent, odI_BadEvent, .func (PySem.W.ksFn "__init__" "BadEvent.__init__" (defArgs s_BadEvent) (defBody s_BadEvent) (defScope s_BadEvent) .none .none dcI_BadEvent pmI_BadEvent anI_BadEvent (.ref cda_BadEvent) ctI_BadEvent cc_BadEvent), slI_BadEvent⟩)
    (c_BadEvent : PySem.W.codeIn K (.ref cda_BadEvent) "BadEvent.__init__" = true)
    (ce_BadEvent : K.lookup cc_BadEvent = some ⟨cl_BadEvent, cld_BadEvent, .cell (some (.ref C_BadEvent)), csl_BadEvent⟩)
    (co_BadEvent : K.lookup cda_BadEvent = some ⟨ccl_BadEvent, cdd_BadEvent, .fields vs_BadEvent, ccs_BadEvent⟩)
    (v_BadEvent : vs_BadEvent[2]? = some (.str fl_BadEvent tf_BadEvent))
    (fi_BadEvent : ((P.main.file : Str) == fl_BadEvent) = true)
    (su_BadEvent : PySem.W.ks_superIn K C_BadEvent C_BadEvent "__init__" = some (some (.builtin "ValueError.__init__")))
    (mr_BadEvent : PySem.W.mroIn K C_BadEvent (.ref C_BadEvent) = some true)
    (sv_BadEvent : PySem.W.subIn K (.ref C_BadEvent) (.type "ValueError") = some true)
    (n_BadEvent_value : PySem.W.findIn K (.ref C_BadEvent) "value" = some none)
    (ga_BadEvent : PySem.W.findIn K (.ref C_BadEvent) "__getattribute__" = some (some (.builtin "BaseException.__getattribute__")))
    (gg_BadEvent : PySem.W.findIn K (.ref C_BadEvent) "__getattr__" = some none)
    (hdi_BadEvent : PySem.W.hasDictIn K C_BadEvent = true)
    (xL_BadNote : K.lookup C_BadNote = some (excClassObj nm_BadNote q_BadNote C_BadNote N_BadNote bs_BadNote bm_BadNote true sn_BadNote sub_BadNote ab_BadNote col_BadNote dd_BadNote m0_BadNote m1_BadNote m2_BadNote m3_BadNote m5_BadNote "ValueError.__new__"))
    (rv_BadNote : PySem.HandSPX.refsVE bm_BadNote = true)
    (sa_BadNote : PySem.W.findIn K (.ref C_BadNote) "__setattr__" = some (some (.builtin "object.__setattr__")))
    (eC_BadNote : PySem.W.subIn K (.ref C_BadNote) (.type "BaseException") = some true)
    (tC_BadNote : PySem.W.typeIn K (.ref C_BadNote) = some (.type "type"))
    (kC_BadNote : PySem.W.keepIn K (.ref C_BadNote) = true)
    (i_BadNote : PySem.W.findIn K (.ref C_BadNote) "__init__" = some (some (.ref fI_BadNote)))
    (t_BadNote : PySem.W.typeIn K (.ref fI_BadNote) = some (.type "function"))
    (l_BadNote : K.lookup fI_BadNote = some ⟨ocI_BadNote, odI_BadNote, .func (PySem.W.ksFn "__init__" "BadNote.__init__" (defArgs s_BadNote) (defBody s_BadNote) (defScope s_BadNote) .none .none dcI_BadNote pmI_BadNote anI_BadNote (.ref cda_BadNote) ctI_BadNote cc_BadNote), slI_BadNote⟩)
    (c_BadNote : PySem.W.codeIn K (.ref cda_BadNote) "BadNote.__init__" = true)
    (ce_BadNote : K.lookup cc_BadNote = some ⟨cl_BadNote, cld_BadNote, .cell (some (.ref C_BadNote)), csl_BadNote⟩)
    (co_BadNote : K.lookup cda_BadNote = some ⟨ccl_BadNote, cdd_BadNote, .fields vs_BadNote, ccs_BadNote⟩)
    (v_BadNote : vs_BadNote[2]? = some (.str fl_BadNote tf_BadNote))
    (fi_BadNote : ((P.main.file : Str) == fl_BadNote) = true)
    (su_BadNote : PySem.W.ks_superIn K C_BadNote C_BadNote "__init__" = some (some (.builtin "ValueError.__init__")))
    (mr_BadNote : PySem.W.mroIn K C_BadNote (.ref C_BadNote) = some true)
    (sv_BadNote : PySem.W.subIn K (.ref C_BadNote) (.type "ValueError") = some true)
    (n_BadNote_line : PySem.W.findIn K (.ref C_BadNote) "line" = some none)
    (ga_BadNote : PySem.W.findIn K (.ref C_BadNote) "__getattribute__" = some (some (.builtin "BaseException.__getattribute__")))
    (gg_BadNote : PySem.W.findIn K (.ref C_BadNote) "__getattr__" = some none)
    (hdi_BadNote : PySem.W.hasDictIn K C_BadNote = true)
    (xL_TooMany : K.lookup C_TooMany = some (excClassObj nm_TooMany q_TooMany C_TooMany N_TooMany bs_TooMany bm_TooMany true sn_TooMany sub_TooMany ab_TooMany col_TooMany dd_TooMany m0_TooMany m1_TooMany m2_TooMany m3_TooMany m5_TooMany "ValueError.__new__"))
    (rv_TooMany : PySem.HandSPX.refsVE bm_TooMany = true)
    (sa_TooMany : PySem.W.findIn K (.ref C_TooMany) "__setattr__" = some (some (.builtin "object.__setattr__")))
    (eC_TooMany : PySem.W.subIn K (.ref C_TooMany) (.type "BaseException") = some true)
    (tC_TooMany : PySem.W.typeIn K (.ref C_TooMany) = some (.type "type"))
    (kC_TooMany : PySem.W.keepIn K (.ref C_TooMany) = true)
    (i_TooMany : PySem.W.findIn K (.ref C_TooMany) "__init__" = some (some (.ref fI_TooMany)))
    (t_TooMany : PySem.W.typeIn K (.ref fI_TooMany) = some (.type "function"))
    (l_TooMany : K.lookup fI_TooMany = some ⟨ocI_TooMany, odI_TooMany, .func (PySem.W.ksFn "__init__" "TooMany.__init__" (defArgs s_TooMany) (defBody s_TooMany) (defScope s_TooMany) .none .none dcI_TooMany pmI_TooMany anI_TooMany (.ref cda_TooMany) ctI_TooMany cc_TooMany), slI_TooMany⟩)
    (c_TooMany : PySem.W.codeIn K (.ref cda_TooMany) "TooMany.__init__" = true)
    (ce_TooMany : K.lookup cc_TooMany = some ⟨cl_TooMany, cld_TooMany, .cell (some (.ref C_TooMany)), csl_TooMany⟩)
    (co_TooMany : K.lookup cda_TooMany = some ⟨ccl_TooMany, cdd_TooMany, .fields vs_TooMany, ccs_TooMany⟩)
    (v_TooMany : vs_TooMany[2]? = some (.str fl_TooMany tf_TooMany))
    (fi_TooMany : ((P.main.file : Str) == fl_TooMany) = true)
    (su_TooMany : PySem.W.ks_superIn K C_TooMany C_TooMany "__init__" = some (some (.builtin "ValueError.__init__")))
    (mr_TooMany : PySem.W.mroIn K C_TooMany (.ref C_TooMany) = some true)
    (sv_TooMany : PySem.W.subIn K (.ref C_TooMany) (.type "ValueError") = some true)
    (n_TooMany_limit : PySem.W.findIn K (.ref C_TooMany) "limit" = some none)
    (ga_TooMany : PySem.W.findIn K (.ref C_TooMany) "__getattribute__" = some (some (.builtin "BaseException.__getattribute__")))
    (gg_TooMany : PySem.W.findIn K (.ref C_TooMany) "__getattr__" = some none)
    (hdi_TooMany : PySem.W.hasDictIn K C_TooMany = true)
    (xL_Unknown : K.lookup C_Unknown = some (excClassObj nm_Unknown q_Unknown C_Unknown N_Unknown bs_Unknown bm_Unknown true sn_Unknown sub_Unknown ab_Unknown col_Unknown dd_Unknown m0_Unknown m1_Unknown m2_Unknown m3_Unknown m5_Unknown "ValueError.__new__"))
    (rv_Unknown : PySem.HandSPX.refsVE bm_Unknown = true)
    (sa_Unknown : PySem.W.findIn K (.ref C_Unknown) "__setattr__" = some (some (.builtin "object.__setattr__")))
    (eC_Unknown : PySem.W.subIn K (.ref C_Unknown) (.type "BaseException") = some true)
    (tC_Unknown : PySem.W.typeIn K (.ref C_Unknown) = some (.type "type"))
    (kC_Unknown : PySem.W.keepIn K (.ref C_Unknown) = true)
    (i_Unknown : PySem.W.findIn K (.ref C_Unknown) "__init__" = some (some (.ref fI_Unknown)))
    (t_Unknown : PySem.W.typeIn K (.ref fI_Unknown) = some (.type "function"))
    (l_Unknown : K.lookup fI_Unknown = some ⟨ocI_Unknown, odI_Unknown, .func (PySem.W.ksFn "__init__" "Unknown.__init__" (defArgs s_Unknown) (defBody s_Unknown) (defScope s_Unknown) .none .none dcI_Unknown pmI_Unknown anI_Unknown (.ref cda_Unknown) ctI_Unknown cc_Unknown), slI_Unknown⟩)
    (c_Unknown : PySem.W.codeIn K (.ref cda_Unknown) "Unknown.__init__" = true)
    (ce_Unknown : K.lookup cc_Unknown = some ⟨cl_Unknown, cld_Unknown, .cell (some (.ref C_Unknown)), csl_Unknown⟩)
    (co_Unknown : K.lookup cda_Unknown = some ⟨ccl_Unknown, cdd_Unknown, .fields vs_Unknown, ccs_Unknown⟩)
    (v_Unknown : vs_Unknown[2]? = some (.str fl_Unknown tf_Unknown))
    (fi_Unknown : ((P.main.file : Str) == fl_Unknown) = true)
    (su_Unknown : PySem.W.ks_superIn K C_Unknown C_Unknown "__init__" = some (some (.builtin "ValueError.__init__")))
    (mr_Unknown : PySem.W.mroIn K C_Unknown (.ref C_Unknown) = some true)
    (sv_Unknown : PySem.W.subIn K (.ref C_Unknown) (.type "ValueError") = some true)
    (n_Unknown_value : PySem.W.findIn K (.ref C_Unknown) "value" = some none)
    (ga_Unknown : PySem.W.findIn K (.ref C_Unknown) "__getattribute__" = some (some (.builtin "BaseException.__getattribute__")))
    (gg_Unknown : PySem.W.findIn K (.ref C_Unknown) "__getattr__" = some none)
    (hdi_Unknown : PySem.W.hasDictIn K C_Unknown = true)
    (xL_Taken : K.lookup C_Taken = some (excClassObj nm_Taken q_Taken C_Taken N_Taken bs_Taken bm_Taken true sn_Taken sub_Taken ab_Taken col_Taken dd_Taken m0_Taken m1_Taken m2_Taken m3_Taken m5_Taken "ValueError.__new__"))
    (rv_Taken : PySem.HandSPX.refsVE bm_Taken = true)
    (sa_Taken : PySem.W.findIn K (.ref C_Taken) "__setattr__" = some (some (.builtin "object.__setattr__")))
    (eC_Taken : PySem.W.subIn K (.ref C_Taken) (.type "BaseException") = some true)
    (tC_Taken : PySem.W.typeIn K (.ref C_Taken) = some (.type "type"))
    (kC_Taken : PySem.W.keepIn K (.ref C_Taken) = true)
    (i_Taken : PySem.W.findIn K (.ref C_Taken) "__init__" = some (some (.ref fI_Taken)))
    (t_Taken : PySem.W.typeIn K (.ref fI_Taken) = some (.type "function"))
    (l_Taken : K.lookup fI_Taken = some ⟨ocI_Taken, odI_Taken, .func (PySem.W.ksFn "__init__" "Taken.__init__" (defArgs s_Taken) (defBody s_Taken) (defScope s_Taken) .none .none dcI_Taken pmI_Taken anI_Taken (.ref cda_Taken) ctI_Taken cc_Taken), slI_Taken⟩)
    (c_Taken : PySem.W.codeIn K (.ref cda_Taken) "Taken.__init__" = true)
    (ce_Taken : K.lookup cc_Taken = some ⟨cl_Taken, cld_Taken, .cell (some (.ref C_Taken)), csl_Taken⟩)
    (co_Taken : K.lookup cda_Taken = some ⟨ccl_Taken, cdd_Taken, .fields vs_Taken, ccs_Taken⟩)
    (v_Taken : vs_Taken[2]? = some (.str fl_Taken tf_Taken))
    (fi_Taken : ((P.main.file : Str) == fl_Taken) = true)
    (su_Taken : PySem.W.ks_superIn K C_Taken C_Taken "__init__" = some (some (.builtin "ValueError.__init__")))
    (mr_Taken : PySem.W.mroIn K C_Taken (.ref C_Taken) = some true)
    (sv_Taken : PySem.W.subIn K (.ref C_Taken) (.type "ValueError") = some true)
    (n_Taken_value : PySem.W.findIn K (.ref C_Taken) "value" = some none)
    (ga_Taken : PySem.W.findIn K (.ref C_Taken) "__getattribute__" = some (some (.builtin "BaseException.__getattribute__")))
    (gg_Taken : PySem.W.findIn K (.ref C_Taken) "__getattr__" = some none)
    (hdi_Taken : PySem.W.hasDictIn K C_Taken = true)
    (xL_Refused : K.lookup C_Refused = some (excClassObj nm_Refused q_Refused C_Refused N_Refused bs_Refused bm_Refused true sn_Refused sub_Refused ab_Refused col_Refused dd_Refused m0_Refused m1_Refused m2_Refused m3_Refused m5_Refused "ValueError.__new__"))
    (rv_Refused : PySem.HandSPX.refsVE bm_Refused = true)
    (sa_Refused : PySem.W.findIn K (.ref C_Refused) "__setattr__" = some (some (.builtin "object.__setattr__")))
    (eC_Refused : PySem.W.subIn K (.ref C_Refused) (.type "BaseException") = some true)
    (tC_Refused : PySem.W.typeIn K (.ref C_Refused) = some (.type "type"))
    (kC_Refused : PySem.W.keepIn K (.ref C_Refused) = true)
    (i_Refused : PySem.W.findIn K (.ref C_Refused) "__init__" = some (some (.ref fI_Refused)))
    (t_Refused : PySem.W.typeIn K (.ref fI_Refused) = some (.type "function"))
    (l_Refused : K.lookup fI_Refused = some ⟨ocI_Refused, odI_Refused, .func (PySem.W.ksFn "__init__" "Refused.__init__" (defArgs s_Refused) (defBody s_Refused) (defScope s_Refused) .none .none dcI_Refused pmI_Refused anI_Refused (.ref cda_Refused) ctI_Refused cc_Refused), slI_Refused⟩)
    (c_Refused : PySem.W.codeIn K (.ref cda_Refused) "Refused.__init__" = true)
    (ce_Refused : K.lookup cc_Refused = some ⟨cl_Refused, cld_Refused, .cell (some (.ref C_Refused)), csl_Refused⟩)
    (co_Refused : K.lookup cda_Refused = some ⟨ccl_Refused, cdd_Refused, .fields vs_Refused, ccs_Refused⟩)
    (v_Refused : vs_Refused[2]? = some (.str fl_Refused tf_Refused))
    (fi_Refused : ((P.main.file : Str) == fl_Refused) = true)
    (su_Refused : PySem.W.ks_superIn K C_Refused C_Refused "__init__" = some (some (.builtin "ValueError.__init__")))
    (mr_Refused : PySem.W.mroIn K C_Refused (.ref C_Refused) = some true)
    (sv_Refused : PySem.W.subIn K (.ref C_Refused) (.type "ValueError") = some true)
    (n_Refused_reason : PySem.W.findIn K (.ref C_Refused) "reason" = some none)
    (n_Refused_names : PySem.W.findIn K (.ref C_Refused) "names" = some none)
    (ga_Refused : PySem.W.findIn K (.ref C_Refused) "__getattribute__" = some (some (.builtin "BaseException.__getattribute__")))
    (gg_Refused : PySem.W.findIn K (.ref C_Refused) "__getattr__" = some none)
    (hdi_Refused : PySem.W.hasDictIn K C_Refused = true)
    (xP_NothingToUndo : PySem.W.excIn K C_NothingToUndo [.type "ValueError", .type "Exception", .type "BaseException", .type "object"] "ValueError.__new__" = true)
    (eC_NothingToUndo : PySem.W.subIn K (.ref C_NothingToUndo) (.type "BaseException") = some true)
    (tC_NothingToUndo : PySem.W.typeIn K (.ref C_NothingToUndo) = some (.type "type"))
    (kC_NothingToUndo : PySem.W.keepIn K (.ref C_NothingToUndo) = true)
    (ga_NothingToUndo : PySem.W.findIn K (.ref C_NothingToUndo) "__getattribute__" = some (some (.builtin "BaseException.__getattribute__")))
    (gg_NothingToUndo : PySem.W.findIn K (.ref C_NothingToUndo) "__getattr__" = some none)
    (hdi_NothingToUndo : PySem.W.hasDictIn K C_NothingToUndo = true)
    (xa_BadNumber : PySem.W.findIn K (.ref C_BadNumber) "__class__" = some (some (.builtin "object.__class__")))
    (xm_BadNumber : PySem.W.mroIn K C_BadNumber (.type "object") = some true)
    (xc_BadNumber : PySem.W.isClsIn K C_BadNumber = true)
    (sf_BadNumber : PySem.W.subIn K (.ref C_BadNumber) (.ref C_BadNumber) = some true)
    (xa_BadName : PySem.W.findIn K (.ref C_BadName) "__class__" = some (some (.builtin "object.__class__")))
    (xm_BadName : PySem.W.mroIn K C_BadName (.type "object") = some true)
    (xc_BadName : PySem.W.isClsIn K C_BadName = true)
    (sf_BadName : PySem.W.subIn K (.ref C_BadName) (.ref C_BadName) = some true)
    (xa_BadItem : PySem.W.findIn K (.ref C_BadItem) "__class__" = some (some (.builtin "object.__class__")))
    (xm_BadItem : PySem.W.mroIn K C_BadItem (.type "object") = some true)
    (xc_BadItem : PySem.W.isClsIn K C_BadItem = true)
    (sf_BadItem : PySem.W.subIn K (.ref C_BadItem) (.ref C_BadItem) = some true)
    (xa_BadEvent : PySem.W.findIn K (.ref C_BadEvent) "__class__" = some (some (.builtin "object.__class__")))
    (xm_BadEvent : PySem.W.mroIn K C_BadEvent (.type "object") = some true)
    (xc_BadEvent : PySem.W.isClsIn K C_BadEvent = true)
    (sf_BadEvent : PySem.W.subIn K (.ref C_BadEvent) (.ref C_BadEvent) = some true)
    (xa_BadNote : PySem.W.findIn K (.ref C_BadNote) "__class__" = some (some (.builtin "object.__class__")))
    (xm_BadNote : PySem.W.mroIn K C_BadNote (.type "object") = some true)
    (xc_BadNote : PySem.W.isClsIn K C_BadNote = true)
    (sf_BadNote : PySem.W.subIn K (.ref C_BadNote) (.ref C_BadNote) = some true)
    (xa_TooMany : PySem.W.findIn K (.ref C_TooMany) "__class__" = some (some (.builtin "object.__class__")))
    (xm_TooMany : PySem.W.mroIn K C_TooMany (.type "object") = some true)
    (xc_TooMany : PySem.W.isClsIn K C_TooMany = true)
    (sf_TooMany : PySem.W.subIn K (.ref C_TooMany) (.ref C_TooMany) = some true)
    (xa_Unknown : PySem.W.findIn K (.ref C_Unknown) "__class__" = some (some (.builtin "object.__class__")))
    (xm_Unknown : PySem.W.mroIn K C_Unknown (.type "object") = some true)
    (xc_Unknown : PySem.W.isClsIn K C_Unknown = true)
    (sf_Unknown : PySem.W.subIn K (.ref C_Unknown) (.ref C_Unknown) = some true)
    (xa_Taken : PySem.W.findIn K (.ref C_Taken) "__class__" = some (some (.builtin "object.__class__")))
    (xm_Taken : PySem.W.mroIn K C_Taken (.type "object") = some true)
    (xc_Taken : PySem.W.isClsIn K C_Taken = true)
    (sf_Taken : PySem.W.subIn K (.ref C_Taken) (.ref C_Taken) = some true)
    (xa_Refused : PySem.W.findIn K (.ref C_Refused) "__class__" = some (some (.builtin "object.__class__")))
    (xm_Refused : PySem.W.mroIn K C_Refused (.type "object") = some true)
    (xc_Refused : PySem.W.isClsIn K C_Refused = true)
    (sf_Refused : PySem.W.subIn K (.ref C_Refused) (.ref C_Refused) = some true)
    (xa_NothingToUndo : PySem.W.findIn K (.ref C_NothingToUndo) "__class__" = some (some (.builtin "object.__class__")))
    (xm_NothingToUndo : PySem.W.mroIn K C_NothingToUndo (.type "object") = some true)
    (xc_NothingToUndo : PySem.W.isClsIn K C_NothingToUndo = true)
    (sf_NothingToUndo : PySem.W.subIn K (.ref C_NothingToUndo) (.ref C_NothingToUndo) = some true)
    (ks_BadNumber_BadName : PySem.W.subIn K (.ref C_BadName) (.ref C_BadNumber) = some false)
    (ks_BadNumber_BadItem : PySem.W.subIn K (.ref C_BadItem) (.ref C_BadNumber) = some false)
    (ks_BadNumber_BadEvent : PySem.W.subIn K (.ref C_BadEvent) (.ref C_BadNumber) = some false)
    (ks_BadNumber_BadNote : PySem.W.subIn K (.ref C_BadNote) (.ref C_BadNumber) = some false)
    (ks_BadNumber_TooMany : PySem.W.subIn K (.ref C_TooMany) (.ref C_BadNumber) = some false)
    (ks_BadNumber_Unknown : PySem.W.subIn K (.ref C_Unknown) (.ref C_BadNumber) = some false)
    (ks_BadNumber_Taken : PySem.W.subIn K (.ref C_Taken) (.ref C_BadNumber) = some false)
    (ks_BadNumber_Refused : PySem.W.subIn K (.ref C_Refused) (.ref C_BadNumber) = some false)
    (ks_BadNumber_NothingToUndo : PySem.W.subIn K (.ref C_NothingToUndo) (.ref C_BadNumber) = some false)
    (ks_BadName_BadNumber : PySem.W.subIn K (.ref C_BadNumber) (.ref C_BadName) = some false)
    (ks_BadName_BadItem : PySem.W.subIn K (.ref C_BadItem) (.ref C_BadName) = some false)
    (ks_BadName_BadEvent : PySem.W.subIn K (.ref C_BadEvent) (.ref C_BadName) = some false)
    (ks_BadName_BadNote : PySem.W.subIn K (.ref C_BadNote) (.ref C_BadName) = some false)
    (ks_BadName_TooMany : PySem.W.subIn K (.ref C_TooMany) (.ref C_BadName) = some false)
    (ks_BadName_Unknown : PySem.W.subIn K (.ref C_Unknown) (.ref C_BadName) = some false)
    (ks_BadName_Taken : PySem.W.subIn K (.ref C_Taken) (.ref C_BadName) = some false)
    (ks_BadName_Refused : PySem.W.subIn K (.ref C_Refused) (.ref C_BadName) = some false)
    (ks_BadName_NothingToUndo : PySem.W.subIn K (.ref C_NothingToUndo) (.ref C_BadName) = some false)
    (ks_BadItem_BadNumber : PySem.W.subIn K (.ref C_BadNumber) (.ref C_BadItem) = some false)
    (ks_BadItem_BadName : PySem.W.subIn K (.ref C_BadName) (.ref C_BadItem) = some false)
    (ks_BadItem_BadEvent : PySem.W.subIn K (.ref C_BadEvent) (.ref C_BadItem) = some false)
    (ks_BadItem_BadNote : PySem.W.subIn K (.ref C_BadNote) (.ref C_BadItem) = some false)
    (ks_BadItem_TooMany : PySem.W.subIn K (.ref C_TooMany) (.ref C_BadItem) = some false)
    (ks_BadItem_Unknown : PySem.W.subIn K (.ref C_Unknown) (.ref C_BadItem) = some false)
    (ks_BadItem_Taken : PySem.W.subIn K (.ref C_Taken) (.ref C_BadItem) = some false)
    (ks_BadItem_Refused : PySem.W.subIn K (.ref C_Refused) (.ref C_BadItem) = some false)
    (ks_BadItem_NothingToUndo : PySem.W.subIn K (.ref C_NothingToUndo) (.ref C_BadItem) = some false)
    (ks_BadEvent_BadNumber : PySem.W.subIn K (.ref C_BadNumber) (.ref C_BadEvent) = some false)
    (ks_BadEvent_BadName : PySem.W.subIn K (.ref C_BadName) (.ref C_BadEvent) = some false)
    (ks_BadEvent_BadItem : PySem.W.subIn K (.ref C_BadItem) (.ref C_BadEvent) = some false)
    (ks_BadEvent_BadNote : PySem.W.subIn K (.ref C_BadNote) (.ref C_BadEvent) = some false)
    (ks_BadEvent_TooMany : PySem.W.subIn K (.ref C_TooMany) (.ref C_BadEvent) = some false)
    (ks_BadEvent_Unknown : PySem.W.subIn K (.ref C_Unknown) (.ref C_BadEvent) = some false)
    (ks_BadEvent_Taken : PySem.W.subIn K (.ref C_Taken) (.ref C_BadEvent) = some false)
    (ks_BadEvent_Refused : PySem.W.subIn K (.ref C_Refused) (.ref C_BadEvent) = some false)
    (ks_BadEvent_NothingToUndo : PySem.W.subIn K (.ref C_NothingToUndo) (.ref C_BadEvent) = some false)
    (ks_BadNote_BadNumber : PySem.W.subIn K (.ref C_BadNumber) (.ref C_BadNote) = some false)
    (ks_BadNote_BadName : PySem.W.subIn K (.ref C_BadName) (.ref C_BadNote) = some false)
    (ks_BadNote_BadItem : PySem.W.subIn K (.ref C_BadItem) (.ref C_BadNote) = some false)
    (ks_BadNote_BadEvent : PySem.W.subIn K (.ref C_BadEvent) (.ref C_BadNote) = some false)
    (ks_BadNote_TooMany : PySem.W.subIn K (.ref C_TooMany) (.ref C_BadNote) = some false)
    (ks_BadNote_Unknown : PySem.W.subIn K (.ref C_Unknown) (.ref C_BadNote) = some false)
    (ks_BadNote_Taken : PySem.W.subIn K (.ref C_Taken) (.ref C_BadNote) = some false)
    (ks_BadNote_Refused : PySem.W.subIn K (.ref C_Refused) (.ref C_BadNote) = some false)
    (ks_BadNote_NothingToUndo : PySem.W.subIn K (.ref C_NothingToUndo) (.ref C_BadNote) = some false)
    (ks_TooMany_BadNumber : PySem.W.subIn K (.ref C_BadNumber) (.ref C_TooMany) = some false)
    (ks_TooMany_BadName : PySem.W.subIn K (.ref C_BadName) (.ref C_TooMany) = some false)
    (ks_TooMany_BadItem : PySem.W.subIn K (.ref C_BadItem) (.ref C_TooMany) = some false)
    (ks_TooMany_BadEvent : PySem.W.subIn K (.ref C_BadEvent) (.ref C_TooMany) = some false)
    (ks_TooMany_BadNote : PySem.W.subIn K (.ref C_BadNote) (.ref C_TooMany) = some false)
    (ks_TooMany_Unknown : PySem.W.subIn K (.ref C_Unknown) (.ref C_TooMany) = some false)
    (ks_TooMany_Taken : PySem.W.subIn K (.ref C_Taken) (.ref C_TooMany) = some false)
    (ks_TooMany_Refused : PySem.W.subIn K (.ref C_Refused) (.ref C_TooMany) = some false)
    (ks_TooMany_NothingToUndo : PySem.W.subIn K (.ref C_NothingToUndo) (.ref C_TooMany) = some false)
    (ks_Unknown_BadNumber : PySem.W.subIn K (.ref C_BadNumber) (.ref C_Unknown) = some false)
    (ks_Unknown_BadName : PySem.W.subIn K (.ref C_BadName) (.ref C_Unknown) = some false)
    (ks_Unknown_BadItem : PySem.W.subIn K (.ref C_BadItem) (.ref C_Unknown) = some false)
    (ks_Unknown_BadEvent : PySem.W.subIn K (.ref C_BadEvent) (.ref C_Unknown) = some false)
    (ks_Unknown_BadNote : PySem.W.subIn K (.ref C_BadNote) (.ref C_Unknown) = some false)
    (ks_Unknown_TooMany : PySem.W.subIn K (.ref C_TooMany) (.ref C_Unknown) = some false)
    (ks_Unknown_Taken : PySem.W.subIn K (.ref C_Taken) (.ref C_Unknown) = some false)
    (ks_Unknown_Refused : PySem.W.subIn K (.ref C_Refused) (.ref C_Unknown) = some false)
    (ks_Unknown_NothingToUndo : PySem.W.subIn K (.ref C_NothingToUndo) (.ref C_Unknown) = some false)
    (ks_Taken_BadNumber : PySem.W.subIn K (.ref C_BadNumber) (.ref C_Taken) = some false)
    (ks_Taken_BadName : PySem.W.subIn K (.ref C_BadName) (.ref C_Taken) = some false)
    (ks_Taken_BadItem : PySem.W.subIn K (.ref C_BadItem) (.ref C_Taken) = some false)
    (ks_Taken_BadEvent : PySem.W.subIn K (.ref C_BadEvent) (.ref C_Taken) = some false)
    (ks_Taken_BadNote : PySem.W.subIn K (.ref C_BadNote) (.ref C_Taken) = some false)
    (ks_Taken_TooMany : PySem.W.subIn K (.ref C_TooMany) (.ref C_Taken) = some false)
    (ks_Taken_Unknown : PySem.W.subIn K (.ref C_Unknown) (.ref C_Taken) = some false)
    (ks_Taken_Refused : PySem.W.subIn K (.ref C_Refused) (.ref C_Taken) = some false)
    (ks_Taken_NothingToUndo : PySem.W.subIn K (.ref C_NothingToUndo) (.ref C_Taken) = some false)
    (ks_Refused_BadNumber : PySem.W.subIn K (.ref C_BadNumber) (.ref C_Refused) = some false)
    (ks_Refused_BadName : PySem.W.subIn K (.ref C_BadName) (.ref C_Refused) = some false)
    (ks_Refused_BadItem : PySem.W.subIn K (.ref C_BadItem) (.ref C_Refused) = some false)
    (ks_Refused_BadEvent : PySem.W.subIn K (.ref C_BadEvent) (.ref C_Refused) = some false)
    (ks_Refused_BadNote : PySem.W.subIn K (.ref C_BadNote) (.ref C_Refused) = some false)
    (ks_Refused_TooMany : PySem.W.subIn K (.ref C_TooMany) (.ref C_Refused) = some false)
    (ks_Refused_Unknown : PySem.W.subIn K (.ref C_Unknown) (.ref C_Refused) = some false)
    (ks_Refused_Taken : PySem.W.subIn K (.ref C_Taken) (.ref C_Refused) = some false)
    (ks_Refused_NothingToUndo : PySem.W.subIn K (.ref C_NothingToUndo) (.ref C_Refused) = some false)
    (ks_NothingToUndo_BadNumber : PySem.W.subIn K (.ref C_BadNumber) (.ref C_NothingToUndo) = some false)
    (ks_NothingToUndo_BadName : PySem.W.subIn K (.ref C_BadName) (.ref C_NothingToUndo) = some false)
    (ks_NothingToUndo_BadItem : PySem.W.subIn K (.ref C_BadItem) (.ref C_NothingToUndo) = some false)
    (ks_NothingToUndo_BadEvent : PySem.W.subIn K (.ref C_BadEvent) (.ref C_NothingToUndo) = some false)
    (ks_NothingToUndo_BadNote : PySem.W.subIn K (.ref C_BadNote) (.ref C_NothingToUndo) = some false)
    (ks_NothingToUndo_TooMany : PySem.W.subIn K (.ref C_TooMany) (.ref C_NothingToUndo) = some false)
    (ks_NothingToUndo_Unknown : PySem.W.subIn K (.ref C_Unknown) (.ref C_NothingToUndo) = some false)
    (ks_NothingToUndo_Taken : PySem.W.subIn K (.ref C_Taken) (.ref C_NothingToUndo) = some false)
    (ks_NothingToUndo_Refused : PySem.W.subIn K (.ref C_Refused) (.ref C_NothingToUndo) = some false)
    (ks_ValueError_BadNumber : PySem.W.subIn K (.ref C_BadNumber) (.type "ValueError") = some true)
    (ks_ValueError_BadName : PySem.W.subIn K (.ref C_BadName) (.type "ValueError") = some true)
    (ks_ValueError_BadItem : PySem.W.subIn K (.ref C_BadItem) (.type "ValueError") = some true)
    (ks_ValueError_BadEvent : PySem.W.subIn K (.ref C_BadEvent) (.type "ValueError") = some true)
    (ks_ValueError_BadNote : PySem.W.subIn K (.ref C_BadNote) (.type "ValueError") = some true)
    (ks_ValueError_TooMany : PySem.W.subIn K (.ref C_TooMany) (.type "ValueError") = some true)
    (ks_ValueError_Unknown : PySem.W.subIn K (.ref C_Unknown) (.type "ValueError") = some true)
    (ks_ValueError_Taken : PySem.W.subIn K (.ref C_Taken) (.type "ValueError") = some true)
    (ks_ValueError_Refused : PySem.W.subIn K (.ref C_Refused) (.type "ValueError") = some true)
    (ks_ValueError_NothingToUndo : PySem.W.subIn K (.ref C_NothingToUndo) (.type "ValueError") = some true)
    (ks_LookupError_BadNumber : PySem.W.subIn K (.ref C_BadNumber) (.type "LookupError") = some false)
    (ks_LookupError_BadName : PySem.W.subIn K (.ref C_BadName) (.type "LookupError") = some false)
    (ks_LookupError_BadItem : PySem.W.subIn K (.ref C_BadItem) (.type "LookupError") = some false)
    (ks_LookupError_BadEvent : PySem.W.subIn K (.ref C_BadEvent) (.type "LookupError") = some false)
    (ks_LookupError_BadNote : PySem.W.subIn K (.ref C_BadNote) (.type "LookupError") = some false)
    (ks_LookupError_TooMany : PySem.W.subIn K (.ref C_TooMany) (.type "LookupError") = some false)
    (ks_LookupError_Unknown : PySem.W.subIn K (.ref C_Unknown) (.type "LookupError") = some false)
    (ks_LookupError_Taken : PySem.W.subIn K (.ref C_Taken) (.type "LookupError") = some false)
    (ks_LookupError_Refused : PySem.W.subIn K (.ref C_Refused) (.type "LookupError") = some false)
    (ks_LookupError_NothingToUndo : PySem.W.subIn K (.ref C_NothingToUndo) (.type "LookupError") = some false)
    (ks_RuntimeError_BadNumber : PySem.W.subIn K (.ref C_BadNumber) (.type "RuntimeError") = some false)
    (ks_RuntimeError_BadName : PySem.W.subIn K (.ref C_BadName) (.type "RuntimeError") = some false)
    (ks_RuntimeError_BadItem : PySem.W.subIn K (.ref C_BadItem) (.type "RuntimeError") = some false)
    (ks_RuntimeError_BadEvent : PySem.W.subIn K (.ref C_BadEvent) (.type "RuntimeError") = some false)
    (ks_RuntimeError_BadNote : PySem.W.subIn K (.ref C_BadNote) (.type "RuntimeError") = some false)
    (ks_RuntimeError_TooMany : PySem.W.subIn K (.ref C_TooMany) (.type "RuntimeError") = some false)
    (ks_RuntimeError_Unknown : PySem.W.subIn K (.ref C_Unknown) (.type "RuntimeError") = some false)
    (ks_RuntimeError_Taken : PySem.W.subIn K (.ref C_Taken) (.type "RuntimeError") = some false)
    (ks_RuntimeError_Refused : PySem.W.subIn K (.ref C_Refused) (.type "RuntimeError") = some false)
    (ks_RuntimeError_NothingToUndo : PySem.W.subIn K (.ref C_NothingToUndo) (.type "RuntimeError") = some false)
    (eb_StagesError : PySem.W.subIn K (.ref C_StagesError) (.type "BaseException") = some true)
    (ec_StagesError : PySem.W.isClsIn K C_StagesError = true)
    (et_StagesError : PySem.W.typeIn K (.ref C_StagesError) = some (.type "type"))
    (e_StagesError_BadNumber : PySem.W.subIn K (.ref C_BadNumber) (.ref C_StagesError) = some true)
    (e_StagesError_BadName : PySem.W.subIn K (.ref C_BadName) (.ref C_StagesError) = some true)
    (e_StagesError_BadItem : PySem.W.subIn K (.ref C_BadItem) (.ref C_StagesError) = some true)
    (e_StagesError_BadEvent : PySem.W.subIn K (.ref C_BadEvent) (.ref C_StagesError) = some true)
    (e_StagesError_BadNote : PySem.W.subIn K (.ref C_BadNote) (.ref C_StagesError) = some true)
    (e_StagesError_TooMany : PySem.W.subIn K (.ref C_TooMany) (.ref C_StagesError) = some true)
    (e_StagesError_Unknown : PySem.W.subIn K (.ref C_Unknown) (.ref C_StagesError) = some true)
    (e_StagesError_Taken : PySem.W.subIn K (.ref C_Taken) (.ref C_StagesError) = some true)
    (e_StagesError_Refused : PySem.W.subIn K (.ref C_Refused) (.ref C_StagesError) = some true)
    (e_StagesError_NothingToUndo : PySem.W.subIn K (.ref C_NothingToUndo) (.ref C_StagesError) = some true)
    : ∃ fd : FuncData, (∀ (s : Shared) (v : Value), BindsTo s fd ⟨[v], []⟩ [("script", v)]) ∧ ∀ base : Heap, K.In base → base.Ns mainGlobals mg → FnG P w K mg base (L2.CX P w) 8 fa fd ["script"] (spTop K) := by
  have e := hfa.symm.trans (PySem.W.mg_of X G a_law)
  cases e
  have B : NoB mg := ⟨PySem.W.mg_none_of X G z_len, PySem.W.mg_none_of X G z_abs, PySem.W.mg_none_of X G z_int, PySem.W.mg_none_of X G z_tuple, PySem.W.mg_none_of X G z_list, PySem.W.mg_none_of X G z_sum, PySem.W.mg_none_of X G z_max, PySem.W.mg_none_of X G z_min, PySem.W.mg_none_of X G z_any, PySem.W.mg_none_of X G z_all, PySem.W.mg_none_of X G z_range, PySem.W.mg_none_of X G z_isinstance, PySem.W.mg_none_of X G z_str, PySem.W.mg_none_of X G z_bool, PySem.W.mg_none_of X G z_sorted, PySem.W.mg_none_of X G z_set, PySem.W.mg_none_of X G z_dict, PySem.W.mg_none_of X G z_enumerate, PySem.W.mg_none_of X G z_zip, PySem.W.mg_none_of X G z_repr⟩
  have hsup := PySem.W.mg_none_of X G z_super
  have hT : (mkT K [C_BadNumber, C_BadName, C_BadItem, C_BadEvent, C_BadNote, C_TooMany, C_Unknown, C_Taken, C_Refused, C_NothingToUndo] [] [] ["value", "index", "line", "limit", "reason", "names"]).K = K := rfl
  have hinj : ∀ a b, (mkT K [C_BadNumber, C_BadName, C_BadItem, C_BadEvent, C_BadNote, C_TooMany, C_Unknown, C_Taken, C_Refused, C_NothingToUndo] [] [] ["value", "index", "line", "limit", "reason", "names"]).fnm a = (mkT K [C_BadNumber, C_BadName, C_BadItem, C_BadEvent, C_BadNote, C_TooMany, C_Unknown, C_Taken, C_Refused, C_NothingToUndo] [] [] ["value", "index", "line", "limit", "reason", "names"]).fnm b → a = b := mkF_inj (by decide +kernel) (by decide +kernel)
  have F__law_alike := fun_mk (st := s__law_alike) l__law_alike c__law_alike k__law_alike
  have F__law_taken := fun_mk (st := s__law_taken) l__law_taken c__law_taken k__law_taken
  have F__law_pick := fun_mk (st := s__law_pick) l__law_pick c__law_pick k__law_pick
  have F__law_raised := fun_mk (st := s__law_raised) l__law_raised c__law_raised k__law_raised
  have F_law := fun_mk (st := s_law) l_law c_law k_law
  refine ⟨PySem.W.fnOf "law" "law" (defArgs s_law) (defBody s_law) (defScope s_law) .none kV_law dc_law pm_law an_law cd_law ct_law, fun s v => .of_eq rfl, fun base _ _ => ?_⟩
  have x_BadNumber := ext1 (P := P) (w := w) (base := base) (T := mkT K [C_BadNumber, C_BadName, C_BadItem, C_BadEvent, C_BadNote, C_TooMany, C_Unknown, C_Taken, C_Refused, C_NothingToUndo] [] [] ["value", "index", "line", "limit", "reason", "names"]) (c := 0) (n1 := 0) (pl := fun env => do return (← importBound (.Call (.Name "super" ⟨0, 0, 0, 0⟩) [] [] ⟨0, 0, 0, 0⟩) env).getD true) l_BadNumber (PySem.W.mg_of X G aC_BadNumber) c_BadNumber ⟨⟨_, _, _, ce_BadNumber⟩, ⟨_, _, _, _, _, _, co_BadNumber, v_BadNumber, fi_BadNumber⟩, su_BadNumber, mr_BadNumber, sv_BadNumber, nos, tp⟩ ⟨⟨_, _, _, _, _, _, _, _, _, _, _, _, _, _, _, xL_BadNumber, rv_BadNumber⟩, sa_BadNumber, eC_BadNumber, tC_BadNumber, kC_BadNumber⟩ i_BadNumber t_BadNumber n_BadNumber_value hsup rfl rfl (by decide +kernel) ⟨_, rfl, rfl⟩ rfl (by decide +kernel) (by decide +kernel) (fun us hl => match us, hl with | [_, _], _ => rfl) (fun _ => rfl)
  have x_BadName := ext1 (P := P) (w := w) (base := base) (T := mkT K [C_BadNumber, C_BadName, C_BadItem, C_BadEvent, C_BadNote, C_TooMany, C_Unknown, C_Taken, C_Refused, C_NothingToUndo] [] [] ["value", "index", "line", "limit", "reason", "names"]) (c := 1) (n1 := 0) (pl := fun env => do return (← importBound (.Call (.Name "super" ⟨0, 0, 0, 0⟩) [] [] ⟨0, 0, 0, 0⟩) env).getD true) l_BadName (PySem.W.mg_of X G aC_BadName) c_BadName ⟨⟨_, _, _, ce_BadName⟩, ⟨_, _, _, _, _, _, co_BadName, v_BadName, fi_BadName⟩, su_BadName, mr_BadName, sv_BadName, nos, tp⟩ ⟨⟨_, _, _, _, _, _, _, _, _, _, _, _, _, _, _, xL_BadName, rv_BadName⟩, sa_BadName, eC_BadName, tC_BadName, kC_BadName⟩ i_BadName t_BadName n_BadName_value hsup rfl rfl (by decide +kernel) ⟨_, rfl, rfl⟩ rfl (by decide +kernel) (by decide +kernel) (fun us hl => match us, hl with | [_, _], _ => rfl) (fun _ => rfl)
  have x_BadItem := ext1 (P := P) (w := w) (base := base) (T := mkT K [C_BadNumber, C_BadName, C_BadItem, C_BadEvent, C_BadNote, C_TooMany, C_Unknown, C_Taken, C_Refused, C_NothingToUndo] [] [] ["value", "index", "line", "limit", "reason", "names"]) (c := 2) (n1 := 1) (pl := fun env => do return (← importBound (.Call (.Name "super" ⟨0, 0, 0, 0⟩) [] [] ⟨0, 0, 0, 0⟩) env).getD true) l_BadItem (PySem.W.mg_of X G aC_BadItem) c_BadItem ⟨⟨_, _, _, ce_BadItem⟩, ⟨_, _, _, _, _, _, co_BadItem, v_BadItem, fi_BadItem⟩, su_BadItem, mr_BadItem, sv_BadItem, nos, tp⟩ ⟨⟨_, _, _, _, _, _, _, _, _, _, _, _, _, _, _, xL_BadItem, rv_BadItem⟩, sa_BadItem, eC_BadItem, tC_BadItem, kC_BadItem⟩ i_BadItem t_BadItem n_BadItem_index hsup rfl rfl (by decide +kernel) ⟨_, rfl, rfl⟩ rfl (by decide +kernel) (by decide +kernel) (fun us hl => match us, hl with | [_, _], _ => rfl) (fun _ => rfl)
  have x_BadEvent := ext1 (P := P) (w := w) (base := base) (T := mkT K [C_BadNumber, C_BadName, C_BadItem, C_BadEvent, C_BadNote, C_TooMany, C_Unknown, C_Taken, C_Refused, C_NothingToUndo] [] [] ["value", "index", "line", "limit", "reason", "names"]) (c := 3) (n1 := 0) (pl := fun env => do return (← importBound (.Call (.Name "super" ⟨0, 0, 0, 0⟩) [] [] ⟨0, 0, 0, 0⟩) env).getD true) l_BadEvent (PySem.W.mg_of X G aC_BadEvent) c_BadEvent ⟨⟨_, _, _, ce_BadEvent⟩, ⟨_, _, _, _, _, _, co_BadEvent, v_BadEvent, fi_BadEvent⟩, su_BadEvent, mr_BadEvent, sv_BadEvent, nos, tp⟩ ⟨⟨_, _, _, _, _, _, _, _, _, _, _, _, _, _, _, xL_BadEvent, rv_BadEvent⟩, sa_BadEvent, eC_BadEvent, tC_BadEvent, kC_BadEvent⟩ i_BadEvent t_BadEvent n_BadEvent_value hsup rfl rfl (by decide +kernel) ⟨_, rfl, rfl⟩ rfl (by decide +kernel) (by decide +kernel) (fun us hl => match us, hl with | [_, _], _ => rfl) (fun _ => rfl)
  have x_BadNote := ext1 (P := P) (w := w) (base := base) (T := mkT K [C_BadNumber, C_BadName, C_BadItem, C_BadEvent, C_BadNote, C_TooMany, C_Unknown, C_Taken, C_Refused, C_NothingToUndo] [] [] ["value", "index", "line", "limit", "reason", "names"]) (c := 4) (n1 := 2) (pl := fun env => do return (← importBound (.Call (.Name "super" ⟨0, 0, 0, 0⟩) [] [] ⟨0, 0, 0, 0⟩) env).getD true) l_BadNote (PySem.W.mg_of X G aC_BadNote) c_BadNote ⟨⟨_, _, _, ce_BadNote⟩, ⟨_, _, _, _, _, _, co_BadNote, v_BadNote, fi_BadNote⟩, su_BadNote, mr_BadNote, sv_BadNote, nos, tp⟩ ⟨⟨_, _, _, _, _, _, _, _, _, _, _, _, _, _, _, xL_BadNote, rv_BadNote⟩, sa_BadNote, eC_BadNote, tC_BadNote, kC_BadNote⟩ i_BadNote t_BadNote n_BadNote_line hsup rfl rfl (by decide +kernel) ⟨_, rfl, rfl⟩ rfl (by decide +kernel) (by decide +kernel) (fun us hl => match us, hl with | [_, _], _ => rfl) (fun _ => rfl)
  have x_TooMany := ext1 (P := P) (w := w) (base := base) (T := mkT K [C_BadNumber, C_BadName, C_BadItem, C_BadEvent, C_BadNote, C_TooMany, C_Unknown, C_Taken, C_Refused, C_NothingToUndo] [] [] ["value", "index", "line", "limit", "reason", "names"]) (c := 5) (n1 := 3) (pl := fun env => do return (← importBound (.Call (.Name "super" ⟨0, 0, 0, 0⟩) [] [] ⟨0, 0, 0, 0⟩) env).getD true) l_TooMany (PySem.W.mg_of X G aC_TooMany) c_TooMany ⟨⟨_, _, _, ce_TooMany⟩, ⟨_, _, _, _, _, _, co_TooMany, v_TooMany, fi_TooMany⟩, su_TooMany, mr_TooMany, sv_TooMany, nos, tp⟩ ⟨⟨_, _, _, _, _, _, _, _, _, _, _, _, _, _, _, xL_TooMany, rv_TooMany⟩, sa_TooMany, eC_TooMany, tC_TooMany, kC_TooMany⟩ i_TooMany t_TooMany n_TooMany_limit hsup rfl rfl (by decide +kernel) ⟨_, rfl, rfl⟩ rfl (by decide +kernel) (by decide +kernel) (fun us hl => match us, hl with | [_, _], _ => rfl) (fun _ => rfl)
  have x_Unknown := ext1 (P := P) (w := w) (base := base) (T := mkT K [C_BadNumber, C_BadName, C_BadItem, C_BadEvent, C_BadNote, C_TooMany, C_Unknown, C_Taken, C_Refused, C_NothingToUndo] [] [] ["value", "index", "line", "limit", "reason", "names"]) (c := 6) (n1 := 0) (pl := fun env => do return (← importBound (.Call (.Name "super" ⟨0, 0, 0, 0⟩) [] [] ⟨0, 0, 0, 0⟩) env).getD true) l_Unknown (PySem.W.mg_of X G aC_Unknown) c_Unknown ⟨⟨_, _, _, ce_Unknown⟩, ⟨_, _, _, _, _, _, co_Unknown, v_Unknown, fi_Unknown⟩, su_Unknown, mr_Unknown, sv_Unknown, nos, tp⟩ ⟨⟨_, _, _, _, _, _, _, _, _, _, _, _, _, _, _, xL_Unknown, rv_Unknown⟩, sa_Unknown, eC_Unknown, tC_Unknown, kC_Unknown⟩ i_Unknown t_Unknown n_Unknown_value hsup rfl rfl (by decide +kernel) ⟨_, rfl, rfl⟩ rfl (by decide +kernel) (by decide +kernel) (fun us hl => match us, hl with | [_, _], _ => rfl) (fun _ => rfl)
  have x_Taken := ext1 (P := P) (w := w) (base := base) (T := mkT K [C_BadNumber, C_BadName, C_BadItem, C_BadEvent, C_BadNote, C_TooMany, C_Unknown, C_Taken, C_Refused, C_NothingToUndo] [] [] ["value", "index", "line", "limit", "reason", "names"]) (c := 7) (n1 := 0) (pl := fun env => do return (← importBound (.Call (.Name "super" ⟨0, 0, 0, 0⟩) [] [] ⟨0, 0, 0, 0⟩) env).getD true) l_Taken (PySem.W.mg_of X G aC_Taken) c_Taken ⟨⟨_, _, _, ce_Taken⟩, ⟨_, _, _, _, _, _, co_Taken, v_Taken, fi_Taken⟩, su_Taken, mr_Taken, sv_Taken, nos, tp⟩ ⟨⟨_, _, _, _, _, _, _, _, _, _, _, _, _, _, _, xL_Taken, rv_Taken⟩, sa_Taken, eC_Taken, tC_Taken, kC_Taken⟩ i_Taken t_Taken n_Taken_value hsup rfl rfl (by decide +kernel) ⟨_, rfl, rfl⟩ rfl (by decide +kernel) (by decide +kernel) (fun us hl => match us, hl with | [_, _], _ => rfl) (fun _ => rfl)
  have x_Refused := ext2 (P := P) (w := w) (base := base) (T := mkT K [C_BadNumber, C_BadName, C_BadItem, C_BadEvent, C_BadNote, C_TooMany, C_Unknown, C_Taken, C_Refused, C_NothingToUndo] [] [] ["value", "index", "line", "limit", "reason", "names"]) (c := 8) (n1 := 4) (n2 := 5) (pl := fun env => do return (← importBound (.Call (.Name "super" ⟨0, 0, 0, 0⟩) [] [] ⟨0, 0, 0, 0⟩) env).getD true) l_Refused (PySem.W.mg_of X G aC_Refused) c_Refused ⟨⟨_, _, _, ce_Refused⟩, ⟨_, _, _, _, _, _, co_Refused, v_Refused, fi_Refused⟩, su_Refused, mr_Refused, sv_Refused, nos, tp⟩ ⟨⟨_, _, _, _, _, _, _, _, _, _, _, _, _, _, _, xL_Refused, rv_Refused⟩, sa_Refused, eC_Refused, tC_Refused, kC_Refused⟩ i_Refused t_Refused n_Refused_reason n_Refused_names hsup rfl rfl rfl (by decide +kernel) ⟨_, rfl, rfl⟩ rfl (by decide +kernel) (by decide +kernel) (by decide +kernel) (by decide +kernel) (fun us hl => match us, hl with | [_, _, _], _ => rfl) (fun _ => rfl)
  have h_StagesError : HdT K mg (mkT K [C_BadNumber, C_BadName, C_BadItem, C_BadEvent, C_BadNote, C_TooMany, C_Unknown, C_Taken, C_Refused, C_NothingToUndo] [] [] ["value", "index", "line", "limit", "reason", "names"]) "StagesError" hd_StagesError := by
    refine ⟨_, PySem.W.mg_of X G aC_StagesError, fun c b hb => ?_⟩
    unfold hd_StagesError at hb
    by_cases eBadNumber : c = 0
    · subst eBadNumber; cases hb; exact exm_of eb_StagesError ec_StagesError et_StagesError e_StagesError_BadNumber
    by_cases eBadName : c = 1
    · subst eBadName; cases hb; exact exm_of eb_StagesError ec_StagesError et_StagesError e_StagesError_BadName
    by_cases eBadItem : c = 2
    · subst eBadItem; cases hb; exact exm_of eb_StagesError ec_StagesError et_StagesError e_StagesError_BadItem
    by_cases eBadEvent : c = 3
    · subst eBadEvent; cases hb; exact exm_of eb_StagesError ec_StagesError et_StagesError e_StagesError_BadEvent
    by_cases eBadNote : c = 4
    · subst eBadNote; cases hb; exact exm_of eb_StagesError ec_StagesError et_StagesError e_StagesError_BadNote
    by_cases eTooMany : c = 5
    · subst eTooMany; cases hb; exact exm_of eb_StagesError ec_StagesError et_StagesError e_StagesError_TooMany
    by_cases eUnknown : c = 6
    · subst eUnknown; cases hb; exact exm_of eb_StagesError ec_StagesError et_StagesError e_StagesError_Unknown
    by_cases eTaken : c = 7
    · subst eTaken; cases hb; exact exm_of eb_StagesError ec_StagesError et_StagesError e_StagesError_Taken
    by_cases eRefused : c = 8
    · subst eRefused; cases hb; exact exm_of eb_StagesError ec_StagesError et_StagesError e_StagesError_Refused
    by_cases eNothingToUndo : c = 9
    · subst eNothingToUndo; cases hb; exact exm_of eb_StagesError ec_StagesError et_StagesError e_StagesError_NothingToUndo
    simp only [if_neg eBadNumber, if_neg eBadName, if_neg eBadItem, if_neg eBadEvent, if_neg eBadNote, if_neg eTooMany, if_neg eUnknown, if_neg eTaken, if_neg eRefused, if_neg eNothingToUndo] at hb; cases hb
  have xf_index : XfT K (mkT K [C_BadNumber, C_BadName, C_BadItem, C_BadEvent, C_BadNote, C_TooMany, C_Unknown, C_Taken, C_Refused, C_NothingToUndo] [] [] ["value", "index", "line", "limit", "reason", "names"]) 1 "index" okX_index := by
    refine ⟨rfl, fun c hc => ?_⟩
    have hc := of_decide_eq_true hc
    obtain rfl := hc
    · exact ⟨⟨ga_BadItem, gg_BadItem, eC_BadItem, hdi_BadItem⟩, n_BadItem_index⟩
  have xf_limit : XfT K (mkT K [C_BadNumber, C_BadName, C_BadItem, C_BadEvent, C_BadNote, C_TooMany, C_Unknown, C_Taken, C_Refused, C_NothingToUndo] [] [] ["value", "index", "line", "limit", "reason", "names"]) 3 "limit" okX_limit := by
    refine ⟨rfl, fun c hc => ?_⟩
    have hc := of_decide_eq_true hc
    obtain rfl := hc
    · exact ⟨⟨ga_TooMany, gg_TooMany, eC_TooMany, hdi_TooMany⟩, n_TooMany_limit⟩
  have xf_line : XfT K (mkT K [C_BadNumber, C_BadName, C_BadItem, C_BadEvent, C_BadNote, C_TooMany, C_Unknown, C_Taken, C_Refused, C_NothingToUndo] [] [] ["value", "index", "line", "limit", "reason", "names"]) 2 "line" okX_line := by
    refine ⟨rfl, fun c hc => ?_⟩
    have hc := of_decide_eq_true hc
    obtain rfl := hc
    · exact ⟨⟨ga_BadNote, gg_BadNote, eC_BadNote, hdi_BadNote⟩, n_BadNote_line⟩
  have xf_names : XfT K (mkT K [C_BadNumber, C_BadName, C_BadItem, C_BadEvent, C_BadNote, C_TooMany, C_Unknown, C_Taken, C_Refused, C_NothingToUndo] [] [] ["value", "index", "line", "limit", "reason", "names"]) 5 "names" okX_names := by
    refine ⟨rfl, fun c hc => ?_⟩
    have hc := of_decide_eq_true hc
    obtain rfl := hc
    · exact ⟨⟨ga_Refused, gg_Refused, eC_Refused, hdi_Refused⟩, n_Refused_names⟩
  have xf_reason : XfT K (mkT K [C_BadNumber, C_BadName, C_BadItem, C_BadEvent, C_BadNote, C_TooMany, C_Unknown, C_Taken, C_Refused, C_NothingToUndo] [] [] ["value", "index", "line", "limit", "reason", "names"]) 4 "reason" okX_reason := by
    refine ⟨rfl, fun c hc => ?_⟩
    have hc := of_decide_eq_true hc
    obtain rfl := hc
    · exact ⟨⟨ga_Refused, gg_Refused, eC_Refused, hdi_Refused⟩, n_Refused_reason⟩
  have xf_value : XfT K (mkT K [C_BadNumber, C_BadName, C_BadItem, C_BadEvent, C_BadNote, C_TooMany, C_Unknown, C_Taken, C_Refused, C_NothingToUndo] [] [] ["value", "index", "line", "limit", "reason", "names"]) 0 "value" okX_value := by
    refine ⟨rfl, fun c hc => ?_⟩
    have hc := of_decide_eq_true hc
    rcases hc with rfl | rfl | rfl | rfl | rfl
    · exact ⟨⟨ga_BadNumber, gg_BadNumber, eC_BadNumber, hdi_BadNumber⟩, n_BadNumber_value⟩
    · exact ⟨⟨ga_BadName, gg_BadName, eC_BadName, hdi_BadName⟩, n_BadName_value⟩
    · exact ⟨⟨ga_BadEvent, gg_BadEvent, eC_BadEvent, hdi_BadEvent⟩, n_BadEvent_value⟩
    · exact ⟨⟨ga_Unknown, gg_Unknown, eC_Unknown, hdi_Unknown⟩, n_Unknown_value⟩
    · exact ⟨⟨ga_Taken, gg_Taken, eC_Taken, hdi_Taken⟩, n_Taken_value⟩
  have e0_NothingToUndo : Ex0 K mg (mkT K [C_BadNumber, C_BadName, C_BadItem, C_BadEvent, C_BadNote, C_TooMany, C_Unknown, C_Taken, C_Refused, C_NothingToUndo] [] [] ["value", "index", "line", "limit", "reason", "names"]) "NothingToUndo" 9 := ⟨C_NothingToUndo, PySem.W.mg_of X G aC_NothingToUndo, xP_NothingToUndo, kC_NothingToUndo, eC_NothingToUndo, tC_NothingToUndo, rfl⟩
  have it_BadNumber : IsT K (mkT K [C_BadNumber, C_BadName, C_BadItem, C_BadEvent, C_BadNote, C_TooMany, C_Unknown, C_Taken, C_Refused, C_NothingToUndo] [] [] ["value", "index", "line", "limit", "reason", "names"]) (.ref C_BadNumber) tbl_BadNumber := by
    refine ⟨fun c b hb => ?_⟩
    unfold tbl_BadNumber at hb
    by_cases eBadNumber : c = 0
    · subst eBadNumber; cases hb; exact ⟨⟨ga_BadNumber, gg_BadNumber, eC_BadNumber, hdi_BadNumber, xa_BadNumber, xn, xt, xm_BadNumber⟩, kit_self _⟩
    by_cases eBadName : c = 1
    · subst eBadName; cases hb; exact ⟨⟨ga_BadName, gg_BadName, eC_BadName, hdi_BadName, xa_BadName, xn, xt, xm_BadName⟩, kit_of xc_BadNumber tC_BadNumber ks_BadNumber_BadName sf_BadNumber⟩
    by_cases eBadItem : c = 2
    · subst eBadItem; cases hb; exact ⟨⟨ga_BadItem, gg_BadItem, eC_BadItem, hdi_BadItem, xa_BadItem, xn, xt, xm_BadItem⟩, kit_of xc_BadNumber tC_BadNumber ks_BadNumber_BadItem sf_BadNumber⟩
    by_cases eBadEvent : c = 3
    · subst eBadEvent; cases hb; exact ⟨⟨ga_BadEvent, gg_BadEvent, eC_BadEvent, hdi_BadEvent, xa_BadEvent, xn, xt, xm_BadEvent⟩, kit_of xc_BadNumber tC_BadNumber ks_BadNumber_BadEvent sf_BadNumber⟩
    by_cases eBadNote : c = 4
    · subst eBadNote; cases hb; exact ⟨⟨ga_BadNote, gg_BadNote, eC_BadNote, hdi_BadNote, xa_BadNote, xn, xt, xm_BadNote⟩, kit_of xc_BadNumber tC_BadNumber ks_BadNumber_BadNote sf_BadNumber⟩
    by_cases eTooMany : c = 5
    · subst eTooMany; cases hb; exact ⟨⟨ga_TooMany, gg_TooMany, eC_TooMany, hdi_TooMany, xa_TooMany, xn, xt, xm_TooMany⟩, kit_of xc_BadNumber tC_BadNumber ks_BadNumber_TooMany sf_BadNumber⟩
    by_cases eUnknown : c = 6
    · subst eUnknown; cases hb; exact ⟨⟨ga_Unknown, gg_Unknown, eC_Unknown, hdi_Unknown, xa_Unknown, xn, xt, xm_Unknown⟩, kit_of xc_BadNumber tC_BadNumber ks_BadNumber_Unknown sf_BadNumber⟩
    by_cases eTaken : c = 7
    · subst eTaken; cases hb; exact ⟨⟨ga_Taken, gg_Taken, eC_Taken, hdi_Taken, xa_Taken, xn, xt, xm_Taken⟩, kit_of xc_BadNumber tC_BadNumber ks_BadNumber_Taken sf_BadNumber⟩
    by_cases eRefused : c = 8
    · subst eRefused; cases hb; exact ⟨⟨ga_Refused, gg_Refused, eC_Refused, hdi_Refused, xa_Refused, xn, xt, xm_Refused⟩, kit_of xc_BadNumber tC_BadNumber ks_BadNumber_Refused sf_BadNumber⟩
    by_cases eNothingToUndo : c = 9
    · subst eNothingToUndo; cases hb; exact ⟨⟨ga_NothingToUndo, gg_NothingToUndo, eC_NothingToUndo, hdi_NothingToUndo, xa_NothingToUndo, xn, xt, xm_NothingToUndo⟩, kit_of xc_BadNumber tC_BadNumber ks_BadNumber_NothingToUndo sf_BadNumber⟩
    simp only [if_neg eBadNumber, if_neg eBadName, if_neg eBadItem, if_neg eBadEvent, if_neg eBadNote, if_neg eTooMany, if_neg eUnknown, if_neg eTaken, if_neg eRefused, if_neg eNothingToUndo] at hb; cases hb
  have is_BadNumber : IsTn K mg (mkT K [C_BadNumber, C_BadName, C_BadItem, C_BadEvent, C_BadNote, C_TooMany, C_Unknown, C_Taken, C_Refused, C_NothingToUndo] [] [] ["value", "index", "line", "limit", "reason", "names"]) "BadNumber" tbl_BadNumber := ⟨.inl ⟨C_BadNumber, PySem.W.mg_of X G aC_BadNumber, it_BadNumber⟩⟩
  have it_BadName : IsT K (mkT K [C_BadNumber, C_BadName, C_BadItem, C_BadEvent, C_BadNote, C_TooMany, C_Unknown, C_Taken, C_Refused, C_NothingToUndo] [] [] ["value", "index", "line", "limit", "reason", "names"]) (.ref C_BadName) tbl_BadName := by
    refine ⟨fun c b hb => ?_⟩
    unfold tbl_BadName at hb
    by_cases eBadNumber : c = 0
    · subst eBadNumber; cases hb; exact ⟨⟨ga_BadNumber, gg_BadNumber, eC_BadNumber, hdi_BadNumber, xa_BadNumber, xn, xt, xm_BadNumber⟩, kit_of xc_BadName tC_BadName ks_BadName_BadNumber sf_BadName⟩
    by_cases eBadName : c = 1
    · subst eBadName; cases hb; exact ⟨⟨ga_BadName, gg_BadName, eC_BadName, hdi_BadName, xa_BadName, xn, xt, xm_BadName⟩, kit_self _⟩
    by_cases eBadItem : c = 2
    · subst eBadItem; cases hb; exact ⟨⟨ga_BadItem, gg_BadItem, eC_BadItem, hdi_BadItem, xa_BadItem, xn, xt, xm_BadItem⟩, kit_of xc_BadName tC_BadName ks_BadName_BadItem sf_BadName⟩
    by_cases eBadEvent : c = 3
    · subst eBadEvent; cases hb; exact ⟨⟨ga_BadEvent, gg_BadEvent, eC_BadEvent, hdi_BadEvent, xa_BadEvent, xn, xt, xm_BadEvent⟩, kit_of xc_BadName tC_BadName ks_BadName_BadEvent sf_BadName⟩
    by_cases eBadNote : c = 4
    · subst eBadNote; cases hb; exact ⟨⟨ga_BadNote, gg_BadNote, eC_BadNote, hdi_BadNote, xa_BadNote, xn, xt, xm_BadNote⟩, kit_of xc_BadName tC_BadName ks_BadName_BadNote sf_BadName⟩
    by_cases eTooMany : c = 5
    · subst eTooMany; cases hb; exact ⟨⟨ga_TooMany, gg_TooMany, eC_TooMany, hdi_TooMany, xa_TooMany, xn, xt, xm_TooMany⟩, kit_of xc_BadName tC_BadName ks_BadName_TooMany sf_BadName⟩
    by_cases eUnknown : c = 6
    · subst eUnknown; cases hb; exact ⟨⟨ga_Unknown, gg_Unknown, eC_Unknown, hdi_Unknown, xa_Unknown, xn, xt, xm_Unknown⟩, kit_of xc_BadName tC_BadName ks_BadName_Unknown sf_BadName⟩
    by_cases eTaken : c = 7
    · subst eTaken; cases hb; exact ⟨⟨ga_Taken, gg_Taken, eC_Taken, hdi_Taken, xa_Taken, xn, xt, xm_Taken⟩, kit_of xc_BadName tC_BadName ks_BadName_Taken sf_BadName⟩
    by_cases eRefused : c = 8
    · subst eRefused; cases hb; exact ⟨⟨ga_Refused, gg_Refused, eC_Refused, hdi_Refused, xa_Refused, xn, xt, xm_Refused⟩, kit_of xc_BadName tC_BadName ks_BadName_Refused sf_BadName⟩
    by_cases eNothingToUndo : c = 9
    · subst eNothingToUndo; cases hb; exact ⟨⟨ga_NothingToUndo, gg_NothingToUndo, eC_NothingToUndo, hdi_NothingToUndo, xa_NothingToUndo, xn, xt, xm_NothingToUndo⟩, kit_of xc_BadName tC_BadName ks_BadName_NothingToUndo sf_BadName⟩
    simp only [if_neg eBadNumber, if_neg eBadName, if_neg eBadItem, if_neg eBadEvent, if_neg eBadNote, if_neg eTooMany, if_neg eUnknown, if_neg eTaken, if_neg eRefused, if_neg eNothingToUndo] at hb; cases hb
  have is_BadName : IsTn K mg (mkT K [C_BadNumber, C_BadName, C_BadItem, C_BadEvent, C_BadNote, C_TooMany, C_Unknown, C_Taken, C_Refused, C_NothingToUndo] [] [] ["value", "index", "line", "limit", "reason", "names"]) "BadName" tbl_BadName := ⟨.inl ⟨C_BadName, PySem.W.mg_of X G aC_BadName, it_BadName⟩⟩
  have it_BadItem : IsT K (mkT K [C_BadNumber, C_BadName, C_BadItem, C_BadEvent, C_BadNote, C_TooMany, C_Unknown, C_Taken, C_Refused, C_NothingToUndo] [] [] ["value", "index", "line", "limit", "reason", "names"]) (.ref C_BadItem) tbl_BadItem := by
    refine ⟨fun c b hb => ?_⟩
    unfold tbl_BadItem at hb
    by_cases eBadNumber : c = 0
    · subst eBadNumber; cases hb; exact ⟨⟨ga_BadNumber, gg_BadNumber, eC_BadNumber, hdi_BadNumber, xa_BadNumber, xn, xt, xm_BadNumber⟩, kit_of xc_BadItem tC_BadItem ks_BadItem_BadNumber sf_BadItem⟩
    by_cases eBadName : c = 1
    · subst eBadName; cases hb; exact ⟨⟨ga_BadName, gg_BadName, eC_BadName, hdi_BadName, xa_BadName, xn, xt, xm_BadName⟩, kit_of xc_BadItem tC_BadItem ks_BadItem_BadName sf_BadItem⟩
    by_cases eBadItem : c = 2
    · subst eBadItem; cases hb; exact ⟨⟨ga_BadItem, gg_BadItem, eC_BadItem, hdi_BadItem, xa_BadItem, xn, xt, xm_BadItem⟩, kit_self _⟩
    by_cases eBadEvent : c = 3
    · subst eBadEvent; cases hb; exact ⟨⟨ga_BadEvent, gg_BadEvent, eC_BadEvent, hdi_BadEvent, xa_BadEvent, xn, xt, xm_BadEvent⟩, kit_of xc_BadItem tC_BadItem ks_BadItem_BadEvent sf_BadItem⟩
    by_cases eBadNote : c = 4
    · subst eBadNote; cases hb; exact ⟨⟨ga_BadNote, gg_BadNote, eC_BadNote, hdi_BadNote, xa_BadNote, xn, xt, xm_BadNote⟩, kit_of xc_BadItem tC_BadItem ks_BadItem_BadNote sf_BadItem⟩
    by_cases eTooMany : c = 5
    · subst eTooMany; cases hb; exact ⟨⟨ga_TooMany, gg_TooMany, eC_TooMany, hdi_TooMany, xa_TooMany, xn, xt, xm_TooMany⟩, kit_of xc_BadItem tC_BadItem ks_BadItem_TooMany sf_BadItem⟩
    by_cases eUnknown : c = 6
    · subst eUnknown; cases hb; exact ⟨⟨ga_Unknown, gg_Unknown, eC_Unknown, hdi_Unknown, xa_Unknown, xn, xt, xm_Unknown⟩, kit_of xc_BadItem tC_BadItem ks_BadItem_Unknown sf_BadItem⟩
    by_cases eTaken : c = 7
    · subst eTaken; cases hb; exact ⟨⟨ga_Taken, gg_Taken, eC_Taken, hdi_Taken, xa_Taken, xn, xt, xm_Taken⟩, kit_of xc_BadItem tC_BadItem ks_BadItem_Taken sf_BadItem⟩
    by_cases eRefused : c = 8
    · subst eRefused; cases hb; exact ⟨⟨ga_Refused, gg_Refused, eC_Refused, hdi_Refused, xa_Refused, xn, xt, xm_Refused⟩, kit_of xc_BadItem tC_BadItem ks_BadItem_Refused sf_BadItem⟩
    by_cases eNothingToUndo : c = 9
    · subst eNothingToUndo; cases hb; exact ⟨⟨ga_NothingToUndo, gg_NothingToUndo, eC_NothingToUndo, hdi_NothingToUndo, xa_NothingToUndo, xn, xt, xm_NothingToUndo⟩, kit_of xc_BadItem tC_BadItem ks_BadItem_NothingToUndo sf_BadItem⟩
    simp only [if_neg eBadNumber, if_neg eBadName, if_neg eBadItem, if_neg eBadEvent, if_neg eBadNote, if_neg eTooMany, if_neg eUnknown, if_neg eTaken, if_neg eRefused, if_neg eNothingToUndo] at hb; cases hb
  have is_BadItem : IsTn K mg (mkT K [C_BadNumber, C_BadName, C_BadItem, C_BadEvent, C_BadNote, C_TooMany, C_Unknown, C_Taken, C_Refused, C_NothingToUndo] [] [] ["value", "index", "line", "limit", "reason", "names"]) "BadItem" tbl_BadItem := ⟨.inl ⟨C_BadItem, PySem.W.mg_of X G aC_BadItem, it_BadItem⟩⟩
  have it_BadEvent : IsT K (mkT K [C_BadNumber, C_BadName, C_BadItem, C_BadEvent, C_BadNote, C_TooMany, C_Unknown, C_Taken, C_Refused, C_NothingToUndo] [] [] ["value", "index", "line", "limit", "reason", "names"]) (.ref C_BadEvent) tbl_BadEvent := by
    refine ⟨fun c b hb => ?_⟩
    unfold tbl_BadEvent at hb
    by_cases eBadNumber : c = 0
    · subst eBadNumber; cases hb; exact ⟨⟨ga_BadNumber, gg_BadNumber, eC_BadNumber, hdi_BadNumber, xa_BadNumber, xn, xt, xm_BadNumber⟩, kit_of xc_BadEvent tC_BadEvent ks_BadEvent_BadNumber sf_BadEvent⟩
    by_cases eBadName : c = 1
    · subst eBadName; cases hb; exact ⟨⟨ga_BadName, gg_BadName, eC_BadName, hdi_BadName, xa_BadName, xn, xt, xm_BadName⟩, kit_of xc_BadEvent tC_BadEvent ks_BadEvent_BadName sf_BadEvent⟩
    by_cases eBadItem : c = 2
    · subst eBadItem; cases hb; exact ⟨⟨ga_BadItem, gg_BadItem, eC_BadItem, hdi_BadItem, xa_BadItem, xn, xt, xm_BadItem⟩, kit_of xc_BadEvent tC_BadEvent ks_BadEvent_BadItem sf_BadEvent⟩
    by_cases eBadEvent : c = 3
    · subst eBadEvent; cases hb; exact ⟨⟨ga_BadEvent, gg_BadEvent, eC_BadEvent, hdi_BadEvent, xa_BadEvent, xn, xt, xm_BadEvent⟩, kit_self _⟩
    by_cases eBadNote : c = 4
    · subst eBadNote; cases hb; exact ⟨⟨ga_BadNote, gg_BadNote, eC_BadNote, hdi_BadNote, xa_BadNote, xn, xt, xm_BadNote⟩, kit_of xc_BadEvent tC_BadEvent ks_BadEvent_BadNote sf_BadEvent⟩
    by_cases eTooMany : c = 5
    · subst eTooMany; cases hb; exact ⟨⟨ga_TooMany, gg_TooMany, eC_TooMany, hdi_TooMany, xa_TooMany, xn, xt, xm_TooMany⟩, kit_of xc_BadEvent tC_BadEvent ks_BadEvent_TooMany sf_BadEvent⟩
    by_cases eUnknown : c = 6
    · subst eUnknown; cases hb; exact ⟨⟨ga_Unknown, gg_Unknown, eC_Unknown, hdi_Unknown, xa_Unknown, xn, xt, xm_Unknown⟩, kit_of xc_BadEvent tC_BadEvent ks_BadEvent_Unknown sf_BadEvent⟩
    by_cases eTaken : c = 7
    · subst eTaken; cases hb; exact ⟨⟨ga_Taken, gg_Taken, eC_Taken, hdi_Taken, xa_Taken, xn, xt, xm_Taken⟩, kit_of xc_BadEvent tC_BadEvent ks_BadEvent_Taken sf_BadEvent⟩
    by_cases eRefused : c = 8
    · subst eRefused; cases hb; exact ⟨⟨ga_Refused, gg_Refused, eC_Refused, hdi_Refused, xa_Refused, xn, xt, xm_Refused⟩, kit_of xc_BadEvent tC_BadEvent ks_BadEvent_Refused sf_BadEvent⟩
    by_cases eNothingToUndo : c = 9
    · subst eNothingToUndo; cases hb; exact ⟨⟨ga_NothingToUndo, gg_NothingToUndo, eC_NothingToUndo, hdi_NothingToUndo, xa_NothingToUndo, xn, xt, xm_NothingToUndo⟩, kit_of xc_BadEvent tC_BadEvent ks_BadEvent_NothingToUndo sf_BadEvent⟩
    simp only [if_neg eBadNumber, if_neg eBadName, if_neg eBadItem, if_neg eBadEvent, if_neg eBadNote, if_neg eTooMany, if_neg eUnknown, if_neg eTaken, if_neg eRefused, if_neg eNothingToUndo] at hb; cases hb
  have is_BadEvent : IsTn K mg (mkT K [C_BadNumber, C_BadName, C_BadItem, C_BadEvent, C_BadNote, C_TooMany, C_Unknown, C_Taken, C_Refused, C_NothingToUndo] [] [] ["value", "index", "line", "limit", "reason", "names"]) "BadEvent" tbl_BadEvent := ⟨.inl ⟨C_BadEvent, PySem.W.mg_of X G aC_BadEvent, it_BadEvent⟩⟩
  have it_BadNote : IsT K (mkT K [C_BadNumber, C_BadName, C_BadItem, C_BadEvent, C_BadNote, C_TooMany, C_Unknown, C_Taken, C_Refused, C_NothingToUndo] [] [] ["value", "index", "line", "limit", "reason", "names"]) (.ref C_BadNote) tbl_BadNote := by
    refine ⟨fun c b hb => ?_⟩
    unfold tbl_BadNote at hb
    by_cases eBadNumber : c = 0
    · subst eBadNumber; cases hb; exact ⟨⟨ga_BadNumber, gg_BadNumber, eC_BadNumber, hdi_BadNumber, xa_BadNumber, xn, xt, xm_BadNumber⟩, kit_of xc_BadNote tC_BadNote ks_BadNote_BadNumber sf_BadNote⟩
    by_cases eBadName : c = 1
    · subst eBadName; cases hb; exact ⟨⟨ga_BadName, gg_BadName, eC_BadName, hdi_BadName, xa_BadName, xn, xt, xm_BadName⟩, kit_of xc_BadNote tC_BadNote ks_BadNote_BadName sf_BadNote⟩
    by_cases eBadItem : c = 2
    · subst eBadItem; cases hb; exact ⟨⟨ga_BadItem, gg_BadItem, eC_BadItem, hdi_BadItem, xa_BadItem, xn, xt, xm_BadItem⟩, kit_of xc_BadNote tC_BadNote ks_BadNote_BadItem sf_BadNote⟩
    by_cases eBadEvent : c = 3
    · subst eBadEvent; cases hb; exact ⟨⟨ga_BadEvent, gg_BadEvent, eC_BadEvent, hdi_BadEvent, xa_BadEvent, xn, xt, xm_BadEvent⟩, kit_of xc_BadNote tC_BadNote ks_BadNote_BadEvent sf_BadNote⟩
    by_cases eBadNote : c = 4
    · subst eBadNote; cases hb; exact ⟨⟨ga_BadNote, gg_BadNote, eC_BadNote, hdi_BadNote, xa_BadNote, xn, xt, xm_BadNote⟩, kit_self _⟩
    by_cases eTooMany : c = 5
    · subst eTooMany; cases hb; exact ⟨⟨ga_TooMany, gg_TooMany, eC_TooMany, hdi_TooMany, xa_TooMany, xn, xt, xm_TooMany⟩, kit_of xc_BadNote tC_BadNote ks_BadNote_TooMany sf_BadNote⟩
    by_cases eUnknown : c = 6
    · subst eUnknown; cases hb; exact ⟨⟨ga_Unknown, gg_Unknown, eC_Unknown, hdi_Unknown, xa_Unknown, xn, xt, xm_Unknown⟩, kit_of xc_BadNote tC_BadNote ks_BadNote_Unknown sf_BadNote⟩
    by_cases eTaken : c = 7
    · subst eTaken; cases hb; exact ⟨⟨ga_Taken, gg_Taken, eC_Taken, hdi_Taken, xa_Taken, xn, xt, xm_Taken⟩, kit_of xc_BadNote tC_BadNote ks_BadNote_Taken sf_BadNote⟩
    by_cases eRefused : c = 8
    · subst eRefused; cases hb; exact ⟨⟨ga_Refused, gg_Refused, eC_Refused, hdi_Refused, xa_Refused, xn, xt, xm_Refused⟩, kit_of xc_BadNote tC_BadNote ks_BadNote_Refused sf_BadNote⟩
    by_cases eNothingToUndo : c = 9
    · subst eNothingToUndo; cases hb; exact ⟨⟨ga_NothingToUndo, gg_NothingToUndo, eC_NothingToUndo, hdi_NothingToUndo, xa_NothingToUndo, xn, xt, xm_NothingToUndo⟩, kit_of xc_BadNote tC_BadNote ks_BadNote_NothingToUndo sf_BadNote⟩
    simp only [if_neg eBadNumber, if_neg eBadName, if_neg eBadItem, if_neg eBadEvent, if_neg eBadNote, if_neg eTooMany, if_neg eUnknown, if_neg eTaken, if_neg eRefused, if_neg eNothingToUndo] at hb; cases hb
  have is_BadNote : IsTn K mg (mkT K [C_BadNumber, C_BadName, C_BadItem, C_BadEvent, C_BadNote, C_TooMany, C_Unknown, C_Taken, C_Refused, C_NothingToUndo] [] [] ["value", "index", "line", "limit", "reason", "names"]) "BadNote" tbl_BadNote := ⟨.inl ⟨C_BadNote, PySem.W.mg_of X G aC_BadNote, it_BadNote⟩⟩
  have it_TooMany : IsT K (mkT K [C_BadNumber, C_BadName, C_BadItem, C_BadEvent, C_BadNote, C_TooMany, C_Unknown, C_Taken, C_Refused, C_NothingToUndo] [] [] ["value", "index", "line", "limit", "reason", "names"]) (.ref C_TooMany) tbl_TooMany := by
    refine ⟨fun c b hb => ?_⟩
    unfold tbl_TooMany at hb
    by_cases eBadNumber : c = 0
    · subst eBadNumber; cases hb; exact ⟨⟨ga_BadNumber, gg_BadNumber, eC_BadNumber, hdi_BadNumber, xa_BadNumber, xn, xt, xm_BadNumber⟩, kit_of xc_TooMany tC_TooMany ks_TooMany_BadNumber sf_TooMany⟩
    by_cases eBadName : c = 1
    · subst eBadName; cases hb; exact ⟨⟨ga_BadName, gg_BadName, eC_BadName, hdi_BadName, xa_BadName, xn, xt, xm_BadName⟩, kit_of xc_TooMany tC_TooMany ks_TooMany_BadName sf_TooMany⟩
    by_cases eBadItem : c = 2
    · subst eBadItem; cases hb; exact ⟨⟨ga_BadItem, gg_BadItem, eC_BadItem, hdi_BadItem, xa_BadItem, xn, xt, xm_BadItem⟩, kit_of xc_TooMany tC_TooMany ks_TooMany_BadItem sf_TooMany⟩
    by_cases eBadEvent : c = 3
    · subst eBadEvent; cases hb; exact ⟨⟨ga_BadEvent, gg_BadEvent, eC_BadEvent, hdi_BadEvent, xa_BadEvent, xn, xt, xm_BadEvent⟩, kit_of xc_TooMany tC_TooMany ks_TooMany_BadEvent sf_TooMany⟩
    by_cases eBadNote : c = 4
    · subst eBadNote; cases hb; exact ⟨⟨ga_BadNote, gg_BadNote, eC_BadNote, hdi_BadNote, xa_BadNote, xn, xt, xm_BadNote⟩, kit_of xc_TooMany tC_TooMany ks_TooMany_BadNote sf_TooMany⟩
    by_cases eTooMany : c = 5
    · subst eTooMany; cases hb; exact ⟨⟨ga_TooMany, gg_TooMany, eC_TooMany, hdi_TooMany, xa_TooMany, xn, xt, xm_TooMany⟩, kit_self _⟩
    by_cases eUnknown : c = 6
    · subst eUnknown; cases hb; exact ⟨⟨ga_Unknown, gg_Unknown, eC_Unknown, hdi_Unknown, xa_Unknown, xn, xt, xm_Unknown⟩, kit_of xc_TooMany tC_TooMany ks_TooMany_Unknown sf_TooMany⟩
    by_cases eTaken : c = 7
    · subst eTaken; cases hb; exact ⟨⟨ga_Taken, gg_Taken, eC_Taken, hdi_Taken, xa_Taken, xn, xt, xm_Taken⟩, kit_of xc_TooMany tC_TooMany ks_TooMany_Taken sf_TooMany⟩
    by_cases eRefused : c = 8
    · subst eRefused; cases hb; exact ⟨⟨ga_Refused, gg_Refused, eC_Refused, hdi_Refused, xa_Refused, xn, xt, xm_Refused⟩, kit_of xc_TooMany tC_TooMany ks_TooMany_Refused sf_TooMany⟩
    by_cases eNothingToUndo : c = 9
    · subst eNothingToUndo; cases hb; exact ⟨⟨ga_NothingToUndo, gg_NothingToUndo, eC_NothingToUndo, hdi_NothingToUndo, xa_NothingToUndo, xn, xt, xm_NothingToUndo⟩, kit_of xc_TooMany tC_TooMany ks_TooMany_NothingToUndo sf_TooMany⟩
    simp only [if_neg eBadNumber, if_neg eBadName, if_neg eBadItem, if_neg eBadEvent, if_neg eBadNote, if_neg eTooMany, if_neg eUnknown, if_neg eTaken, if_neg eRefused, if_neg eNothingToUndo] at hb; cases hb
  have is_TooMany : IsTn K mg (mkT K [C_BadNumber, C_BadName, C_BadItem, C_BadEvent, C_BadNote, C_TooMany, C_Unknown, C_Taken, C_Refused, C_NothingToUndo] [] [] ["value", "index", "line", "limit", "reason", "names"]) "TooMany" tbl_TooMany := ⟨.inl ⟨C_TooMany, PySem.W.mg_of X G aC_TooMany, it_TooMany⟩⟩
  have it_Unknown : IsT K (mkT K [C_BadNumber, C_BadName, C_BadItem, C_BadEvent, C_BadNote, C_TooMany, C_Unknown, C_Taken, C_Refused, C_NothingToUndo] [] [] ["value", "index", "line", "limit", "reason", "names"]) (.ref C_Unknown) tbl_Unknown := by
    refine ⟨fun c b hb => ?_⟩
    unfold tbl_Unknown at hb
    by_cases eBadNumber : c = 0
    · subst eBadNumber; cases hb; exact ⟨⟨ga_BadNumber, gg_BadNumber, eC_BadNumber, hdi_BadNumber, xa_BadNumber, xn, xt, xm_BadNumber⟩, kit_of xc_Unknown tC_Unknown ks_Unknown_BadNumber sf_Unknown⟩
    by_cases eBadName : c = 1
    · subst eBadName; cases hb; exact ⟨⟨ga_BadName, gg_BadName, eC_BadName, hdi_BadName, xa_BadName, xn, xt, xm_BadName⟩, kit_of xc_Unknown tC_Unknown ks_Unknown_BadName sf_Unknown⟩
    by_cases eBadItem : c = 2
    · subst eBadItem; cases hb; exact ⟨⟨ga_BadItem, gg_BadItem, eC_BadItem, hdi_BadItem, xa_BadItem, xn, xt, xm_BadItem⟩, kit_of xc_Unknown tC_Unknown ks_Unknown_BadItem sf_Unknown⟩
    by_cases eBadEvent : c = 3
    · subst eBadEvent; cases hb; exact ⟨⟨ga_BadEvent, gg_BadEvent, eC_BadEvent, hdi_BadEvent, xa_BadEvent, xn, xt, xm_BadEvent⟩, kit_of xc_Unknown tC_Unknown ks_Unknown_BadEvent sf_Unknown⟩
    by_cases eBadNote : c = 4
    · subst eBadNote; cases hb; exact ⟨⟨ga_BadNote, gg_BadNote, eC_BadNote, hdi_BadNote, xa_BadNote, xn, xt, xm_BadNote⟩, kit_of xc_Unknown tC_Unknown ks_Unknown_BadNote sf_Unknown⟩
    by_cases eTooMany : c = 5
    · subst eTooMany; cases hb; exact ⟨⟨ga_TooMany, gg_TooMany, eC_TooMany, hdi_TooMany, xa_TooMany, xn, xt, xm_TooMany⟩, kit_of xc_Unknown tC_Unknown ks_Unknown_TooMany sf_Unknown⟩
    by_cases eUnknown : c = 6
    · subst eUnknown; cases hb; exact ⟨⟨ga_Unknown, gg_Unknown, eC_Unknown, hdi_Unknown, xa_Unknown, xn, xt, xm_Unknown⟩, kit_self _⟩
    by_cases eTaken : c = 7
    · subst eTaken; cases hb; exact ⟨⟨ga_Taken, gg_Taken, eC_Taken, hdi_Taken, xa_Taken, xn, xt, xm_Taken⟩, kit_of xc_Unknown tC_Unknown ks_Unknown_Taken sf_Unknown⟩
    by_cases eRefused : c = 8
    · subst eRefused; cases hb; exact ⟨⟨ga_Refused, gg_Refused, eC_Refused, hdi_Refused, xa_Refused, xn, xt, xm_Refused⟩, kit_of xc_Unknown tC_Unknown ks_Unknown_Refused sf_Unknown⟩
    by_cases eNothingToUndo : c = 9
    · subst eNothingToUndo; cases hb; exact ⟨⟨ga_NothingToUndo, gg_NothingToUndo, eC_NothingToUndo, hdi_NothingToUndo, xa_NothingToUndo, xn, xt, xm_NothingToUndo⟩, kit_of xc_Unknown tC_Unknown ks_Unknown_NothingToUndo sf_Unknown⟩
    simp only [if_neg eBadNumber, if_neg eBadName, if_neg eBadItem, if_neg eBadEvent, if_neg eBadNote, if_neg eTooMany, if_neg eUnknown, if_neg eTaken, if_neg eRefused, if_neg eNothingToUndo] at hb; cases hb
  have is_Unknown : IsTn K mg (mkT K [C_BadNumber, C_BadName, C_BadItem, C_BadEvent, C_BadNote, C_TooMany, C_Unknown, C_Taken, C_Refused, C_NothingToUndo] [] [] ["value", "index", "line", "limit", "reason", "names"]) "Unknown" tbl_Unknown := ⟨.inl ⟨C_Unknown, PySem.W.mg_of X G aC_Unknown, it_Unknown⟩⟩
  have it_Taken : IsT K (mkT K [C_BadNumber, C_BadName, C_BadItem, C_BadEvent, C_BadNote, C_TooMany, C_Unknown, C_Taken, C_Refused, C_NothingToUndo] [] [] ["value", "index", "line", "limit", "reason", "names"]) (.ref C_Taken) tbl_Taken := by
    refine ⟨fun c b hb => ?_⟩
    unfold tbl_Taken at hb
    by_cases eBadNumber : c = 0
    · subst eBadNumber; cases hb; exact ⟨⟨ga_BadNumber, gg_BadNumber, eC_BadNumber, hdi_BadNumber, xa_BadNumber, xn, xt, xm_BadNumber⟩, kit_of xc_Taken tC_Taken ks_Taken_BadNumber sf_Taken⟩
    by_cases eBadName : c = 1
    · subst eBadName; cases hb; exact ⟨⟨ga_BadName, gg_BadName, eC_BadName, hdi_BadName, xa_BadName, xn, xt, xm_BadName⟩, kit_of xc_Taken tC_Taken ks_Taken_BadName sf_Taken⟩
    by_cases eBadItem : c = 2
    · subst eBadItem; cases hb; exact ⟨⟨ga_BadItem, gg_BadItem, eC_BadItem, hdi_BadItem, xa_BadItem, xn, xt, xm_BadItem⟩, kit_of xc_Taken tC_Taken ks_Taken_BadItem sf_Taken⟩
    by_cases eBadEvent : c = 3
    · subst eBadEvent; cases hb; exact ⟨⟨ga_BadEvent, gg_BadEvent, eC_BadEvent, hdi_BadEvent, xa_BadEvent, xn, xt, xm_BadEvent⟩, kit_of xc_Taken tC_Taken ks_Taken_BadEvent sf_Taken⟩
    by_cases eBadNote : c = 4
    · subst eBadNote; cases hb; exact ⟨⟨ga_BadNote, gg_BadNote, eC_BadNote, hdi_BadNote, xa_BadNote, xn, xt, xm_BadNote⟩, kit_of xc_Taken tC_Taken ks_Taken_BadNote sf_Taken⟩
    by_cases eTooMany : c = 5
    · subst eTooMany; cases hb; exact ⟨⟨ga_TooMany, gg_TooMany, eC_TooMany, hdi_TooMany, xa_TooMany, xn, xt, xm_TooMany⟩, kit_of xc_Taken tC_Taken ks_Taken_TooMany sf_Taken⟩
    by_cases eUnknown : c = 6
    · subst eUnknown; cases hb; exact ⟨⟨ga_Unknown, gg_Unknown, eC_Unknown, hdi_Unknown, xa_Unknown, xn, xt, xm_Unknown⟩, kit_of xc_Taken tC_Taken ks_Taken_Unknown sf_Taken⟩
    by_cases eTaken : c = 7
    · subst eTaken; cases hb; exact ⟨⟨ga_Taken, gg_Taken, eC_Taken, hdi_Taken, xa_Taken, xn, xt, xm_Taken⟩, kit_self _⟩
    by_cases eRefused : c = 8
    · subst eRefused; cases hb; exact ⟨⟨ga_Refused, gg_Refused, eC_Refused, hdi_Refused, xa_Refused, xn, xt, xm_Refused⟩, kit_of xc_Taken tC_Taken ks_Taken_Refused sf_Taken⟩
    by_cases eNothingToUndo : c = 9
    · subst eNothingToUndo; cases hb; exact ⟨⟨ga_NothingToUndo, gg_NothingToUndo, eC_NothingToUndo, hdi_NothingToUndo, xa_NothingToUndo, xn, xt, xm_NothingToUndo⟩, kit_of xc_Taken tC_Taken ks_Taken_NothingToUndo sf_Taken⟩
    simp only [if_neg eBadNumber, if_neg eBadName, if_neg eBadItem, if_neg eBadEvent, if_neg eBadNote, if_neg eTooMany, if_neg eUnknown, if_neg eTaken, if_neg eRefused, if_neg eNothingToUndo] at hb; cases hb
  have is_Taken : IsTn K mg (mkT K [C_BadNumber, C_BadName, C_BadItem, C_BadEvent, C_BadNote, C_TooMany, C_Unknown, C_Taken, C_Refused, C_NothingToUndo] [] [] ["value", "index", "line", "limit", "reason", "names"]) "Taken" tbl_Taken := ⟨.inl ⟨C_Taken, PySem.W.mg_of X G aC_Taken, it_Taken⟩⟩
  have it_Refused : IsT K (mkT K [C_BadNumber, C_BadName, C_BadItem, C_BadEvent, C_BadNote, C_TooMany, C_Unknown, C_Taken, C_Refused, C_NothingToUndo] [] [] ["value", "index", "line", "limit", "reason", "names"]) (.ref C_Refused) tbl_Refused := by
    refine ⟨fun c b hb => ?_⟩
    unfold tbl_Refused at hb
    by_cases eBadNumber : c = 0
    · subst eBadNumber; cases hb; exact ⟨⟨ga_BadNumber, gg_BadNumber, eC_BadNumber, hdi_BadNumber, xa_BadNumber, xn, xt, xm_BadNumber⟩, kit_of xc_Refused tC_Refused ks_Refused_BadNumber sf_Refused⟩
    by_cases eBadName : c = 1
    · subst eBadName; cases hb; exact ⟨⟨ga_BadName, gg_BadName, eC_BadName, hdi_BadName, xa_BadName, xn, xt, xm_BadName⟩, kit_of xc_Refused tC_Refused ks_Refused_BadName sf_Refused⟩
    by_cases eBadItem : c = 2
    · subst eBadItem; cases hb; exact ⟨⟨ga_BadItem, gg_BadItem, eC_BadItem, hdi_BadItem, xa_BadItem, xn, xt, xm_BadItem⟩, kit_of xc_Refused tC_Refused ks_Refused_BadItem sf_Refused⟩
    by_cases eBadEvent : c = 3
    · subst eBadEvent; cases hb; exact ⟨⟨ga_BadEvent, gg_BadEvent, eC_BadEvent, hdi_BadEvent, xa_BadEvent, xn, xt, xm_BadEvent⟩, kit_of xc_Refused tC_Refused ks_Refused_BadEvent sf_Refused⟩
    by_cases eBadNote : c = 4
    · subst eBadNote; cases hb; exact ⟨⟨ga_BadNote, gg_BadNote, eC_BadNote, hdi_BadNote, xa_BadNote, xn, xt, xm_BadNote⟩, kit_of xc_Refused tC_Refused ks_Refused_BadNote sf_Refused⟩
    by_cases eTooMany : c = 5
    · subst eTooMany; cases hb; exact ⟨⟨ga_TooMany, gg_TooMany, eC_TooMany, hdi_TooMany, xa_TooMany, xn, xt, xm_TooMany⟩, kit_of xc_Refused tC_Refused ks_Refused_TooMany sf_Refused⟩
    by_cases eUnknown : c = 6
    · subst eUnknown; cases hb; exact ⟨⟨ga_Unknown, gg_Unknown, eC_Unknown, hdi_Unknown, xa_Unknown, xn, xt, xm_Unknown⟩, kit_of xc_Refused tC_Refused ks_Refused_Unknown sf_Refused⟩
    by_cases eTaken : c = 7
    · subst eTaken; cases hb; exact ⟨⟨ga_Taken, gg_Taken, eC_Taken, hdi_Taken, xa_Taken, xn, xt, xm_Taken⟩, kit_of xc_Refused tC_Refused ks_Refused_Taken sf_Refused⟩
    by_cases eRefused : c = 8
    · subst eRefused; cases hb; exact ⟨⟨ga_Refused, gg_Refused, eC_Refused, hdi_Refused, xa_Refused, xn, xt, xm_Refused⟩, kit_self _⟩
    by_cases eNothingToUndo : c = 9
    · subst eNothingToUndo; cases hb; exact ⟨⟨ga_NothingToUndo, gg_NothingToUndo, eC_NothingToUndo, hdi_NothingToUndo, xa_NothingToUndo, xn, xt, xm_NothingToUndo⟩, kit_of xc_Refused tC_Refused ks_Refused_NothingToUndo sf_Refused⟩
    simp only [if_neg eBadNumber, if_neg eBadName, if_neg eBadItem, if_neg eBadEvent, if_neg eBadNote, if_neg eTooMany, if_neg eUnknown, if_neg eTaken, if_neg eRefused, if_neg eNothingToUndo] at hb; cases hb
  have is_Refused : IsTn K mg (mkT K [C_BadNumber, C_BadName, C_BadItem, C_BadEvent, C_BadNote, C_TooMany, C_Unknown, C_Taken, C_Refused, C_NothingToUndo] [] [] ["value", "index", "line", "limit", "reason", "names"]) "Refused" tbl_Refused := ⟨.inl ⟨C_Refused, PySem.W.mg_of X G aC_Refused, it_Refused⟩⟩
  have it_NothingToUndo : IsT K (mkT K [C_BadNumber, C_BadName, C_BadItem, C_BadEvent, C_BadNote, C_TooMany, C_Unknown, C_Taken, C_Refused, C_NothingToUndo] [] [] ["value", "index", "line", "limit", "reason", "names"]) (.ref C_NothingToUndo) tbl_NothingToUndo := by
    refine ⟨fun c b hb => ?_⟩
    unfold tbl_NothingToUndo at hb
    by_cases eBadNumber : c = 0
    · subst eBadNumber; cases hb; exact ⟨⟨ga_BadNumber, gg_BadNumber, eC_BadNumber, hdi_BadNumber, xa_BadNumber, xn, xt, xm_BadNumber⟩, kit_of xc_NothingToUndo tC_NothingToUndo ks_NothingToUndo_BadNumber sf_NothingToUndo⟩
    by_cases eBadName : c = 1
    · subst eBadName; cases hb; exact ⟨⟨ga_BadName, gg_BadName, eC_BadName, hdi_BadName, xa_BadName, xn, xt, xm_BadName⟩, kit_of xc_NothingToUndo tC_NothingToUndo ks_NothingToUndo_BadName sf_NothingToUndo⟩
    by_cases eBadItem : c = 2
    · subst eBadItem; cases hb; exact ⟨⟨ga_BadItem, gg_BadItem, eC_BadItem, hdi_BadItem, xa_BadItem, xn, xt, xm_BadItem⟩, kit_of xc_NothingToUndo tC_NothingToUndo ks_NothingToUndo_BadItem sf_NothingToUndo⟩
    by_cases eBadEvent : c = 3
    · subst eBadEvent; cases hb; exact ⟨⟨ga_BadEvent, gg_BadEvent, eC_BadEvent, hdi_BadEvent, xa_BadEvent, xn, xt, xm_BadEvent⟩, kit_of xc_NothingToUndo tC_NothingToUndo ks_NothingToUndo_BadEvent sf_NothingToUndo⟩
    by_cases eBadNote : c = 4
    · subst eBadNote; cases hb; exact ⟨⟨ga_BadNote, gg_BadNote, eC_BadNote, hdi_BadNote, xa_BadNote, xn, xt, xm_BadNote⟩, kit_of xc_NothingToUndo tC_NothingToUndo ks_NothingToUndo_BadNote sf_NothingToUndo⟩
    by_cases eTooMany : c = 5
    · subst eTooMany; cases hb; exact ⟨⟨ga_TooMany, gg_TooMany, eC_TooMany, hdi_TooMany, xa_TooMany, xn, xt, xm_TooMany⟩, kit_of xc_NothingToUndo tC_NothingToUndo ks_NothingToUndo_TooMany sf_NothingToUndo⟩
    by_cases eUnknown : c = 6
    · subst eUnknown; cases hb; exact ⟨⟨ga_Unknown, gg_Unknown, eC_Unknown, hdi_Unknown, xa_Unknown, xn, xt, xm_Unknown⟩, kit_of xc_NothingToUndo tC_NothingToUndo ks_NothingToUndo_Unknown sf_NothingToUndo⟩
    by_cases eTaken : c = 7
    · subst eTaken; cases hb; exact ⟨⟨ga_Taken, gg_Taken, eC_Taken, hdi_Taken, xa_Taken, xn, xt, xm_Taken⟩, kit_of xc_NothingToUndo tC_NothingToUndo ks_NothingToUndo_Taken sf_NothingToUndo⟩
    by_cases eRefused : c = 8
    · subst eRefused; cases hb; exact ⟨⟨ga_Refused, gg_Refused, eC_Refused, hdi_Refused, xa_Refused, xn, xt, xm_Refused⟩, kit_of xc_NothingToUndo tC_NothingToUndo ks_NothingToUndo_Refused sf_NothingToUndo⟩
    by_cases eNothingToUndo : c = 9
    · subst eNothingToUndo; cases hb; exact ⟨⟨ga_NothingToUndo, gg_NothingToUndo, eC_NothingToUndo, hdi_NothingToUndo, xa_NothingToUndo, xn, xt, xm_NothingToUndo⟩, kit_self _⟩
    simp only [if_neg eBadNumber, if_neg eBadName, if_neg eBadItem, if_neg eBadEvent, if_neg eBadNote, if_neg eTooMany, if_neg eUnknown, if_neg eTaken, if_neg eRefused, if_neg eNothingToUndo] at hb; cases hb
  have is_NothingToUndo : IsTn K mg (mkT K [C_BadNumber, C_BadName, C_BadItem, C_BadEvent, C_BadNote, C_TooMany, C_Unknown, C_Taken, C_Refused, C_NothingToUndo] [] [] ["value", "index", "line", "limit", "reason", "names"]) "NothingToUndo" tbl_NothingToUndo := ⟨.inl ⟨C_NothingToUndo, PySem.W.mg_of X G aC_NothingToUndo, it_NothingToUndo⟩⟩
  have it_ValueError : IsT K (mkT K [C_BadNumber, C_BadName, C_BadItem, C_BadEvent, C_BadNote, C_TooMany, C_Unknown, C_Taken, C_Refused, C_NothingToUndo] [] [] ["value", "index", "line", "limit", "reason", "names"]) (.type "ValueError") tbl_ValueError := by
    refine ⟨fun c b hb => ?_⟩
    unfold tbl_ValueError at hb
    by_cases eBadNumber : c = 0
    · subst eBadNumber; cases hb; exact ⟨⟨ga_BadNumber, gg_BadNumber, eC_BadNumber, hdi_BadNumber, xa_BadNumber, xn, xt, xm_BadNumber⟩, kit_ty0 ks_ValueError_BadNumber rfl⟩
    by_cases eBadName : c = 1
    · subst eBadName; cases hb; exact ⟨⟨ga_BadName, gg_BadName, eC_BadName, hdi_BadName, xa_BadName, xn, xt, xm_BadName⟩, kit_ty0 ks_ValueError_BadName rfl⟩
    by_cases eBadItem : c = 2
    · subst eBadItem; cases hb; exact ⟨⟨ga_BadItem, gg_BadItem, eC_BadItem, hdi_BadItem, xa_BadItem, xn, xt, xm_BadItem⟩, kit_ty0 ks_ValueError_BadItem rfl⟩
    by_cases eBadEvent : c = 3
    · subst eBadEvent; cases hb; exact ⟨⟨ga_BadEvent, gg_BadEvent, eC_BadEvent, hdi_BadEvent, xa_BadEvent, xn, xt, xm_BadEvent⟩, kit_ty0 ks_ValueError_BadEvent rfl⟩
    by_cases eBadNote : c = 4
    · subst eBadNote; cases hb; exact ⟨⟨ga_BadNote, gg_BadNote, eC_BadNote, hdi_BadNote, xa_BadNote, xn, xt, xm_BadNote⟩, kit_ty0 ks_ValueError_BadNote rfl⟩
    by_cases eTooMany : c = 5
    · subst eTooMany; cases hb; exact ⟨⟨ga_TooMany, gg_TooMany, eC_TooMany, hdi_TooMany, xa_TooMany, xn, xt, xm_TooMany⟩, kit_ty0 ks_ValueError_TooMany rfl⟩
    by_cases eUnknown : c = 6
    · subst eUnknown; cases hb; exact ⟨⟨ga_Unknown, gg_Unknown, eC_Unknown, hdi_Unknown, xa_Unknown, xn, xt, xm_Unknown⟩, kit_ty0 ks_ValueError_Unknown rfl⟩
    by_cases eTaken : c = 7
    · subst eTaken; cases hb; exact ⟨⟨ga_Taken, gg_Taken, eC_Taken, hdi_Taken, xa_Taken, xn, xt, xm_Taken⟩, kit_ty0 ks_ValueError_Taken rfl⟩
    by_cases eRefused : c = 8
    · subst eRefused; cases hb; exact ⟨⟨ga_Refused, gg_Refused, eC_Refused, hdi_Refused, xa_Refused, xn, xt, xm_Refused⟩, kit_ty0 ks_ValueError_Refused rfl⟩
    by_cases eNothingToUndo : c = 9
    · subst eNothingToUndo; cases hb; exact ⟨⟨ga_NothingToUndo, gg_NothingToUndo, eC_NothingToUndo, hdi_NothingToUndo, xa_NothingToUndo, xn, xt, xm_NothingToUndo⟩, kit_ty0 ks_ValueError_NothingToUndo rfl⟩
    simp only [if_neg eBadNumber, if_neg eBadName, if_neg eBadItem, if_neg eBadEvent, if_neg eBadNote, if_neg eTooMany, if_neg eUnknown, if_neg eTaken, if_neg eRefused, if_neg eNothingToUndo] at hb; cases hb
  have is_ValueError : IsTn K mg (mkT K [C_BadNumber, C_BadName, C_BadItem, C_BadEvent, C_BadNote, C_TooMany, C_Unknown, C_Taken, C_Refused, C_NothingToUndo] [] [] ["value", "index", "line", "limit", "reason", "names"]) "ValueError" tbl_ValueError := ⟨.inr ⟨PySem.W.mg_none_of X G bi_ValueError, "ValueError", by decide +kernel, it_ValueError⟩⟩
  have it_LookupError : IsT K (mkT K [C_BadNumber, C_BadName, C_BadItem, C_BadEvent, C_BadNote, C_TooMany, C_Unknown, C_Taken, C_Refused, C_NothingToUndo] [] [] ["value", "index", "line", "limit", "reason", "names"]) (.type "LookupError") tbl_LookupError := by
    refine ⟨fun c b hb => ?_⟩
    unfold tbl_LookupError at hb
    by_cases eBadNumber : c = 0
    · subst eBadNumber; cases hb; exact ⟨⟨ga_BadNumber, gg_BadNumber, eC_BadNumber, hdi_BadNumber, xa_BadNumber, xn, xt, xm_BadNumber⟩, kit_ty0 ks_LookupError_BadNumber rfl⟩
    by_cases eBadName : c = 1
    · subst eBadName; cases hb; exact ⟨⟨ga_BadName, gg_BadName, eC_BadName, hdi_BadName, xa_BadName, xn, xt, xm_BadName⟩, kit_ty0 ks_LookupError_BadName rfl⟩
    by_cases eBadItem : c = 2
    · subst eBadItem; cases hb; exact ⟨⟨ga_BadItem, gg_BadItem, eC_BadItem, hdi_BadItem, xa_BadItem, xn, xt, xm_BadItem⟩, kit_ty0 ks_LookupError_BadItem rfl⟩
    by_cases eBadEvent : c = 3
    · subst eBadEvent; cases hb; exact ⟨⟨ga_BadEvent, gg_BadEvent, eC_BadEvent, hdi_BadEvent, xa_BadEvent, xn, xt, xm_BadEvent⟩, kit_ty0 ks_LookupError_BadEvent rfl⟩
    by_cases eBadNote : c = 4
    · subst eBadNote; cases hb; exact ⟨⟨ga_BadNote, gg_BadNote, eC_BadNote, hdi_BadNote, xa_BadNote, xn, xt, xm_BadNote⟩, kit_ty0 ks_LookupError_BadNote rfl⟩
    by_cases eTooMany : c = 5
    · subst eTooMany; cases hb; exact ⟨⟨ga_TooMany, gg_TooMany, eC_TooMany, hdi_TooMany, xa_TooMany, xn, xt, xm_TooMany⟩, kit_ty0 ks_LookupError_TooMany rfl⟩
    by_cases eUnknown : c = 6
    · subst eUnknown; cases hb; exact ⟨⟨ga_Unknown, gg_Unknown, eC_Unknown, hdi_Unknown, xa_Unknown, xn, xt, xm_Unknown⟩, kit_ty0 ks_LookupError_Unknown rfl⟩
    by_cases eTaken : c = 7
    · subst eTaken; cases hb; exact ⟨⟨ga_Taken, gg_Taken, eC_Taken, hdi_Taken, xa_Taken, xn, xt, xm_Taken⟩, kit_ty0 ks_LookupError_Taken rfl⟩
    by_cases eRefused : c = 8
    · subst eRefused; cases hb; exact ⟨⟨ga_Refused, gg_Refused, eC_Refused, hdi_Refused, xa_Refused, xn, xt, xm_Refused⟩, kit_ty0 ks_LookupError_Refused rfl⟩
    by_cases eNothingToUndo : c = 9
    · subst eNothingToUndo; cases hb; exact ⟨⟨ga_NothingToUndo, gg_NothingToUndo, eC_NothingToUndo, hdi_NothingToUndo, xa_NothingToUndo, xn, xt, xm_NothingToUndo⟩, kit_ty0 ks_LookupError_NothingToUndo rfl⟩
    simp only [if_neg eBadNumber, if_neg eBadName, if_neg eBadItem, if_neg eBadEvent, if_neg eBadNote, if_neg eTooMany, if_neg eUnknown, if_neg eTaken, if_neg eRefused, if_neg eNothingToUndo] at hb; cases hb
  have is_LookupError : IsTn K mg (mkT K [C_BadNumber, C_BadName, C_BadItem, C_BadEvent, C_BadNote, C_TooMany, C_Unknown, C_Taken, C_Refused, C_NothingToUndo] [] [] ["value", "index", "line", "limit", "reason", "names"]) "LookupError" tbl_LookupError := ⟨.inr ⟨PySem.W.mg_none_of X G bi_LookupError, "LookupError", by decide +kernel, it_LookupError⟩⟩
  have it_RuntimeError : IsT K (mkT K [C_BadNumber, C_BadName, C_BadItem, C_BadEvent, C_BadNote, C_TooMany, C_Unknown, C_Taken, C_Refused, C_NothingToUndo] [] [] ["value", "index", "line", "limit", "reason", "names"]) (.type "RuntimeError") tbl_RuntimeError := by
    refine ⟨fun c b hb => ?_⟩
    unfold tbl_RuntimeError at hb
    by_cases eBadNumber : c = 0
    · subst eBadNumber; cases hb; exact ⟨⟨ga_BadNumber, gg_BadNumber, eC_BadNumber, hdi_BadNumber, xa_BadNumber, xn, xt, xm_BadNumber⟩, kit_ty0 ks_RuntimeError_BadNumber rfl⟩
    by_cases eBadName : c = 1
    · subst eBadName; cases hb; exact ⟨⟨ga_BadName, gg_BadName, eC_BadName, hdi_BadName, xa_BadName, xn, xt, xm_BadName⟩, kit_ty0 ks_RuntimeError_BadName rfl⟩
    by_cases eBadItem : c = 2
    · subst eBadItem; cases hb; exact ⟨⟨ga_BadItem, gg_BadItem, eC_BadItem, hdi_BadItem, xa_BadItem, xn, xt, xm_BadItem⟩, kit_ty0 ks_RuntimeError_BadItem rfl⟩
    by_cases eBadEvent : c = 3
    · subst eBadEvent; cases hb; exact ⟨⟨ga_BadEvent, gg_BadEvent, eC_BadEvent, hdi_BadEvent, xa_BadEvent, xn, xt, xm_BadEvent⟩, kit_ty0 ks_RuntimeError_BadEvent rfl⟩
    by_cases eBadNote : c = 4
    · subst eBadNote; cases hb; exact ⟨⟨ga_BadNote, gg_BadNote, eC_BadNote, hdi_BadNote, xa_BadNote, xn, xt, xm_BadNote⟩, kit_ty0 ks_RuntimeError_BadNote rfl⟩
    by_cases eTooMany : c = 5
    · subst eTooMany; cases hb; exact ⟨⟨ga_TooMany, gg_TooMany, eC_TooMany, hdi_TooMany, xa_TooMany, xn, xt, xm_TooMany⟩, kit_ty0 ks_RuntimeError_TooMany rfl⟩
    by_cases eUnknown : c = 6
    · subst eUnknown; cases hb; exact ⟨⟨ga_Unknown, gg_Unknown, eC_Unknown, hdi_Unknown, xa_Unknown, xn, xt, xm_Unknown⟩, kit_ty0 ks_RuntimeError_Unknown rfl⟩
    by_cases eTaken : c = 7
    · subst eTaken; cases hb; exact ⟨⟨ga_Taken, gg_Taken, eC_Taken, hdi_Taken, xa_Taken, xn, xt, xm_Taken⟩, kit_ty0 ks_RuntimeError_Taken rfl⟩
    by_cases eRefused : c = 8
    · subst eRefused; cases hb; exact ⟨⟨ga_Refused, gg_Refused, eC_Refused, hdi_Refused, xa_Refused, xn, xt, xm_Refused⟩, kit_ty0 ks_RuntimeError_Refused rfl⟩
    by_cases eNothingToUndo : c = 9
    · subst eNothingToUndo; cases hb; exact ⟨⟨ga_NothingToUndo, gg_NothingToUndo, eC_NothingToUndo, hdi_NothingToUndo, xa_NothingToUndo, xn, xt, xm_NothingToUndo⟩, kit_ty0 ks_RuntimeError_NothingToUndo rfl⟩
    simp only [if_neg eBadNumber, if_neg eBadName, if_neg eBadItem, if_neg eBadEvent, if_neg eBadNote, if_neg eTooMany, if_neg eUnknown, if_neg eTaken, if_neg eRefused, if_neg eNothingToUndo] at hb; cases hb
  have is_RuntimeError : IsTn K mg (mkT K [C_BadNumber, C_BadName, C_BadItem, C_BadEvent, C_BadNote, C_TooMany, C_Unknown, C_Taken, C_Refused, C_NothingToUndo] [] [] ["value", "index", "line", "limit", "reason", "names"]) "RuntimeError" tbl_RuntimeError := ⟨.inr ⟨PySem.W.mg_none_of X G bi_RuntimeError, "RuntimeError", by decide +kernel, it_RuntimeError⟩⟩
  have kw_BadNumber_value_value := kwt1 (P := P) (w := w) (base := base) (pl := fun env => do return (← importBound (.Call (.Name "super" ⟨0, 0, 0, 0⟩) [] [] ⟨0, 0, 0, 0⟩) env).getD true) l_BadNumber ⟨ga_BadNumber, gg_BadNumber, eC_BadNumber, hdi_BadNumber⟩ (PySem.W.mg_of X G aC_BadNumber) c_BadNumber ⟨⟨_, _, _, ce_BadNumber⟩, ⟨_, _, _, _, _, _, co_BadNumber, v_BadNumber, fi_BadNumber⟩, su_BadNumber, mr_BadNumber, sv_BadNumber, nos, tp⟩ ⟨⟨_, _, _, _, _, _, _, _, _, _, _, _, _, _, _, xL_BadNumber, rv_BadNumber⟩, sa_BadNumber, eC_BadNumber, tC_BadNumber, kC_BadNumber⟩ i_BadNumber t_BadNumber n_BadNumber_value hsup (by decide +kernel) ⟨_, rfl, rfl⟩ rfl (by decide +kernel) (by decide +kernel) (fun _ _ => rfl) (fun _ => rfl)
  have kw_BadName_value_value := kwt1 (P := P) (w := w) (base := base) (pl := fun env => do return (← importBound (.Call (.Name "super" ⟨0, 0, 0, 0⟩) [] [] ⟨0, 0, 0, 0⟩) env).getD true) l_BadName ⟨ga_BadName, gg_BadName, eC_BadName, hdi_BadName⟩ (PySem.W.mg_of X G aC_BadName) c_BadName ⟨⟨_, _, _, ce_BadName⟩, ⟨_, _, _, _, _, _, co_BadName, v_BadName, fi_BadName⟩, su_BadName, mr_BadName, sv_BadName, nos, tp⟩ ⟨⟨_, _, _, _, _, _, _, _, _, _, _, _, _, _, _, xL_BadName, rv_BadName⟩, sa_BadName, eC_BadName, tC_BadName, kC_BadName⟩ i_BadName t_BadName n_BadName_value hsup (by decide +kernel) ⟨_, rfl, rfl⟩ rfl (by decide +kernel) (by decide +kernel) (fun _ _ => rfl) (fun _ => rfl)
  have kw_BadItem_index_index := kwt1 (P := P) (w := w) (base := base) (pl := fun env => do return (← importBound (.Call (.Name "super" ⟨0, 0, 0, 0⟩) [] [] ⟨0, 0, 0, 0⟩) env).getD true) l_BadItem ⟨ga_BadItem, gg_BadItem, eC_BadItem, hdi_BadItem⟩ (PySem.W.mg_of X G aC_BadItem) c_BadItem ⟨⟨_, _, _, ce_BadItem⟩, ⟨_, _, _, _, _, _, co_BadItem, v_BadItem, fi_BadItem⟩, su_BadItem, mr_BadItem, sv_BadItem, nos, tp⟩ ⟨⟨_, _, _, _, _, _, _, _, _, _, _, _, _, _, _, xL_BadItem, rv_BadItem⟩, sa_BadItem, eC_BadItem, tC_BadItem, kC_BadItem⟩ i_BadItem t_BadItem n_BadItem_index hsup (by decide +kernel) ⟨_, rfl, rfl⟩ rfl (by decide +kernel) (by decide +kernel) (fun _ _ => rfl) (fun _ => rfl)
  have kw_BadEvent_value_value := kwt1 (P := P) (w := w) (base := base) (pl := fun env => do return (← importBound (.Call (.Name "super" ⟨0, 0, 0, 0⟩) [] [] ⟨0, 0, 0, 0⟩) env).getD true) l_BadEvent ⟨ga_BadEvent, gg_BadEvent, eC_BadEvent, hdi_BadEvent⟩ (PySem.W.mg_of X G aC_BadEvent) c_BadEvent ⟨⟨_, _, _, ce_BadEvent⟩, ⟨_, _, _, _, _, _, co_BadEvent, v_BadEvent, fi_BadEvent⟩, su_BadEvent, mr_BadEvent, sv_BadEvent, nos, tp⟩ ⟨⟨_, _, _, _, _, _, _, _, _, _, _, _, _, _, _, xL_BadEvent, rv_BadEvent⟩, sa_BadEvent, eC_BadEvent, tC_BadEvent, kC_BadEvent⟩ i_BadEvent t_BadEvent n_BadEvent_value hsup (by decide +kernel) ⟨_, rfl, rfl⟩ rfl (by decide +kernel) (by decide +kernel) (fun _ _ => rfl) (fun _ => rfl)
  have kw_BadNote_line_line := kwt1 (P := P) (w := w) (base := base) (pl := fun env => do return (← importBound (.Call (.Name "super" ⟨0, 0, 0, 0⟩) [] [] ⟨0, 0, 0, 0⟩) env).getD true) l_BadNote ⟨ga_BadNote, gg_BadNote, eC_BadNote, hdi_BadNote⟩ (PySem.W.mg_of X G aC_BadNote) c_BadNote ⟨⟨_, _, _, ce_BadNote⟩, ⟨_, _, _, _, _, _, co_BadNote, v_BadNote, fi_BadNote⟩, su_BadNote, mr_BadNote, sv_BadNote, nos, tp⟩ ⟨⟨_, _, _, _, _, _, _, _, _, _, _, _, _, _, _, xL_BadNote, rv_BadNote⟩, sa_BadNote, eC_BadNote, tC_BadNote, kC_BadNote⟩ i_BadNote t_BadNote n_BadNote_line hsup (by decide +kernel) ⟨_, rfl, rfl⟩ rfl (by decide +kernel) (by decide +kernel) (fun _ _ => rfl) (fun _ => rfl)
  have kw_TooMany_limit_limit := kwt1 (P := P) (w := w) (base := base) (pl := fun env => do return (← importBound (.Call (.Name "super" ⟨0, 0, 0, 0⟩) [] [] ⟨0, 0, 0, 0⟩) env).getD true) l_TooMany ⟨ga_TooMany, gg_TooMany, eC_TooMany, hdi_TooMany⟩ (PySem.W.mg_of X G aC_TooMany) c_TooMany ⟨⟨_, _, _, ce_TooMany⟩, ⟨_, _, _, _, _, _, co_TooMany, v_TooMany, fi_TooMany⟩, su_TooMany, mr_TooMany, sv_TooMany, nos, tp⟩ ⟨⟨_, _, _, _, _, _, _, _, _, _, _, _, _, _, _, xL_TooMany, rv_TooMany⟩, sa_TooMany, eC_TooMany, tC_TooMany, kC_TooMany⟩ i_TooMany t_TooMany n_TooMany_limit hsup (by decide +kernel) ⟨_, rfl, rfl⟩ rfl (by decide +kernel) (by decide +kernel) (fun _ _ => rfl) (fun _ => rfl)
  have kw_Unknown_value_value := kwt1 (P := P) (w := w) (base := base) (pl := fun env => do return (← importBound (.Call (.Name "super" ⟨0, 0, 0, 0⟩) [] [] ⟨0, 0, 0, 0⟩) env).getD true) l_Unknown ⟨ga_Unknown, gg_Unknown, eC_Unknown, hdi_Unknown⟩ (PySem.W.mg_of X G aC_Unknown) c_Unknown ⟨⟨_, _, _, ce_Unknown⟩, ⟨_, _, _, _, _, _, co_Unknown, v_Unknown, fi_Unknown⟩, su_Unknown, mr_Unknown, sv_Unknown, nos, tp⟩ ⟨⟨_, _, _, _, _, _, _, _, _, _, _, _, _, _, _, xL_Unknown, rv_Unknown⟩, sa_Unknown, eC_Unknown, tC_Unknown, kC_Unknown⟩ i_Unknown t_Unknown n_Unknown_value hsup (by decide +kernel) ⟨_, rfl, rfl⟩ rfl (by decide +kernel) (by decide +kernel) (fun _ _ => rfl) (fun _ => rfl)
  have kw_Taken_value_value := kwt1 (P := P) (w := w) (base := base) (pl := fun env => do return (← importBound (.Call (.Name "super" ⟨0, 0, 0, 0⟩) [] [] ⟨0, 0, 0, 0⟩) env).getD true) l_Taken ⟨ga_Taken, gg_Taken, eC_Taken, hdi_Taken⟩ (PySem.W.mg_of X G aC_Taken) c_Taken ⟨⟨_, _, _, ce_Taken⟩, ⟨_, _, _, _, _, _, co_Taken, v_Taken, fi_Taken⟩, su_Taken, mr_Taken, sv_Taken, nos, tp⟩ ⟨⟨_, _, _, _, _, _, _, _, _, _, _, _, _, _, _, xL_Taken, rv_Taken⟩, sa_Taken, eC_Taken, tC_Taken, kC_Taken⟩ i_Taken t_Taken n_Taken_value hsup (by decide +kernel) ⟨_, rfl, rfl⟩ rfl (by decide +kernel) (by decide +kernel) (fun _ _ => rfl) (fun _ => rfl)
  have kw_Refused_names_reason_names := kwt2 (P := P) (w := w) (base := base) (pl := fun env => do return (← importBound (.Call (.Name "super" ⟨0, 0, 0, 0⟩) [] [] ⟨0, 0, 0, 0⟩) env).getD true) l_Refused ⟨ga_Refused, gg_Refused, eC_Refused, hdi_Refused⟩ (PySem.W.mg_of X G aC_Refused) c_Refused ⟨⟨_, _, _, ce_Refused⟩, ⟨_, _, _, _, _, _, co_Refused, v_Refused, fi_Refused⟩, su_Refused, mr_Refused, sv_Refused, nos, tp⟩ ⟨⟨_, _, _, _, _, _, _, _, _, _, _, _, _, _, _, xL_Refused, rv_Refused⟩, sa_Refused, eC_Refused, tC_Refused, kC_Refused⟩ i_Refused t_Refused n_Refused_reason n_Refused_names hsup (by decide +kernel) ⟨_, rfl, rfl⟩ rfl (by decide +kernel) (by decide +kernel) (by decide +kernel) (by decide +kernel) (fun _ _ _ => rfl) (fun _ => rfl) (by decide +kernel)
  have kw_Refused_reason_names_reason := kwt2r (P := P) (w := w) (base := base) (pl := fun env => do return (← importBound (.Call (.Name "super" ⟨0, 0, 0, 0⟩) [] [] ⟨0, 0, 0, 0⟩) env).getD true) l_Refused ⟨ga_Refused, gg_Refused, eC_Refused, hdi_Refused⟩ (PySem.W.mg_of X G aC_Refused) c_Refused ⟨⟨_, _, _, ce_Refused⟩, ⟨_, _, _, _, _, _, co_Refused, v_Refused, fi_Refused⟩, su_Refused, mr_Refused, sv_Refused, nos, tp⟩ ⟨⟨_, _, _, _, _, _, _, _, _, _, _, _, _, _, _, xL_Refused, rv_Refused⟩, sa_Refused, eC_Refused, tC_Refused, kC_Refused⟩ i_Refused t_Refused n_Refused_reason n_Refused_names hsup (by decide +kernel) ⟨_, rfl, rfl⟩ rfl (by decide +kernel) (by decide +kernel) (by decide +kernel) (by decide +kernel) (fun _ _ _ => rfl) (fun _ => rfl) (by decide +kernel)
  have c__law_alike := cal__law_alike (P := P) (w := w) (base := base) hT B F__law_alike (PySem.W.mg_of X G a__law_alike)       
  have c__law_taken := cal__law_taken (P := P) (w := w) (base := base) hT B F__law_taken (PySem.W.mg_of X G a__law_taken)       
  have c__law_pick := cal__law_pick (P := P) (w := w) (base := base) hT B F__law_pick (PySem.W.mg_of X G a__law_pick) c__law_taken      
  have c__law_raised := cal__law_raised (P := P) (w := w) (base := base) hT B F__law_raised (PySem.W.mg_of X G a__law_raised)  x_BadNumber x_BadName x_BadItem x_BadEvent x_BadNote x_TooMany x_Unknown x_Taken x_Refused h_StagesError e0_NothingToUndo is_BadNumber is_BadName is_BadItem is_BadEvent is_BadNote is_TooMany is_Unknown is_Taken is_Refused is_NothingToUndo is_ValueError is_LookupError is_RuntimeError  xf_value xf_index xf_line xf_limit xf_reason xf_names hinj
  exact FnG.imp (ok_law (P := P) (w := w) (base := base) hT B F_law (PySem.W.mg_of X G a_law) c__law_pick c__law_taken c__law_raised (c__law_alike 6)     kw_BadNumber_value_value kw_BadName_value_value kw_BadItem_index_index kw_BadEvent_value_value kw_BadNote_line_line kw_TooMany_limit_limit kw_Unknown_value_value kw_Taken_value_value kw_Refused_names_reason_names kw_Refused_reason_names_reason ) (top_of hT law_math)
theorem walk {l : PySem.W.OpenLaw} {q : Program} {loose : List Str} {XP : (Str → Option Value) → Heap → Prop} {YP : World → Heap → Prop} {d : DefRec} {K : Params → PySem.W.Frag} (hn : l.most = some 63) (hdf : d.params.defaults = []) (hY : ∀ (w : World) (h : Heap), YP w h → (K w.params).In h)
    (F : ∀ (w : World) (mg : Str → Option Value) (fa : Addr) (h : Heap), (K w.params).In h → h.Ns mainGlobals mg → mg d.name = some (.ref fa) → ∃ fd : FuncData, (∀ (s : Shared) (u : Value), BindsTo s fd ⟨[u], []⟩ [("script", u)]) ∧ ∀ base : Heap, (K w.params).In base → base.Ns mainGlobals mg → FnG l.prog w (K w.params) mg base (L2.CX l.prog w) 8 fa fd ["script"] (spTop (K w.params))) :
    PySem.W.WalkO q loose XP YP l.row.toRowW d [] (fun f vs => PySem.call f vs) :=
  walkG (n := 63) (k := 8) (x := "script") (CX := fun w => L2.CX l.prog w) (sp := fun w => spTop (K w.params)) hn (by decide) hdf ⟨rfl, by decide, by decide⟩ hY F (fun w H a ns h1 h2 => ⟨a, ns, rfl, h2, h1, fun _ => rfl⟩) fun w H s e s' h => by
    obtain ⟨_, _, _, _, _, _, _, _, _, _, _, _, z⟩ := h
    exact z
end K09
open PySem PySem.W PyProof.Rows in
set_option maxRecDepth 100000 in
set_option maxHeartbeats 0 in
theorem PySem.Challenge.cw_coachstages_k09_errors_holds : PySem.Challenge.rw_coachstages_k09_errors.Holds := by
  w_on; o_law; k_head; (case hw => w_witness2)
  k_fill
  refine K09.walk (l := PySem.Challenge.rw_coachstages_k09_errors) rfl rfl (fun w h Y => PySem.W.kIn_of Y) ?F
  case F =>
    intro w mg fa h KX G hmg
    refine' K09.all_mk KX G hmg (by decide +kernel) ?a__law_alike ?l__law_alike ?c__law_alike ?k__law_alike ?a__law_taken ?l__law_taken ?c__law_taken ?k__law_taken ?a__law_pick ?l__law_pick ?c__law_pick ?k__law_pick ?a__law_raised ?l__law_raised ?c__law_raised ?k__law_raised ?a_law ?l_law ?c_law ?k_law ?z_len ?z_abs ?z_int ?z_tuple ?z_list ?z_sum ?z_max ?z_min ?z_any ?z_all ?z_range ?z_isinstance ?z_str ?z_bool ?z_sorted ?z_set ?z_dict ?z_enumerate ?z_zip ?z_repr ?z_super ?nos ?bi_ValueError ?bi_LookupError ?bi_RuntimeError ?xn ?xt ?aC_BadNumber ?aC_BadName ?aC_BadItem ?aC_BadEvent ?aC_BadNote ?aC_TooMany ?aC_Unknown ?aC_Taken ?aC_Refused ?aC_StagesError ?aC_NothingToUndo ?xL_BadNumber ?rv_BadNumber ?sa_BadNumber ?eC_BadNumber ?tC_BadNumber ?kC_BadNumber ?i_BadNumber ?t_BadNumber ?l_BadNumber ?c_BadNumber ?ce_BadNumber ?co_BadNumber ?v_BadNumber ?fi_BadNumber ?su_BadNumber ?mr_BadNumber ?sv_BadNumber ?n_BadNumber_value ?ga_BadNumber ?gg_BadNumber ?hdi_BadNumber ?xL_BadName ?rv_BadName ?sa_BadName ?eC_BadName ?tC_BadName ?kC_BadName ?i_BadName ?t_BadName ?l_BadName ?c_BadName ?ce_BadName ?co_BadName ?v_BadName ?fi_BadName ?su_BadName ?mr_BadName ?sv_BadName ?n_BadName_value ?ga_BadName ?gg_BadName ?hdi_BadName ?xL_BadItem ?rv_BadItem ?sa_BadItem ?eC_BadItem ?tC_BadItem ?kC_BadItem ?i_BadItem ?t_BadItem ?l_BadItem ?c_BadItem ?ce_BadItem ?co_BadItem ?v_BadItem ?fi_BadItem ?su_BadItem ?mr_BadItem ?sv_BadItem ?n_BadItem_index ?ga_BadItem ?gg_BadItem ?hdi_BadItem ?xL_BadEvent ?rv_BadEvent ?sa_BadEvent ?eC_BadEvent ?tC_BadEvent ?kC_BadEvent ?i_BadEvent ?t_BadEvent ?l_BadEvent ?c_BadEvent ?ce_BadEvent ?co_BadEvent ?v_BadEvent ?fi_BadEvent ?su_BadEvent ?mr_BadEvent ?sv_BadEvent ?n_BadEvent_value ?ga_BadEvent ?gg_BadEvent ?hdi_BadEvent ?xL_BadNote ?rv_BadNote ?sa_BadNote ?eC_BadNote ?tC_BadNote ?kC_BadNote ?i_BadNote ?t_BadNote ?l_BadNote ?c_BadNote ?ce_BadNote ?co_BadNote ?v_BadNote ?fi_BadNote ?su_BadNote ?mr_BadNote ?sv_BadNote ?n_BadNote_line ?ga_BadNote ?gg_BadNote ?hdi_BadNote ?xL_TooMany ?rv_TooMany ?sa_TooMany ?eC_TooMany ?tC_TooMany ?kC_TooMany ?i_TooMany ?t_TooMany ?l_TooMany ?c_TooMany ?ce_TooMany ?co_TooMany ?v_TooMany ?fi_TooMany ?su_TooMany ?mr_TooMany ?sv_TooMany ?n_TooMany_limit ?ga_TooMany ?gg_TooMany ?hdi_TooMany ?xL_Unknown ?rv_Unknown ?sa_Unknown ?eC_Unknown ?tC_Unknown ?kC_Unknown ?i_Unknown ?t_Unknown ?l_Unknown ?c_Unknown ?ce_Unknown ?co_Unknown ?v_Unknown ?fi_Unknown ?su_Unknown ?mr_Unknown ?sv_Unknown ?n_Unknown_value ?ga_Unknown ?gg_Unknown ?hdi_Unknown ?xL_Taken ?rv_Taken ?sa_Taken ?eC_Taken ?tC_Taken ?kC_Taken ?i_Taken ?t_Taken ?l_Taken ?c_Taken ?ce_Taken ?co_Taken ?v_Taken ?fi_Taken ?su_Taken ?mr_Taken ?sv_Taken ?n_Taken_value ?ga_Taken ?gg_Taken ?hdi_Taken ?xL_Refused ?rv_Refused ?sa_Refused ?eC_Refused ?tC_Refused ?kC_Refused ?i_Refused ?t_Refused ?l_Refused ?c_Refused ?ce_Refused ?co_Refused ?v_Refused ?fi_Refused ?su_Refused ?mr_Refused ?sv_Refused ?n_Refused_reason ?n_Refused_names ?ga_Refused ?gg_Refused ?hdi_Refused ?xP_NothingToUndo ?eC_NothingToUndo ?tC_NothingToUndo ?kC_NothingToUndo ?ga_NothingToUndo ?gg_NothingToUndo ?hdi_NothingToUndo ?xa_BadNumber ?xm_BadNumber ?xc_BadNumber ?sf_BadNumber ?xa_BadName ?xm_BadName ?xc_BadName ?sf_BadName ?xa_BadItem ?xm_BadItem ?xc_BadItem ?sf_BadItem ?xa_BadEvent ?xm_BadEvent ?xc_BadEvent ?sf_BadEvent ?xa_BadNote ?xm_BadNote ?xc_BadNote ?sf_BadNote ?xa_TooMany ?xm_TooMany ?xc_TooMany ?sf_TooMany ?xa_Unknown ?xm_Unknown ?xc_Unknown ?sf_Unknown ?xa_Taken ?xm_Taken ?xc_Taken ?sf_Taken ?xa_Refused ?xm_Refused ?xc_Refused ?sf_Refused ?xa_NothingToUndo ?xm_NothingToUndo ?xc_NothingToUndo ?sf_NothingToUndo ?ks_BadNumber_BadName ?ks_BadNumber_BadItem ?ks_BadNumber_BadEvent ?ks_BadNumber_BadNote ?ks_BadNumber_TooMany ?ks_BadNumber_Unknown ?ks_BadNumber_Taken ?ks_BadNumber_Refused ?ks_BadNumber_NothingToUndo ?ks_BadName_BadNumber ?ks_BadName_BadItem ?ks_BadName_BadEvent ?ks_BadName_BadNote ?ks_BadName_TooMany ?ks_BadName_Unknown ?ks_BadName_Taken ?ks_BadName_Refused ?ks_BadName_NothingToUndo ?ks_BadItem_BadNumber ?ks_BadItem_BadName ?ks_BadItem_BadEvent ?ks_BadItem_BadNote ?ks_BadItem_TooMany ?ks_BadItem_Unknown ?ks_BadItem_Taken ?ks_BadItem_Refused ?ks_BadItem_NothingToUndo ?ks_BadEvent_BadNumber ?ks_BadEvent_BadName ?ks_BadEvent_BadItem ?ks_BadEvent_BadNote ?ks_BadEvent_TooMany ?ks_BadEvent_Unknown ?ks_BadEvent_Taken ?ks_BadEvent_Refused ?ks_BadEvent_NothingToUndo ?ks_BadNote_BadNumber ?ks_BadNote_BadName ?ks_BadNote_BadItem ?ks_BadNote_BadEvent ?ks_BadNote_TooMany ?ks_BadNote_Unknown ?ks_BadNote_Taken ?ks_BadNote_Refused ?ks_BadNote_NothingToUndo ?ks_TooMany_BadNumber ?ks_TooMany_BadName ?ks_TooMany_BadItem ?ks_TooMany_BadEvent ?ks_TooMany_BadNote ?ks_TooMany_Unknown ?ks_TooMany_Taken ?ks_TooMany_Refused ?ks_TooMany_NothingToUndo ?ks_Unknown_BadNumber ?ks_Unknown_BadName ?ks_Unknown_BadItem ?ks_Unknown_BadEvent ?ks_Unknown_BadNote ?ks_Unknown_TooMany ?ks_Unknown_Taken ?ks_Unknown_Refused ?ks_Unknown_NothingToUndo ?ks_Taken_BadNumber ?ks_Taken_BadName ?ks_Taken_BadItem ?ks_Taken_BadEvent ?ks_Taken_BadNote ?ks_Taken_TooMany ?ks_Taken_Unknown ?ks_Taken_Refused ?ks_Taken_NothingToUndo ?ks_Refused_BadNumber ?ks_Refused_BadName ?ks_Refused_BadItem ?ks_Refused_BadEvent ?ks_Refused_BadNote ?ks_Refused_TooMany ?ks_Refused_Unknown ?ks_Refused_Taken ?ks_Refused_NothingToUndo ?ks_NothingToUndo_BadNumber ?ks_NothingToUndo_BadName ?ks_NothingToUndo_BadItem ?ks_NothingToUndo_BadEvent ?ks_NothingToUndo_BadNote ?ks_NothingToUndo_TooMany ?ks_NothingToUndo_Unknown ?ks_NothingToUndo_Taken ?ks_NothingToUndo_Refused ?ks_ValueError_BadNumber ?ks_ValueError_BadName ?ks_ValueError_BadItem ?ks_ValueError_BadEvent ?ks_ValueError_BadNote ?ks_ValueError_TooMany ?ks_ValueError_Unknown ?ks_ValueError_Taken ?ks_ValueError_Refused ?ks_ValueError_NothingToUndo ?ks_LookupError_BadNumber ?ks_LookupError_BadName ?ks_LookupError_BadItem ?ks_LookupError_BadEvent ?ks_LookupError_BadNote ?ks_LookupError_TooMany ?ks_LookupError_Unknown ?ks_LookupError_Taken ?ks_LookupError_Refused ?ks_LookupError_NothingToUndo ?ks_RuntimeError_BadNumber ?ks_RuntimeError_BadName ?ks_RuntimeError_BadItem ?ks_RuntimeError_BadEvent ?ks_RuntimeError_BadNote ?ks_RuntimeError_TooMany ?ks_RuntimeError_Unknown ?ks_RuntimeError_Taken ?ks_RuntimeError_Refused ?ks_RuntimeError_NothingToUndo ?eb_StagesError ?ec_StagesError ?et_StagesError ?e_StagesError_BadNumber ?e_StagesError_BadName ?e_StagesError_BadItem ?e_StagesError_BadEvent ?e_StagesError_BadNote ?e_StagesError_TooMany ?e_StagesError_Unknown ?e_StagesError_Taken ?e_StagesError_Refused ?e_StagesError_NothingToUndo
    (case a__law_alike => k_is)
    (case l__law_alike => k_is)
    (case c__law_alike => k_is)
    (case k__law_alike => k_is)
    (case a__law_taken => k_is)
    (case l__law_taken => k_is)
    (case c__law_taken => k_is)
    (case k__law_taken => k_is)
    (case a__law_pick => k_is)
    (case l__law_pick => k_is)
    (case c__law_pick => k_is)
    (case k__law_pick => k_is)
    (case a__law_raised => k_is)
    (case l__law_raised => k_is)
    (case c__law_raised => k_is)
    (case k__law_raised => k_is)
    (case a_law => k_is)
    (case l_law => k_is)
    (case c_law => k_is)
    (case k_law => k_is)
    (case z_len => k_is)
    (case z_abs => k_is)
    (case z_int => k_is)
    (case z_tuple => k_is)
    (case z_list => k_is)
    (case z_sum => k_is)
    (case z_max => k_is)
    (case z_min => k_is)
    (case z_any => k_is)
    (case z_all => k_is)
    (case z_range => k_is)
    (case z_isinstance => k_is)
    (case z_str => k_is)
    (case z_bool => k_is)
    (case z_sorted => k_is)
    (case z_set => k_is)
    (case z_dict => k_is)
    (case z_enumerate => k_is)
    (case z_zip => k_is)
    (case z_repr => k_is)
    (case z_super => k_is)
    (case nos => k_is)
    (case bi_ValueError => k_is)
    (case bi_LookupError => k_is)
    (case bi_RuntimeError => k_is)
    (case xn => k_is)
    (case xt => k_is)
    (case aC_BadNumber => k_is)
    (case aC_BadName => k_is)
    (case aC_BadItem => k_is)
    (case aC_BadEvent => k_is)
    (case aC_BadNote => k_is)
    (case aC_TooMany => k_is)
    (case aC_Unknown => k_is)
    (case aC_Taken => k_is)
    (case aC_Refused => k_is)
    (case aC_StagesError => k_is)
    (case aC_NothingToUndo => k_is)
    (case xL_BadNumber => k_is)
    (case rv_BadNumber => first | rfl | decide +kernel | k_is)
    (case sa_BadNumber => k_is)
    (case eC_BadNumber => k_is)
    (case tC_BadNumber => k_is)
    (case kC_BadNumber => k_is)
    (case i_BadNumber => k_is)
    (case t_BadNumber => k_is)
    (case l_BadNumber => k_is)
    (case c_BadNumber => k_is)
    (case ce_BadNumber => k_is)
    (case co_BadNumber => k_is)
    (case v_BadNumber => first | rfl | decide +kernel | k_is)
    (case fi_BadNumber => first | rfl | decide +kernel | k_is)
    (case su_BadNumber => ks_is)
    (case mr_BadNumber => k_is)
    (case sv_BadNumber => k_is)
    (case n_BadNumber_value => k_is)
    (case ga_BadNumber => k_is)
    (case gg_BadNumber => k_is)
    (case hdi_BadNumber => k_is)
    (case xL_BadName => k_is)
    (case rv_BadName => first | rfl | decide +kernel | k_is)
    (case sa_BadName => k_is)
    (case eC_BadName => k_is)
    (case tC_BadName => k_is)
    (case kC_BadName => k_is)
    (case i_BadName => k_is)
    (case t_BadName => k_is)
    (case l_BadName => k_is)
    (case c_BadName => k_is)
    (case ce_BadName => k_is)
    (case co_BadName => k_is)
    (case v_BadName => first | rfl | decide +kernel | k_is)
    (case fi_BadName => first | rfl | decide +kernel | k_is)
    (case su_BadName => ks_is)
    (case mr_BadName => k_is)
    (case sv_BadName => k_is)
    (case n_BadName_value => k_is)
    (case ga_BadName => k_is)
    (case gg_BadName => k_is)
    (case hdi_BadName => k_is)
    (case xL_BadItem => k_is)
    (case rv_BadItem => first | rfl | decide +kernel | k_is)
    (case sa_BadItem => k_is)
    (case eC_BadItem => k_is)
    (case tC_BadItem => k_is)
    (case kC_BadItem => k_is)
    (case i_BadItem => k_is)
    (case t_BadItem => k_is)
    (case l_BadItem => k_is)
    (case c_BadItem => k_is)
    (case ce_BadItem => k_is)
    (case co_BadItem => k_is)
    (case v_BadItem => first | rfl | decide +kernel | k_is)
    (case fi_BadItem => first | rfl | decide +kernel | k_is)
    (case su_BadItem => ks_is)
    (case mr_BadItem => k_is)
    (case sv_BadItem => k_is)
    (case n_BadItem_index => k_is)
    (case ga_BadItem => k_is)
    (case gg_BadItem => k_is)
    (case hdi_BadItem => k_is)
    (case xL_BadEvent => k_is)
    (case rv_BadEvent => first | rfl | decide +kernel | k_is)
    (case sa_BadEvent => k_is)
    (case eC_BadEvent => k_is)
    (case tC_BadEvent => k_is)
    (case kC_BadEvent => k_is)
    (case i_BadEvent => k_is)
    (case t_BadEvent => k_is)
    (case l_BadEvent => k_is)
    (case c_BadEvent => k_is)
    (case ce_BadEvent => k_is)
    (case co_BadEvent => k_is)
    (case v_BadEvent => first | rfl | decide +kernel | k_is)
    (case fi_BadEvent => first | rfl | decide +kernel | k_is)
    (case su_BadEvent => ks_is)
    (case mr_BadEvent => k_is)
    (case sv_BadEvent => k_is)
    (case n_BadEvent_value => k_is)
    (case ga_BadEvent => k_is)
    (case gg_BadEvent => k_is)
    (case hdi_BadEvent => k_is)
    (case xL_BadNote => k_is)
    (case rv_BadNote => first | rfl | decide +kernel | k_is)
    (case sa_BadNote => k_is)
    (case eC_BadNote => k_is)
    (case tC_BadNote => k_is)
    (case kC_BadNote => k_is)
    (case i_BadNote => k_is)
    (case t_BadNote => k_is)
    (case l_BadNote => k_is)
    (case c_BadNote => k_is)
    (case ce_BadNote => k_is)
    (case co_BadNote => k_is)
    (case v_BadNote => first | rfl | decide +kernel | k_is)
    (case fi_BadNote => first | rfl | decide +kernel | k_is)
    (case su_BadNote => ks_is)
    (case mr_BadNote => k_is)
    (case sv_BadNote => k_is)
    (case n_BadNote_line => k_is)
    (case ga_BadNote => k_is)
    (case gg_BadNote => k_is)
    (case hdi_BadNote => k_is)
    (case xL_TooMany => k_is)
    (case rv_TooMany => first | rfl | decide +kernel | k_is)
    (case sa_TooMany => k_is)
    (case eC_TooMany => k_is)
    (case tC_TooMany => k_is)
    (case kC_TooMany => k_is)
    (case i_TooMany => k_is)
    (case t_TooMany => k_is)
    (case l_TooMany => k_is)
    (case c_TooMany => k_is)
    (case ce_TooMany => k_is)
    (case co_TooMany => k_is)
    (case v_TooMany => first | rfl | decide +kernel | k_is)
    (case fi_TooMany => first | rfl | decide +kernel | k_is)
    (case su_TooMany => ks_is)
    (case mr_TooMany => k_is)
    (case sv_TooMany => k_is)
    (case n_TooMany_limit => k_is)
    (case ga_TooMany => k_is)
    (case gg_TooMany => k_is)
    (case hdi_TooMany => k_is)
    (case xL_Unknown => k_is)
    (case rv_Unknown => first | rfl | decide +kernel | k_is)
    (case sa_Unknown => k_is)
    (case eC_Unknown => k_is)
    (case tC_Unknown => k_is)
    (case kC_Unknown => k_is)
    (case i_Unknown => k_is)
    (case t_Unknown => k_is)
    (case l_Unknown => k_is)
    (case c_Unknown => k_is)
    (case ce_Unknown => k_is)
    (case co_Unknown => k_is)
    (case v_Unknown => first | rfl | decide +kernel | k_is)
    (case fi_Unknown => first | rfl | decide +kernel | k_is)
    (case su_Unknown => ks_is)
    (case mr_Unknown => k_is)
    (case sv_Unknown => k_is)
    (case n_Unknown_value => k_is)
    (case ga_Unknown => k_is)
    (case gg_Unknown => k_is)
    (case hdi_Unknown => k_is)
    (case xL_Taken => k_is)
    (case rv_Taken => first | rfl | decide +kernel | k_is)
    (case sa_Taken => k_is)
    (case eC_Taken => k_is)
    (case tC_Taken => k_is)
    (case kC_Taken => k_is)
    (case i_Taken => k_is)
    (case t_Taken => k_is)
    (case l_Taken => k_is)
    (case c_Taken => k_is)
    (case ce_Taken => k_is)
    (case co_Taken => k_is)
    (case v_Taken => first | rfl | decide +kernel | k_is)
    (case fi_Taken => first | rfl | decide +kernel | k_is)
    (case su_Taken => ks_is)
    (case mr_Taken => k_is)
    (case sv_Taken => k_is)
    (case n_Taken_value => k_is)
    (case ga_Taken => k_is)
    (case gg_Taken => k_is)
    (case hdi_Taken => k_is)
    (case xL_Refused => k_is)
    (case rv_Refused => first | rfl | decide +kernel | k_is)
    (case sa_Refused => k_is)
    (case eC_Refused => k_is)
    (case tC_Refused => k_is)
    (case kC_Refused => k_is)
    (case i_Refused => k_is)
    (case t_Refused => k_is)
    (case l_Refused => k_is)
    (case c_Refused => k_is)
    (case ce_Refused => k_is)
    (case co_Refused => k_is)
    (case v_Refused => first | rfl | decide +kernel | k_is)
    (case fi_Refused => first | rfl | decide +kernel | k_is)
    (case su_Refused => ks_is)
    (case mr_Refused => k_is)
    (case sv_Refused => k_is)
    (case n_Refused_reason => k_is)
    (case n_Refused_names => k_is)
    (case ga_Refused => k_is)
    (case gg_Refused => k_is)
    (case hdi_Refused => k_is)
    (case xP_NothingToUndo => k_exc)
    (case eC_NothingToUndo => k_is)
    (case tC_NothingToUndo => k_is)
    (case kC_NothingToUndo => k_is)
    (case ga_NothingToUndo => k_is)
    (case gg_NothingToUndo => k_is)
    (case hdi_NothingToUndo => k_is)
    (case xa_BadNumber => k_is)
    (case xm_BadNumber => k_is)
    (case xc_BadNumber => k_is)
    (case sf_BadNumber => k_is)
    (case xa_BadName => k_is)
    (case xm_BadName => k_is)
    (case xc_BadName => k_is)
    (case sf_BadName => k_is)
    (case xa_BadItem => k_is)
    (case xm_BadItem => k_is)
    (case xc_BadItem => k_is)
    (case sf_BadItem => k_is)
    (case xa_BadEvent => k_is)
    (case xm_BadEvent => k_is)
    (case xc_BadEvent => k_is)
    (case sf_BadEvent => k_is)
    (case xa_BadNote => k_is)
    (case xm_BadNote => k_is)
    (case xc_BadNote => k_is)
    (case sf_BadNote => k_is)
    (case xa_TooMany => k_is)
    (case xm_TooMany => k_is)
    (case xc_TooMany => k_is)
    (case sf_TooMany => k_is)
    (case xa_Unknown => k_is)
    (case xm_Unknown => k_is)
    (case xc_Unknown => k_is)
    (case sf_Unknown => k_is)
    (case xa_Taken => k_is)
    (case xm_Taken => k_is)
    (case xc_Taken => k_is)
    (case sf_Taken => k_is)
    (case xa_Refused => k_is)
    (case xm_Refused => k_is)
    (case xc_Refused => k_is)
    (case sf_Refused => k_is)
    (case xa_NothingToUndo => k_is)
    (case xm_NothingToUndo => k_is)
    (case xc_NothingToUndo => k_is)
    (case sf_NothingToUndo => k_is)
    (case ks_BadNumber_BadName => k_is)
    (case ks_BadNumber_BadItem => k_is)
    (case ks_BadNumber_BadEvent => k_is)
    (case ks_BadNumber_BadNote => k_is)
    (case ks_BadNumber_TooMany => k_is)
    (case ks_BadNumber_Unknown => k_is)
    (case ks_BadNumber_Taken => k_is)
    (case ks_BadNumber_Refused => k_is)
    (case ks_BadNumber_NothingToUndo => k_is)
    (case ks_BadName_BadNumber => k_is)
    (case ks_BadName_BadItem => k_is)
    (case ks_BadName_BadEvent => k_is)
    (case ks_BadName_BadNote => k_is)
    (case ks_BadName_TooMany => k_is)
    (case ks_BadName_Unknown => k_is)
    (case ks_BadName_Taken => k_is)
    (case ks_BadName_Refused => k_is)
    (case ks_BadName_NothingToUndo => k_is)
    (case ks_BadItem_BadNumber => k_is)
    (case ks_BadItem_BadName => k_is)
    (case ks_BadItem_BadEvent => k_is)
    (case ks_BadItem_BadNote => k_is)
    (case ks_BadItem_TooMany => k_is)
    (case ks_BadItem_Unknown => k_is)
    (case ks_BadItem_Taken => k_is)
    (case ks_BadItem_Refused => k_is)
    (case ks_BadItem_NothingToUndo => k_is)
    (case ks_BadEvent_BadNumber => k_is)
    (case ks_BadEvent_BadName => k_is)
    (case ks_BadEvent_BadItem => k_is)
    (case ks_BadEvent_BadNote => k_is)
    (case ks_BadEvent_TooMany => k_is)
    (case ks_BadEvent_Unknown => k_is)
    (case ks_BadEvent_Taken => k_is)
    (case ks_BadEvent_Refused => k_is)
    (case ks_BadEvent_NothingToUndo => k_is)
    (case ks_BadNote_BadNumber => k_is)
    (case ks_BadNote_BadName => k_is)
    (case ks_BadNote_BadItem => k_is)
    (case ks_BadNote_BadEvent => k_is)
    (case ks_BadNote_TooMany => k_is)
    (case ks_BadNote_Unknown => k_is)
    (case ks_BadNote_Taken => k_is)
    (case ks_BadNote_Refused => k_is)
    (case ks_BadNote_NothingToUndo => k_is)
    (case ks_TooMany_BadNumber => k_is)
    (case ks_TooMany_BadName => k_is)
    (case ks_TooMany_BadItem => k_is)
    (case ks_TooMany_BadEvent => k_is)
    (case ks_TooMany_BadNote => k_is)
    (case ks_TooMany_Unknown => k_is)
    (case ks_TooMany_Taken => k_is)
    (case ks_TooMany_Refused => k_is)
    (case ks_TooMany_NothingToUndo => k_is)
    (case ks_Unknown_BadNumber => k_is)
    (case ks_Unknown_BadName => k_is)
    (case ks_Unknown_BadItem => k_is)
    (case ks_Unknown_BadEvent => k_is)
    (case ks_Unknown_BadNote => k_is)
    (case ks_Unknown_TooMany => k_is)
    (case ks_Unknown_Taken => k_is)
    (case ks_Unknown_Refused => k_is)
    (case ks_Unknown_NothingToUndo => k_is)
    (case ks_Taken_BadNumber => k_is)
    (case ks_Taken_BadName => k_is)
    (case ks_Taken_BadItem => k_is)
    (case ks_Taken_BadEvent => k_is)
    (case ks_Taken_BadNote => k_is)
    (case ks_Taken_TooMany => k_is)
    (case ks_Taken_Unknown => k_is)
    (case ks_Taken_Refused => k_is)
    (case ks_Taken_NothingToUndo => k_is)
    (case ks_Refused_BadNumber => k_is)
    (case ks_Refused_BadName => k_is)
    (case ks_Refused_BadItem => k_is)
    (case ks_Refused_BadEvent => k_is)
    (case ks_Refused_BadNote => k_is)
    (case ks_Refused_TooMany => k_is)
    (case ks_Refused_Unknown => k_is)
    (case ks_Refused_Taken => k_is)
    (case ks_Refused_NothingToUndo => k_is)
    (case ks_NothingToUndo_BadNumber => k_is)
    (case ks_NothingToUndo_BadName => k_is)
    (case ks_NothingToUndo_BadItem => k_is)
    (case ks_NothingToUndo_BadEvent => k_is)
    (case ks_NothingToUndo_BadNote => k_is)
    (case ks_NothingToUndo_TooMany => k_is)
    (case ks_NothingToUndo_Unknown => k_is)
    (case ks_NothingToUndo_Taken => k_is)
    (case ks_NothingToUndo_Refused => k_is)
    (case ks_ValueError_BadNumber => k_is)
    (case ks_ValueError_BadName => k_is)
    (case ks_ValueError_BadItem => k_is)
    (case ks_ValueError_BadEvent => k_is)
    (case ks_ValueError_BadNote => k_is)
    (case ks_ValueError_TooMany => k_is)
    (case ks_ValueError_Unknown => k_is)
    (case ks_ValueError_Taken => k_is)
    (case ks_ValueError_Refused => k_is)
    (case ks_ValueError_NothingToUndo => k_is)
    (case ks_LookupError_BadNumber => k_is)
    (case ks_LookupError_BadName => k_is)
    (case ks_LookupError_BadItem => k_is)
    (case ks_LookupError_BadEvent => k_is)
    (case ks_LookupError_BadNote => k_is)
    (case ks_LookupError_TooMany => k_is)
    (case ks_LookupError_Unknown => k_is)
    (case ks_LookupError_Taken => k_is)
    (case ks_LookupError_Refused => k_is)
    (case ks_LookupError_NothingToUndo => k_is)
    (case ks_RuntimeError_BadNumber => k_is)
    (case ks_RuntimeError_BadName => k_is)
    (case ks_RuntimeError_BadItem => k_is)
    (case ks_RuntimeError_BadEvent => k_is)
    (case ks_RuntimeError_BadNote => k_is)
    (case ks_RuntimeError_TooMany => k_is)
    (case ks_RuntimeError_Unknown => k_is)
    (case ks_RuntimeError_Taken => k_is)
    (case ks_RuntimeError_Refused => k_is)
    (case ks_RuntimeError_NothingToUndo => k_is)
    (case eb_StagesError => k_is)
    (case ec_StagesError => k_is)
    (case et_StagesError => k_is)
    (case e_StagesError_BadNumber => k_is)
    (case e_StagesError_BadName => k_is)
    (case e_StagesError_BadItem => k_is)
    (case e_StagesError_BadEvent => k_is)
    (case e_StagesError_BadNote => k_is)
    (case e_StagesError_TooMany => k_is)
    (case e_StagesError_Unknown => k_is)
    (case e_StagesError_Taken => k_is)
    (case e_StagesError_Refused => k_is)
    (case e_StagesError_NothingToUndo => k_is)

