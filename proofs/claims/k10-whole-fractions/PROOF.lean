import PyProof.Rows.All
import Wide.All
import OpenK.AllK
import Wide.FinOn
import HandS.ForMost
import HandS.Exc
import HandS.TryOnly
import HandS.TryMany
import HandS.ExcOwn
import HandS.WordsExc
import HandS.ExcInit
import HandS.Nested
import KE.KExcSuper
import HandS.Walk
import HandS.TupAny
import HandS.Deep
import HandS.IsInst
import HandS.TupMul
import HandS.Conv
import HandS.More
import HandS.Strs
import HandS.CallSlots
import HandS.ExcField
import PyProof.ReprRoads
import KE.RegKSuper
import PySem.Challenge.RW_coachstages_k10_whole_fractions
set_option Elab.async false
set_option linter.all false
set_option maxRecDepth 100000
set_option maxHeartbeats 4000000
namespace J
open PySem PySem.Spec PyProof.Rows L2 NdefX

/-- what the written part says of a class whose own __init__ says super().__init__ -/
structure SupC (K : PySem.W.Frag) (prog : Program) (C cc cda : Addr) : Prop where
  cell : ∃ cl cld csl, K.lookup cc = some ⟨cl, cld, .cell (some (.ref C)), csl⟩
  code : ∃ ccl cdd vs ccs file tf, K.lookup cda = some ⟨ccl, cdd, .fields vs, ccs⟩ ∧ vs[2]? = some (.str file tf) ∧ ((prog.main.file : Str) == file) = true
  sup : PySem.W.ks_superIn K C C "__init__" = some (some (.builtin "ValueError.__init__"))
  sub : PySem.W.mroIn K C (.ref C) = some true
  subV : PySem.W.subIn K (.ref C) (.type "ValueError") = some true
  nos : PySem.W.nsIn K cStatics "thirdparty.any" = some none
  top : (prog.main.scope.names.lookup ("super" : Str)).isSome = false

theorem clsIn_obj {K : PySem.W.Frag} {D : Addr} {cd : ClassData} {hh : Heap} (X : K.In hh) (hD : PySem.W.clsIn K D = some cd) : ∃ oD, hh.get? D = some oD ∧ oD.data = .cls cd := by
  unfold PySem.W.clsIn at hD
  split at hD
  · rename_i c d cd' sl ho
    cases hD
    exact ⟨_, X _ _ ho, rfl⟩
  · cases hD

/-- the bound ValueError.__init__ called -/
theorem bw_call {X : Cx} {pins : List (Addr × Obj)} {σ : L2.St} {H : Hp} {s : Shared} {a C u : Addr} {us : List Value} {Q : Value → Shared → Prop} {E : Value → Shared → Prop} (T : OexC X.K C) (I : Inv X pins σ H s) (e : H a = some (exo a C none))
    (hu : s.heap.get? u = some (PySem.W.kxs_mw "ValueError.__init__" a)) (hl : us.length ≤ sizeLine) (h : ∀ s', Inv X pins σ H s' → Q .none s') : wpAny (model X.prog X.w) X.A (call (.ref u) us) Q E s := by
  obtain ⟨nm, q, N, bs, bm, sn, sub, ab, col, dd, k0, k1, k2, k3, k5, hC, hbm⟩ := T.cls
  obtain ⟨t1, ho⟩ := exo_at I.hok e
  have hC' := I.kIn _ _ hC
  obtain ⟨hp, g, d, t, os⟩ := s
  refine wpAny_call (codeAny_of_tree ?_)
  show wpAny _ X.A.in1 (callAny (.ref u) ⟨us, []⟩) _ _ _
  simp only [callAny]
  refine wpAny_bind (wpAny_load hu ?_)
  simp only [PySem.W.kxs_mw, show (Value.type "method-wrapper" == Value.type "method" || Value.type "method-wrapper" == Value.type "builtin_function_or_method" || Value.type "method-wrapper" == Value.type "method-wrapper") = true by decide, if_true]
  refine PySem.W.KFB.if_so (by decide) ?_
  refine wpAny_bind (PySem.W.check_bound_init F.excBase_ValueError.toExcCallFacts hC' ho rfl ?_)
  refine wpAny_bind (wpAny_pure (wpAny_pure ?_))
  refine ⟨plainId_quiet F.excBase_ValueError.init.plain _, codeAny_builtin F.excBase_ValueError.initEntry ?_⟩
  refine PySem.W.exc_init_tree (cls := .ref C) (t0 := t1) (dv := none) (c2 := .none) (c3 := .none) (b4 := .bool false) ho hl fun h' k hx _ => ?_
  have J := I.write (t' := t) (x := a) (e := a) (o := exo a C none) (by rw [e]; exact True.intro) (.inl rfl) k ⟨_, hx⟩ (exo_ok hx)
  have eu : upd H a (exo a C none) = H := by
    funext b
    by_cases hb : b = a
    · rw [hb, upd_same, e]
    · rw [upd_ne hb]
  rw [eu] at J
  exact h _ J

abbrev nf (name qual : Str) (params : Arguments) (scope : Scope) (cc cda : Addr) : NF := ⟨name, qual, params, [], scope, [("__class__", cc)], cda⟩
section
variable {CX : CXT} {P : Program} {w : World} {K : PySem.W.Frag} {mg : Str → Option Value} {base : Heap} {k : Nat} {f cc cda C : Addr} {name qual : Str} {params : Arguments} {body rest : List Stmt} {scope : Scope} {dV kV doc pm ct oc : Value} {an od : Option Addr}
    {osl : Array (Option Value)} {N ps : List Str} {sp : Sp} {p0 p1 p2 p3 p4 : Pos} {e : Expr} {es : List Expr} {ar : Arg} {pl : Env → Sem Bool}
/-- a def of an exception's class whose first statement is super().__init__(e, ..) -/
theorem fnok_super (lk : K.lookup f = some ⟨oc, od, .func (PySem.W.ksFn name qual params body scope dV kV doc pm an (.ref cda) ct cc), osl⟩) (hcd : PySem.W.codeIn K (.ref cda) qual = true) (S : NScope N ps ["__class__"] scope)
    (T : SupC K P C cc cda) (TO : OexC K C)
    (hb0 : body = .Expr (.Call (.Attribute (.Call (.Name "super" p0) [] [] p1) "__init__" p2) (e :: es) [] p3) p4 :: rest)
    (har : (params.posonlyargs ++ params.args).head? = some ar) (hN0 : N[0]? = some ar.arg) (hka : scope.names.lookup ar.arg = some .local) (hsup : scope.names.lookup ("super" : Str) = some .globalImplicit) (hms : mg "super" = none)
    (len : ∀ vs H Q E, sp vs H Q E → vs.length = ps.length)
    (hbody : ∀ (A : Around) (outer : List Env) (s : Shared) (H : Hp) (vs : List V) (Q : VK) (E : XK), sp vs H Q E →
      ∃ a ta tr, (startF N vs [none])[0]? = some (some (V.ref a)) ∧ H a = some (exo a C none) ∧
        PA (ncx CX P w K mg base N (nf name qual params scope cc cda) f A outer s H E) (e :: es) ta ∧
        PSs (ncx CX P w K mg base N (nf name qual params scope cc cda) f A outer s H E) rest tr ∧
        ta (startF N vs [none]) H fun ws H1 => ws.length ≤ 1000 ∧ H1 a = some (exo a C none) ∧ tr { nx := fun _ H' => Q .non H', rt := Q } (startF N vs [none]) H1)
    (hev : ∀ env, eval (.Call (.Attribute (.Call (.Name "super" p0) [] [] p1) "__init__" p2) (e :: es) [] p3) env = (do
      let ov ← attributeBase (.Call (.Name "super" p0) [] [] p1) "__init__" env (eval (.Call (.Name "super" p0) [] [] p1) env)
      standAt p2.atName
      let (f, first) ← holding [ov] (getMethod ov "__init__" (pl env))
      callWith p3 f first (backTo p3 (starEach (e :: es) env)) []) := by intro _; rfl)
    (hsw : ∀ env, swapsWith (.Call (.Attribute (.Call (.Name "super" p0) [] [] p1) "__init__" p2) (e :: es) [] p3) none p4.line env = pure false := by intro _; rfl)
    (he : ∀ env, starEach (e :: es) env = (false, eval e env) :: starEach es env := by intro _; rfl) (hpl : ∀ env, (backTo p3 (starEach es env)).any (·.1) = false := by intro _; rfl) :
    FnOk P w K mg base CX (k + 1) f (PySem.W.ksFn name qual params body scope dV kV doc pm an (.ref cda) ct cc) ps sp := by
  subst hb0
  refine ⟨len, fun A outer s H args us vs Q E hr e0 hb r hsp => ?_⟩
  have hl := len _ _ _ _ hsp
  have KX : K.In s.heap := e0.mod.kin.keeps fun b o e => (e0.bs b o e).1
  have lim : s.heap.NoLimit := e0.mod.nolimit.keeps fun b o e => (e0.bs b o e).1
  obtain ⟨cl, cld, csl, hcc⟩ := T.cell
  have CA : CellsAt [(("__class__" : Str), cc)] ["__class__"] [none] s.heap H := by
    refine ⟨rfl, fun y c hy => ?_, fun x y c hx hy => ?_, fun i y hi => ?_⟩
    · have : y = "__class__" ∧ c = cc := by
        simp only [List.lookup] at hy
        split at hy
        · rename_i h; exact ⟨by simpa using h, by injection hy with hy; exact hy.symm⟩
        · cases hy
      obtain ⟨_, rfl⟩ := this
      have q := KX _ _ hcc
      have hb1 : base.get? c = some _ := e0.mod.kin _ _ hcc
      exact ⟨(e0.bs _ _ hb1).2, some (.ref C), _, q, rfl⟩
    · have key : ∀ {z : Str}, List.lookup z [(("__class__" : Str), cc)] = some c → z = "__class__" := fun {z} hz => by
        simp only [List.lookup] at hz
        split at hz
        · rename_i h; simpa using h
        · cases hz
      rw [key hx, key hy]
    · have hi' : y = "__class__" := by
        cases i with
        | zero => simpa using hi.symm
        | succ i => simp at hi
      subst hi'
      exact ⟨cc, rfl, fun v z => by
        cases i with
        | zero => simp at z
        | succ i => simp at hi⟩
  obtain ⟨a, ta, tr, hσ, ha, hta, htr, hq⟩ := hbody A outer s H vs Q E hsp
  refine codeAny_call_function hr.depth (KX _ _ lk) rfl S.co S.gen rfl (PySem.W.codeRec_of KX hcd) (hb _ _ _ _ ?_)
  refine wpAny_newFunctionEnv S.nocell (fun ⟨n, _⟩ hy => S.par n (List.of_mem_zip hy).1) (fun h₁ hns hsb => ⟨lim.fresh _ hsb, ?_⟩) S.kind
  have kp : ∀ b o, s.heap.get? b = some o → h₁.get? b = some o := fun b o e => hsb.extBut b o (Nat.ne_of_lt (Heap.lt_size e)) (Heap.get?_push_of_some _ e)
  have I : Inv (ncx CX P w K mg base N (nf name qual params scope cc cda) f A outer s H E) [] (startF N vs [none]) H { s with heap := h₁, toks := s.toks + (ps.zip us).length } := inv_startN S hr.hd e0 hl r CA hns kp
  refine PySem.ks_codeAny_funcAt ?_
  refine PySem.ks_wpAt_execs_cons ?_
  refine PySem.ks_wpAt_Expr_any ?_ I.quiet (hsw _)
  refine PySem.ks_wpAt_MethodCall ?_ (hev _)
  obtain ⟨ccl, cdd, vsc, ccs, file, tf, hcode, hvs, hfile⟩ := T.code
  obtain ⟨nm, q, NN, bs, bm, sn, sub, ab, col, dd, k0, k1, k2, k3, k5, hC, hbm⟩ := TO.cls
  have hcl : PySem.W.clsIn K C = some { name := nm, bases := bs, mro := .ref C :: bm, ns := NN, qualname := q, hasDict := true, slotNames := sn, subclasses := sub, abstract := ab, collection := col, hasDel := false } := by unfold PySem.W.clsIn; rw [hC] <;> rfl
  have X := I.kIn
  obtain ⟨oD, hD1, hD2⟩ := clsIn_obj X hcl
  refine PySem.ks_wpAt_super_base (env := envF (nf name qual params scope cc cda) f s.heap.objs.size) hsup (S.frk "__class__" (by simp)) (by decide) rfl (X _ _ lk) rfl har rfl (X _ _ hcode) rfl hvs hfile T.top ?_
  obtain ⟨mb, hb1, hb2⟩ := I.mod.blt
  refine PySem.W.ks_loadName_global S.kind hsup (PySem.Calls.loadGlobal_builtin (env := envF (nf name qual params scope cc cda) f s.heap.objs.size) (I.mod.glob.keeps I.bk) hms (hb1.keeps I.bk) ((hb2 _ (by decide)).trans (by decide +kernel)) ⟨rfl, ?_⟩)
  refine wpAny_loadName_free S.kind (S.frk "__class__" (by simp)) rfl ⟨_, X _ _ hcc, rfl⟩ ?_
  obtain ⟨m, hn, hlk⟩ := I.loc
  obtain ⟨u0, ru0, lk0⟩ := hlk 0 ar.arg (.ref a) hN0 hσ (.inl hka)
  obtain rfl : u0 = Value.ref a := ru0
  have hm0 : m ar.arg = some (.ref a) := by
    rcases lk0 with ⟨_, h⟩ | ⟨h, _⟩
    · exact h
    · have hka' : (ncx CX P w K mg base N (nf name qual params scope cc cda) f A outer s H E).env.kindOf ar.arg = some .local := hka
      rw [hka'] at h
      rcases h with h | h <;> cases h
  refine wpAny_loadName_local S.kind hka hn hm0 ?_
  refine PySem.ks_wpAny_isType_cls hD1 hD2 ⟨rfl, ?_⟩
  obtain ⟨t1, ho⟩ := exo_at I.hok ha
  refine PySem.ks_wpAny_call_super hD1 hD2 ho rfl (fun c e => by cases e) (PySem.W.looks_mroIn X T.sub) (fun h2 e2 k2 => ?_)
  have I2 := I.kept (t' := s.toks + (ps.zip us).length) (h' := h2) k2
  have hsup2 := T.sup
  unfold PySem.W.ks_superIn at hsup2
  rw [hcl] at hsup2
  have hI : PySem.W.Looks (model P w) h2 (isInstance (.ref a) (.type "ValueError")) true :=
    (PySem.W.InstAt.type (x := a) (C := C) (od := none) ⟨k2 _ _ ho, rfl, rfl, trivial⟩).andThen (PySem.W.looks_subIn I2.kIn T.subV)
  have hne : a ≠ C := fun z => by
    subst z
    rw [hD1] at ho; cases ho
    cases hD2
  refine PySem.W.kxs_getMethod PySem.W.kxs_ValueError e2 (PySem.W.looks_opaque I2.kIn T.nos) (l₀ := .ref C :: bm) ?_ rfl I2.kIn hsup2 hI hne (by decide) ?_
  · exact fun A Q E s k q => wpAny_bind ((PySem.W.looks_clsIn I2.kIn hcl) A _ E s k (wpAny_pure q))
  have hmw : (h2.push (PySem.W.kxs_mw "ValueError.__init__" a)).get? h2.objs.size = some (PySem.W.kxs_mw "ValueError.__init__" a) := Heap.get?_push_size _ rfl
  have I3 := I2.kept (t' := s.toks + (ps.zip us).length + 1) (h' := h2.push (PySem.W.kxs_mw "ValueError.__init__" a)) fun b o e => Heap.get?_push_of_some _ e
  have hfree : H h2.objs.size = none := I2.hok.fresh (Nat.le_refl _)
  have I4 := I3.pins_of (pins' := [(h2.objs.size, PySem.W.kxs_mw "ValueError.__init__" a)]) (fun p hp => by
    have e : p = (h2.objs.size, PySem.W.kxs_mw "ValueError.__init__" a) := by simpa using hp
    subst e
    exact ⟨hmw, hfree, Nat.ne_of_gt I2.lt, I2.nofs (Nat.le_refl _), fun v z => by cases z⟩)
  have fin : ∀ {σ' : L2.St} {H' : Hp} {v : V} {u : Value} {s' : Shared}, Inv (ncx CX P w K mg base N (nf name qual params scope cc cda) f A outer s H E) [] σ' H' s' → L2.RelV v u → Q v H' → CE outer P w H s Q u s' :=
    fun {σ' H' v u s'} J rv q => ⟨v, H', J.os, J.bare, J.base, J.hok, rv, q⟩
  rw [he]
  refine PySem.W.kxs_callWith (i := "ValueError.__init__") (x := a) (by show (false || (backTo p3 (starEach es _)).any (·.1)) = false; rw [hpl]; rfl) ?_
  refine PySem.Calls.evalArgs_plain ?_
  have hrun := hta.run p3 _ _ _ _ _ I4 hq
  rw [he] at hrun
  refine thn hrun fun us1 s3 ⟨ws, H1, J, rv, hlen, ha1, hqr⟩ => ?_
  have hmw3 := (J.pin _ (List.mem_append_right _ (List.mem_singleton.mpr rfl))).1
  refine ⟨hmw3, ?_⟩
  have J0 := J.pins_of (pins' := []) (fun p hp => by cases hp)
  refine bw_call TO J0 ha1 hmw3 (by rw [List.nil_append, ← rv.length, sizeLine_eq]; omega) fun s4 J4 => ?_
  refine PySem.wpAt_of_wpAny ?_
  refine wpAny_mono (htr.run [] _ _ _ _ J4 hqr) (fun fl s' hs => ?_) fun e s' hs => hs
  cases fl with
  | ret u =>
    obtain ⟨v, σ', H', J, rv, q⟩ := hs
    exact fin J rv q
  | next =>
    obtain ⟨σ', H', J, q⟩ := hs
    exact fin (v := V.non) (u := Value.none) J rfl q
  | brk =>
    obtain ⟨_, _, _, q⟩ := hs
    exact False.elim q
  | cont =>
    obtain ⟨_, _, _, q⟩ := hs
    exact False.elim q
end
end J

set_option Elab.async false
set_option linter.all false
set_option maxRecDepth 100000
set_option maxHeartbeats 4000000
namespace J
open PySem PySem.Spec PyProof.Rows L2

/-! ### values as trees -/
inductive D where
  | non | bl (b : Bool) | int (i : Int) | str (s : Str) | tup (xs : List D) | lst (xs : List D) | dct (ks vs : List D) | obj (c : Nat) (ns : List Nat) (vs : List D) | fn (n : Nat) | scr (xs : List D)

/-- what a proof says of the text: the written part, the classes' places, the exceptions' classes, the fields' names, the defs' places -/
structure Tab where
  K : PySem.W.Frag
  cls : Nat → Addr
  exc : Nat → Addr
  fnm : Nat → Str
  fna : Nat → Addr
  /-- in an except suite: the caught exception, its class, its dict -/
  ea : Option (Addr × Value × Option Addr) := none

def SOk (s : Str) : Prop := s.length ≤ sizeLine ∧ PyData.strOk s = true

def keyD : D → Option Key
  | .int i => some (.inl i)
  | .str s => some (.inr s)
  | _ => none

mutual
def Rep (T : Tab) (G : Hp) : V → D → Prop
  | v, .non => v = .non
  | v, .bl b => v = .bl b
  | v, .int i => v = .int i
  | v, .str s => v = .str s ∧ SOk s
  | v, .tup ds => ∃ a xs, v = .ref a ∧ SqT T.K G a xs ∧ Reps T G xs ds
  | v, .lst ds => ∃ (a : Addr) (xs : List V), v = .ref a ∧ G a = some (.lst xs) ∧ Reps T G xs ds
  | v, .scr ds => ∃ a xs, v = .ref a ∧ SqL T.K G a xs ∧ Reps T G xs ds
  | v, .dct ks vs => ∃ (a : Addr) (kk : List (Key × V)), v = .ref a ∧ G a = some (.dK kk) ∧ kk.map (fun p => some p.1) = ks.map keyD ∧ (kk.map (·.1)).Nodup ∧ Reps T G (kk.map (·.2)) vs
  | v, .obj c ns vs => ∃ (a dx : Addr) (fs : List (Str × V)), v = .ref a ∧ G a = some (.ins (T.cls c) dx fs) ∧ fs.map (·.1) = ns.map T.fnm ∧ Reps T G (fs.map (·.2)) vs
  | v, .fn n => v = .ref (T.fna n)
def Reps (T : Tab) (G : Hp) : List V → List D → Prop
  | xs, [] => xs = []
  | xs, d :: ds => ∃ x r, xs = x :: r ∧ Rep T G x d ∧ Reps T G r ds
end

theorem Same.seqT {K : PySem.W.Frag} {H H' : Hp} {a : Addr} {xs : List V} (e : L2.Same H H') (h : SqT K H a xs) : SqT K H' a xs := by
  rcases h with (h | ⟨o, h⟩) | h
  · exact .inl (.inl (e _ _ h))
  · exact .inl (.inr ⟨o, e _ _ h⟩)
  · exact .inr h

mutual
theorem Rep.mono {T : Tab} {G G' : Hp} (h : L2.Same G G') : ∀ {d : D} {v : V}, Rep T G v d → Rep T G' v d
  | .non, _, r => r
  | .bl _, _, r => r
  | .int _, _, r => r
  | .str _, _, r => r
  | .tup _, _, ⟨a, xs, e, q, r⟩ => ⟨a, xs, e, Same.seqT h q, Reps.mono h r⟩
  | .lst _, _, ⟨a, xs, e, q, r⟩ => ⟨a, xs, e, h _ _ q, Reps.mono h r⟩
  | .scr _, _, ⟨a, xs, e, q, r⟩ => ⟨a, xs, e, h.seq q, Reps.mono h r⟩
  | .dct _ _, _, ⟨a, kk, e, q, k, n, r⟩ => ⟨a, kk, e, h _ _ q, k, n, Reps.mono h r⟩
  | .obj _ _ _, _, ⟨a, dx, fs, e, q, k, r⟩ => ⟨a, dx, fs, e, h _ _ q, k, Reps.mono h r⟩
  | .fn _, _, r => r
theorem Reps.mono {T : Tab} {G G' : Hp} (h : L2.Same G G') : ∀ {ds : List D} {xs : List V}, Reps T G xs ds → Reps T G' xs ds
  | [], _, r => r
  | _ :: _, _, ⟨x, r, e, a, b⟩ => ⟨x, r, e, Rep.mono h a, Reps.mono h b⟩
end
theorem Reps.length {T : Tab} {G : Hp} : ∀ {ds : List D} {xs : List V}, Reps T G xs ds → xs.length = ds.length
  | [], _, r => by cases r; rfl
  | _ :: _, _, ⟨x, r, e, a, b⟩ => by subst e; simp [Reps.length b]
theorem Reps.get {T : Tab} {G : Hp} : ∀ {ds : List D} {xs : List V} {i : Nat} {x : V}, Reps T G xs ds → xs[i]? = some x → ∃ d, ds[i]? = some d ∧ Rep T G x d
  | [], _, _, _, r, h => by cases r; simp at h
  | d :: ds, _, 0, _, ⟨x, r, e, a, b⟩, h => by subst e; simp at h; subst h; exact ⟨d, rfl, a⟩
  | d :: ds, _, i + 1, _, ⟨x, r, e, a, b⟩, h => by
    subst e
    obtain ⟨d', e', a'⟩ := Reps.get (i := i) b (by simpa using h)
    exact ⟨d', by simpa using e', a'⟩
theorem Reps.getD {T : Tab} {G : Hp} : ∀ {ds : List D} {xs : List V} {i : Nat} {d : D}, Reps T G xs ds → ds[i]? = some d → ∃ x, xs[i]? = some x ∧ Rep T G x d
  | [], _, _, _, r, h => by simp at h
  | d :: ds, _, 0, _, ⟨x, r, e, a, b⟩, h => by subst e; simp at h; subst h; exact ⟨x, rfl, a⟩
  | d :: ds, _, i + 1, _, ⟨x, r, e, a, b⟩, h => by
    subst e
    obtain ⟨d', e', a'⟩ := Reps.getD (i := i) b (by simpa using h)
    exact ⟨d', by simpa using e', a'⟩
theorem Reps.app {T : Tab} {G : Hp} : ∀ {ds es : List D} {xs ys : List V}, Reps T G xs ds → Reps T G ys es → Reps T G (xs ++ ys) (ds ++ es)
  | [], _, _, _, r, q => by cases r; exact q
  | d :: ds, _, _, _, ⟨x, r, e, a, b⟩, q => by subst e; exact ⟨x, r ++ _, rfl, a, Reps.app b q⟩
theorem Reps.one {T : Tab} {G : Hp} {x : V} {d : D} (r : Rep T G x d) : Reps T G [x] [d] := ⟨x, [], rfl, r, rfl⟩
theorem Reps.take {T : Tab} {G : Hp} : ∀ {ds : List D} {xs : List V} (n : Nat), Reps T G xs ds → Reps T G (xs.take n) (ds.take n)
  | _, _, 0, _ => by simp [Reps]
  | [], _, _ + 1, r => by cases r; simp [Reps]
  | d :: ds, _, n + 1, ⟨x, r, e, a, b⟩ => by subst e; exact ⟨x, r.take n, rfl, a, Reps.take n b⟩
theorem Reps.drop {T : Tab} {G : Hp} : ∀ {ds : List D} {xs : List V} (n : Nat), Reps T G xs ds → Reps T G (xs.drop n) (ds.drop n)
  | _, _, 0, r => r
  | [], _, _ + 1, r => by cases r; simp [Reps]
  | d :: ds, _, n + 1, ⟨x, r, e, a, b⟩ => by subst e; exact Reps.drop n b
theorem Reps.set {T : Tab} {G : Hp} {y : V} {d' : D} (q : Rep T G y d') : ∀ {ds : List D} {xs : List V} (n : Nat), Reps T G xs ds → Reps T G (xs.set n y) (ds.set n d')
  | [], _, _, r => by cases r; simp [Reps]
  | d :: ds, _, 0, ⟨x, r, e, a, b⟩ => by subst e; exact ⟨y, r, rfl, q, b⟩
  | d :: ds, _, n + 1, ⟨x, r, e, a, b⟩ => by subst e; exact ⟨x, r.set n y, rfl, a, Reps.set q n b⟩
theorem Reps.of_get {T : Tab} {G : Hp} : ∀ {ds : List D} {xs : List V}, xs.length = ds.length → (∀ (i : Nat) (x : V) (d : D), xs[i]? = some x → ds[i]? = some d → Rep T G x d) → Reps T G xs ds
  | [], xs, hl, _ => by cases xs with | nil => rfl | cons => simp at hl
  | d :: ds, [], hl, _ => by simp at hl
  | d :: ds, x :: xs, hl, h => ⟨x, xs, rfl, h 0 x d rfl rfl, Reps.of_get (by simpa using hl) fun i y e h1 h2 => h (i + 1) y e (by simpa using h1) (by simpa using h2)⟩

/-- what an owned object holds -/
def RepO (T : Tab) (G : Hp) : HO → D → Prop
  | o, .lst ds => ∃ xs, o = .lst xs ∧ Reps T G xs ds
  | o, .dct ks vs => ∃ kk : List (Key × V), o = .dK kk ∧ kk.map (fun p => some p.1) = ks.map keyD ∧ (kk.map (·.1)).Nodup ∧ Reps T G (kk.map (·.2)) vs
  | o, .obj c ns vs => ∃ (dx : Addr) (fs : List (Str × V)), o = .ins (T.cls c) dx fs ∧ fs.map (·.1) = ns.map T.fnm ∧ Reps T G (fs.map (·.2)) vs
  | _, _ => False
theorem RepO.mono {T : Tab} {G G' : Hp} (h : L2.Same G G') {o : HO} {d : D} (r : RepO T G o d) : RepO T G' o d := by
  cases d with
  | lst ds => obtain ⟨xs, e, r⟩ := r; exact ⟨xs, e, r.mono h⟩
  | dct ks vs => obtain ⟨kk, e, k, n, r⟩ := r; exact ⟨kk, e, k, n, r.mono h⟩
  | obj c ns vs => obtain ⟨dx, fs, e, k, r⟩ := r; exact ⟨dx, fs, e, k, r.mono h⟩
  | _ => exact r.elim
/-- an owned object, frozen -/
theorem RepO.rep {T : Tab} {G : Hp} {o : HO} {d : D} {a : Addr} (r : RepO T G o d) (hG : G a = some o) : Rep T G (.ref a) d := by
  cases d with
  | lst ds => obtain ⟨xs, rfl, r⟩ := r; exact ⟨a, xs, rfl, hG, r⟩
  | dct ks vs => obtain ⟨kk, rfl, k, n, r⟩ := r; exact ⟨a, kk, rfl, hG, k, n, r⟩
  | obj c ns vs => obtain ⟨dx, fs, rfl, k, r⟩ := r; exact ⟨a, dx, fs, rfl, hG, k, r⟩
  | _ => exact r.elim

/-- how an exception lies -/
def XRep (T : Tab) (G : Hp) (c : Nat) (ns : List Nat) (vs : List D) (cls : Value) (dx : Option Addr) : Prop :=
  cls = .ref (T.exc c) ∧ match dx with
    | none => ns = [] ∧ vs = []
    | some d => ∃ fs : List (Str × V), G d = some (.xd fs) ∧ fs.map (·.1) = ns.map T.fnm ∧ Reps T G (fs.map (·.2)) vs
theorem XRep.mono {T : Tab} {G G' : Hp} {c : Nat} {ns : List Nat} {vs : List D} {cls : Value} {dx : Option Addr} (h : L2.Same G G') (x : XRep T G c ns vs cls dx) : XRep T G' c ns vs cls dx := by
  obtain ⟨e, x⟩ := x
  refine ⟨e, ?_⟩
  cases dx with
  | none => exact x
  | some d =>
    obtain ⟨fs, h1, h2, h3⟩ := x
    exact ⟨fs, h _ _ h1, h2, h3.mono h⟩

/-- slot i holds the caught exception -/
def ExAt (T : Tab) (G : Hp) (σ : L2.St) (i c : Nat) (ns : List Nat) (vs : List D) : Prop := ∃ a cls dx, σ[i]? = some (some (.ref a)) ∧ T.ea = some (a, cls, dx) ∧ XRep T G c ns vs cls dx
theorem ExAt.mono {T : Tab} {G G' : Hp} {σ : L2.St} {i c : Nat} {ns : List Nat} {vs : List D} (x : ExAt T G σ i c ns vs) (h : L2.Same G G') : ExAt T G' σ i c ns vs := by
  obtain ⟨a, cls, dx, e1, e2, x⟩ := x
  exact ⟨a, cls, dx, e1, e2, x.mono h⟩
theorem ExAt.at {T : Tab} {G : Hp} {σ σ' : L2.St} {i c : Nat} {ns : List Nat} {vs : List D} (x : ExAt T G σ i c ns vs) (h : σ'[i]? = σ[i]?) : ExAt T G σ' i c ns vs := by
  obtain ⟨a, cls, dx, e1, e2, x⟩ := x
  exact ⟨a, cls, dx, h.trans e1, e2, x⟩

/-! ### slots -/
inductive Sl where
  | no | sh (d : D) | ow (d : D) | ex (c : Nat) (ns : List Nat) (vs : List D)
abbrev En := List Sl
/-- U: what others own; G: what is never changed any more -/
structure Rel (T : Tab) (U G H : Hp) (σ : L2.St) (ρ : En) : Prop where
  same : L2.Same G H
  len : σ.length = ρ.length
  sh : ∀ (i : Nat) (d : D), ρ[i]? = some (.sh d) → ∃ v, σ[i]? = some (some v) ∧ Rep T G v d
  ow : ∀ (i : Nat) (d : D), ρ[i]? = some (.ow d) → ∃ a o, σ[i]? = some (some (.ref a)) ∧ G a = none ∧ U a = none ∧ H a = some o ∧ RepO T G o d
  dist : ∀ (i j : Nat) (di dj : D) (a : Addr), ρ[i]? = some (.ow di) → ρ[j]? = some (.ow dj) → σ[i]? = some (some (.ref a)) → σ[j]? = some (some (.ref a)) → i = j
  out : ∀ a o, U a = some o → H a = some o ∧ G a = none
  exn : ∀ (i c : Nat) (ns : List Nat) (vs : List D), ρ[i]? = some (.ex c ns vs) → ExAt T G σ i c ns vs

theorem same_upd {G : Hp} {p : Addr} {o : HO} (h : G p = none) : L2.Same G (upd G p o) := fun b q e => by
  rw [upd_ne (ne_of_none e h)]; exact e
theorem same_upd2 {G H : Hp} {p : Addr} {o : HO} (h : L2.Same G H) : L2.Same (upd G p o) (upd H p o) := fun b q e => by
  by_cases hb : b = p
  · subst hb; rw [upd_same] at e ⊢; exact e
  · rw [upd_ne hb] at e ⊢; exact h _ _ e
theorem same_own {G H : Hp} {p : Addr} {o : HO} (h : L2.Same G H) (n : G p = none) : L2.Same G (upd H p o) := fun b q e => by
  rw [upd_ne (ne_of_none e n)]; exact h _ _ e
section
variable {T : Tab} {U G H : Hp} {σ : L2.St} {ρ : En} {p : Addr} {o : HO}
theorem Rel.gfree (R : Rel T U G H σ ρ) (h : H p = none) : G p = none := L2.Same.free R.same h
theorem Rel.ufree (R : Rel T U G H σ ρ) (h : H p = none) : U p = none := by
  cases e : U p with
  | none => rfl
  | some o => rw [(R.out p o e).1] at h; cases h
/-- a new object that is never changed -/
theorem Rel.alloc (R : Rel T U G H σ ρ) (h : H p = none) : Rel T U (upd G p o) (upd H p o) σ ρ := by
  have s := same_upd (o := o) (R.gfree h)
  refine ⟨same_upd2 R.same, R.len, fun i d e => ?_, fun i d e => ?_, R.dist, fun a q e => ?_, fun i c ns vs e => (R.exn i c ns vs e).mono s⟩
  · obtain ⟨v, e1, r⟩ := R.sh i d e
    exact ⟨v, e1, r.mono s⟩
  · obtain ⟨a, q, e1, g, u, hh, r⟩ := R.ow i d e
    have ne := ne_of_none hh h
    exact ⟨a, q, e1, by rw [upd_ne ne]; exact g, u, by rw [upd_ne ne]; exact hh, r.mono s⟩
  · obtain ⟨h1, h2⟩ := R.out a q e
    have ne := ne_of_none h1 h
    exact ⟨by rw [upd_ne ne]; exact h1, by rw [upd_ne ne]; exact h2⟩
/-- a new object that is owned by nobody's slot yet: it is held by U -/
theorem Rel.hold (R : Rel T U G H σ ρ) (h : H p = none) : Rel T (upd U p o) G (upd H p o) σ ρ := by
  refine ⟨same_own R.same (R.gfree h), R.len, R.sh, fun i d e => ?_, R.dist, fun a q e => ?_, R.exn⟩
  · obtain ⟨a, q, e1, g, u, hh, r⟩ := R.ow i d e
    have ne := ne_of_none hh h
    exact ⟨a, q, e1, g, by rw [upd_ne ne]; exact u, by rw [upd_ne ne]; exact hh, r⟩
  · by_cases ha : a = p
    · subst ha; rw [upd_same] at e ⊢; exact ⟨e, R.gfree h⟩
    · rw [upd_ne ha] at e
      obtain ⟨h1, h2⟩ := R.out a q e
      exact ⟨by rw [upd_ne ha]; exact h1, h2⟩
/-- a held object is changed -/
theorem Rel.held {o' : HO} (R : Rel T U G H σ ρ) (h : U p = some o) : Rel T (upd U p o') G (upd H p o') σ ρ := by
  obtain ⟨h1, h2⟩ := R.out p o h
  refine ⟨same_own R.same h2, R.len, R.sh, fun i d e => ?_, R.dist, fun a q e => ?_, R.exn⟩
  · obtain ⟨a, q, e1, g, u, hh, r⟩ := R.ow i d e
    have ne : a ≠ p := fun z => by subst z; rw [h] at u; cases u
    exact ⟨a, q, e1, g, by rw [upd_ne ne]; exact u, by rw [upd_ne ne]; exact hh, r⟩
  · by_cases ha : a = p
    · subst ha; rw [upd_same] at e ⊢; exact ⟨e, h2⟩
    · rw [upd_ne ha] at e
      obtain ⟨h3, h4⟩ := R.out a q e
      exact ⟨by rw [upd_ne ha]; exact h3, h4⟩
def unheld (U : Hp) (p : Addr) : Hp := fun b => if b = p then none else U b
theorem unheld_same {p : Addr} : unheld U p p = none := if_pos rfl
theorem unheld_ne {p b : Addr} (h : b ≠ p) : unheld U p b = U b := if_neg h
/-- .. is let go -/
theorem Rel.unhold (R : Rel T U G H σ ρ) : Rel T (unheld U p) G H σ ρ := by
  refine ⟨R.same, R.len, R.sh, fun i d e => ?_, R.dist, fun a q e => ?_, R.exn⟩
  · obtain ⟨a, q, e1, g, u, hh, r⟩ := R.ow i d e
    refine ⟨a, q, e1, g, ?_, hh, r⟩
    by_cases ha : a = p
    · subst ha; exact unheld_same
    · rw [unheld_ne ha]; exact u
  · by_cases ha : a = p
    · subst ha; rw [unheld_same] at e; cases e
    · rw [unheld_ne ha] at e; exact R.out a q e
/-- .. is frozen -/
theorem Rel.freeze (R : Rel T U G H σ ρ) (hU : U p = none) (hG : G p = none) (hH : H p = some o) (hn : ∀ (i : Nat) (d : D), ρ[i]? = some (.ow d) → σ[i]? ≠ some (some (.ref p))) : Rel T U (upd G p o) H σ ρ := by
  have s := same_upd (o := o) hG
  refine ⟨fun b q e => ?_, R.len, fun i d e => ?_, fun i d e => ?_, R.dist, fun a q e => ?_, fun i c ns vs e => (R.exn i c ns vs e).mono s⟩
  · by_cases hb : b = p
    · subst hb; rw [upd_same] at e; cases e; exact hH
    · rw [upd_ne hb] at e; exact R.same _ _ e
  · obtain ⟨v, e1, r⟩ := R.sh i d e
    exact ⟨v, e1, r.mono s⟩
  · obtain ⟨a, q, e1, g, u, hh, r⟩ := R.ow i d e
    have ne : a ≠ p := fun z => by subst z; exact hn i d e e1
    exact ⟨a, q, e1, by rw [upd_ne ne]; exact g, u, hh, r.mono s⟩
  · obtain ⟨h1, h2⟩ := R.out a q e
    have ne : a ≠ p := fun z => by subst z; rw [hU] at e; cases e
    exact ⟨h1, by rw [upd_ne ne]; exact h2⟩
theorem Rel.lt (R : Rel T U G H σ ρ) {i : Nat} {v : Option V} (h : σ[i]? = some v) : i < ρ.length := by
  rw [← R.len]; exact (List.getElem?_eq_some_iff.mp h).1
theorem get_set {α : Type} {l : List α} {i j : Nat} {x y : α} (h : (l.set i x)[j]? = some y) : (j = i ∧ x = y) ∨ (j ≠ i ∧ l[j]? = some y) := by
  by_cases hj : j = i
  · subst hj
    by_cases hl : j < l.length
    · rw [List.getElem?_set_self hl] at h; exact .inl ⟨rfl, Option.some.inj h⟩
    · rw [List.getElem?_eq_none (by simpa using hl)] at h; cases h
  · rw [List.getElem?_set_ne (Ne.symm hj)] at h; exact .inr ⟨hj, h⟩
theorem set_get_ne {α : Type} {l : List α} {i j : Nat} {x : α} (h : j ≠ i) : (l.set i x)[j]? = l[j]? := List.getElem?_set_ne (Ne.symm h)
theorem set_get_same {α : Type} {l : List α} {i : Nat} {x : α} (h : i < l.length) : (l.set i x)[i]? = some x := List.getElem?_set_self h
/-- a slot takes a value that is never changed -/
theorem Rel.setSh {i : Nat} {v : V} {d : D} (R : Rel T U G H σ ρ) (r : Rep T G v d) : Rel T U G H (σ.set i (some v)) (ρ.set i (.sh d)) := by
  refine ⟨R.same, by simp [R.len], fun j e h => ?_, fun j e h => ?_, fun j k dj dk a h1 h2 h3 h4 => ?_, R.out, fun j c ns vs h => by
    rcases get_set h with ⟨_, e1⟩ | ⟨hj, h⟩
    · cases e1
    · exact (R.exn j c ns vs h).at (set_get_ne hj)⟩
  · rcases get_set h with ⟨rfl, e1⟩ | ⟨hj, h⟩
    · cases e1
      have hl : j < ρ.length := by
        have := (List.getElem?_eq_some_iff.mp h).1
        simpa using this
      exact ⟨v, set_get_same (by rw [R.len]; exact hl), r⟩
    · obtain ⟨u, e1, q⟩ := R.sh j e h
      exact ⟨u, by rw [set_get_ne hj]; exact e1, q⟩
  · rcases get_set h with ⟨_, e1⟩ | ⟨hj, h⟩
    · cases e1
    · obtain ⟨a, q, e1, r⟩ := R.ow j e h
      exact ⟨a, q, by rw [set_get_ne hj]; exact e1, r⟩
  · rcases get_set h1 with ⟨_, e1⟩ | ⟨hj, h1⟩
    · cases e1
    · rcases get_set h2 with ⟨_, e1⟩ | ⟨hk, h2⟩
      · cases e1
      · rw [set_get_ne hj] at h3
        rw [set_get_ne hk] at h4
        exact R.dist j k dj dk a h1 h2 h3 h4
/-- a slot takes an owned object, held by nobody -/
theorem Rel.setOw {i : Nat} {d : D} (R : Rel T U G H σ ρ) (hU : U p = none) (hG : G p = none) (hH : H p = some o) (r : RepO T G o d) (hn : ∀ (i : Nat) (d : D), ρ[i]? = some (.ow d) → σ[i]? ≠ some (some (.ref p))) :
    Rel T U G H (σ.set i (some (.ref p))) (ρ.set i (.ow d)) := by
  refine ⟨R.same, by simp [R.len], fun j e h => ?_, fun j e h => ?_, fun j k dj dk a h1 h2 h3 h4 => ?_, R.out, fun j c ns vs h => by
    rcases get_set h with ⟨_, e1⟩ | ⟨hj, h⟩
    · cases e1
    · exact (R.exn j c ns vs h).at (set_get_ne hj)⟩
  · rcases get_set h with ⟨_, e1⟩ | ⟨hj, h⟩
    · cases e1
    · obtain ⟨u, e1, q⟩ := R.sh j e h
      exact ⟨u, by rw [set_get_ne hj]; exact e1, q⟩
  · rcases get_set h with ⟨rfl, e1⟩ | ⟨hj, h⟩
    · cases e1
      have hl : j < ρ.length := by
        have := (List.getElem?_eq_some_iff.mp h).1
        simpa using this
      exact ⟨p, o, set_get_same (by rw [R.len]; exact hl), hG, hU, hH, r⟩
    · obtain ⟨a, q, e1, r⟩ := R.ow j e h
      exact ⟨a, q, by rw [set_get_ne hj]; exact e1, r⟩
  · rcases get_set h1 with ⟨ej, _⟩ | ⟨hj, h1'⟩
    · rcases get_set h2 with ⟨ek, _⟩ | ⟨hk, h2'⟩
      · rw [ej, ek]
      · rw [set_get_ne hk] at h4
        rcases get_set h3 with ⟨_, e3⟩ | ⟨hj, _⟩
        · cases e3
          exact absurd h4 (hn k dk h2')
        · exact absurd ej hj
    · rcases get_set h2 with ⟨ek, _⟩ | ⟨hk, h2'⟩
      · rw [set_get_ne hj] at h3
        rcases get_set h4 with ⟨_, e4⟩ | ⟨hk, _⟩
        · cases e4
          exact absurd h3 (hn j dj h1')
        · exact absurd ek hk
      · rw [set_get_ne hj] at h3
        rw [set_get_ne hk] at h4
        exact R.dist j k dj dk a h1' h2' h3 h4
/-- a slot is forgotten; its object, if it was owned, is anybody's -/
theorem Rel.setNo {i : Nat} (R : Rel T U G H σ ρ) : Rel T U G H σ (ρ.set i .no) := by
  refine ⟨R.same, by simp [R.len], fun j e h => ?_, fun j e h => ?_, fun j k dj dk a h1 h2 h3 h4 => ?_, R.out, fun j c ns vs h => by
    rcases get_set h with ⟨_, e1⟩ | ⟨hj, h⟩
    · cases e1
    · exact R.exn j c ns vs h⟩
  · rcases get_set h with ⟨_, e1⟩ | ⟨hj, h⟩
    · cases e1
    · exact R.sh j e h
  · rcases get_set h with ⟨_, e1⟩ | ⟨hj, h⟩
    · cases e1
    · exact R.ow j e h
  · rcases get_set h1 with ⟨_, e1⟩ | ⟨hj, h1⟩
    · cases e1
    · rcases get_set h2 with ⟨_, e1⟩ | ⟨hk, h2⟩
      · cases e1
      · exact R.dist j k dj dk a h1 h2 h3 h4
/-- an owned slot's object is changed -/
theorem Rel.put {i : Nat} {d d' : D} {o' : HO} (R : Rel T U G H σ ρ) (hρ : ρ[i]? = some (.ow d)) (hσ : σ[i]? = some (some (.ref p))) (r : RepO T G o' d') :
    Rel T U G (upd H p o') σ (ρ.set i (.ow d')) := by
  obtain ⟨a, q, e1, g, u, hh, _⟩ := R.ow i d hρ
  rw [hσ] at e1
  have e1 := Option.some.inj (Option.some.inj e1)
  cases e1
  refine ⟨same_own R.same g, by simp [R.len], fun j e h => ?_, fun j e h => ?_, fun j k dj dk a h1 h2 h3 h4 => ?_, fun a q e => ?_, fun j c ns vs h => by
    rcases get_set h with ⟨_, e1⟩ | ⟨hj, h⟩
    · cases e1
    · exact R.exn j c ns vs h⟩
  · rcases get_set h with ⟨_, e1⟩ | ⟨hj, h⟩
    · cases e1
    · exact R.sh j e h
  · rcases get_set h with ⟨rfl, e1⟩ | ⟨hj, h⟩
    · cases e1
      exact ⟨p, o', hσ, g, u, upd_same, r⟩
    · obtain ⟨a, q, e2, g1, u1, h1, r1⟩ := R.ow j e h
      have ne : a ≠ p := fun z => by subst z; exact hj (R.dist j i e d a h hρ e2 hσ)
      exact ⟨a, q, e2, g1, u1, by rw [upd_ne ne]; exact h1, r1⟩
  · have key : ∀ {k : Nat} {dk : D}, (ρ.set i (Sl.ow d'))[k]? = some (Sl.ow dk) → ∃ dk', ρ[k]? = some (Sl.ow dk') := fun {k dk} h => by
      rcases get_set h with ⟨e, _⟩ | ⟨_, h⟩
      · exact ⟨d, by rw [e]; exact hρ⟩
      · exact ⟨dk, h⟩
    obtain ⟨d1, k1⟩ := key h1
    obtain ⟨d2, k2⟩ := key h2
    exact R.dist j k d1 d2 a k1 k2 h3 h4
  · obtain ⟨h1, h2⟩ := R.out a q e
    have ne : a ≠ p := fun z => by subst z; rw [u] at e; cases e
    exact ⟨by rw [upd_ne ne]; exact h1, h2⟩
/-- an owned slot is frozen -/
theorem Rel.share {i : Nat} {d : D} (R : Rel T U G H σ ρ) (hρ : ρ[i]? = some (.ow d)) : ∃ a o, σ[i]? = some (some (.ref a)) ∧ G a = none ∧ H a = some o ∧ RepO T G o d ∧ Rel T U (upd G a o) H σ (ρ.set i (.sh d)) := by
  obtain ⟨a, o, e1, g, u, hh, r⟩ := R.ow i d hρ
  refine ⟨a, o, e1, g, hh, r, ?_⟩
  have R1 := (R.setNo (i := i)).freeze u g hh (fun j e h z => by
    rcases get_set h with ⟨_, e1⟩ | ⟨hj, h⟩
    · cases e1
    · exact hj (R.dist j i e d a h hρ z e1))
  have q := R1.setSh (i := i) ((r.mono (same_upd g)).rep upd_same)
  have es : σ.set i (some (.ref a)) = σ := by
    apply List.ext_getElem?
    intro j
    by_cases hj : j = i
    · subst hj
      rw [set_get_same (by exact (List.getElem?_eq_some_iff.mp e1).1), e1]
    · rw [set_get_ne hj]
  have er : (ρ.set i .no).set i (.sh d) = ρ.set i (.sh d) := by rw [List.set_set]
  rw [es, er] at q
  exact q
end

/-! ### results -/
inductive Rs (α : Type) where
  | ok (a : α) (ρ : En)
  | ex (c : Nat) (ns : List Nat) (vs : List D) (ρ : En)
  | bad
def Rs.bnd {α β : Type} (r : Rs α) (k : α → En → Rs β) : Rs β :=
  match r with
  | .ok a ρ => k a ρ
  | .ex c ns vs ρ => .ex c ns vs ρ
  | .bad => .bad
@[simp] theorem Rs.bnd_ok {α β : Type} (a : α) (ρ : En) (k : α → En → Rs β) : (Rs.ok a ρ).bnd k = k a ρ := rfl
@[simp] theorem Rs.bnd_ex {α β : Type} (c : Nat) (ns : List Nat) (vs : List D) (ρ : En) (k : α → En → Rs β) : (Rs.ex c ns vs ρ : Rs α).bnd k = .ex c ns vs ρ := rfl
@[simp] theorem Rs.bnd_bad {α β : Type} (k : α → En → Rs β) : (Rs.bad : Rs α).bnd k = .bad := rfl

/-- what must hold behind an evaluation that gives an α -/
def Pst {α : Type} (T : Tab) (U : Hp) (σ : L2.St) (G : Hp) (r : Rs α) (Q : α → Hp → Hp → En → Prop) (W : WX) : Prop :=
  match r with
  | .ok a ρ' => ∀ G' H', Rel T U G' H' σ ρ' → L2.Same G G' → Q a G' H' ρ'
  | .ex c ns vs ρ' => ∀ cls dx G' H', Rel T U G' H' σ ρ' → L2.Same G G' → XRep T G' c ns vs cls dx → W cls dx σ H'
  | .bad => False
theorem Pst.mono {α : Type} {T : Tab} {U : Hp} {σ : L2.St} {G G1 : Hp} {r : Rs α} {Q Q' : α → Hp → Hp → En → Prop} {W : WX} (h : Pst T U σ G r Q W) (s : L2.Same G G1) (hq : ∀ a G' H' ρ', L2.Same G1 G' → Q a G' H' ρ' → Q' a G' H' ρ') : Pst T U σ G1 r Q' W := by
  cases r with
  | ok a ρ' => exact fun G' H' R s' => hq _ _ _ _ s' (h G' H' R (s.trans s'))
  | ex c ns vs ρ' => exact fun cls dx G' H' R s' x => h cls dx G' H' R (s.trans s') x
  | bad => exact h
theorem Pst.bnd {α β : Type} {T : Tab} {U : Hp} {σ : L2.St} {G : Hp} {r : Rs α} {k : α → En → Rs β} {Q : β → Hp → Hp → En → Prop} {W : WX} (h : Pst T U σ G (r.bnd k) Q W) :
    Pst T U σ G r (fun a G' H' ρ' => Rel T U G' H' σ ρ' ∧ L2.Same G G' ∧ Pst T U σ G' (k a ρ') Q W) W := by
  cases r with
  | ok a ρ' => exact fun G' H' R s => ⟨R, s, Pst.mono (r := k a ρ') h s fun _ _ _ _ _ z => z⟩
  | ex c ns vs ρ' => exact h
  | bad => exact h

abbrev EF := En → Rs D
abbrev TF := En → Rs Bool
abbrev LF := En → Rs (List D)
/-- an expression that gives a value never changed again -/
def tE (T : Tab) (W : WX) (f : EF) : TE := fun σ H Q => ∃ U G ρ, Rel T U G H σ ρ ∧ Pst T U σ G (f ρ) (fun d G' H' _ => ∀ v, Rep T G' v d → Q v H') W
/-- a test -/
def tT (T : Tab) (W : WX) (f : TF) : TT := fun σ H Q => ∃ U G ρ, Rel T U G H σ ρ ∧ Pst T U σ G (f ρ) (fun b _ H' _ => Q b H') W
/-- an expression that gives a new object, owned by nobody -/
def tO (T : Tab) (W : WX) (f : EF) : TE := fun σ H Q => ∃ U G ρ, Rel T U G H σ ρ ∧
  Pst T U σ G (f ρ) (fun d G' H' ρ' => ∀ p o, G' p = none → U p = none → H' p = some o → RepO T G' o d → (∀ (i : Nat) (d : D), ρ'[i]? = some (.ow d) → σ[i]? ≠ some (some (.ref p))) → Q (.ref p) H') W
/-- arguments: values, or owned slots that are lent -/
inductive Ar where
  | v (d : D) | s (i : Nat)
def ArOk (T : Tab) (G : Hp) (σ : L2.St) : V → Ar → Prop
  | v, .v d => Rep T G v d
  | v, .s i => σ[i]? = some (some v)
theorem ArOk.mono {T : Tab} {G G' : Hp} {σ : L2.St} (s : L2.Same G G') {v : V} {a : Ar} (h : ArOk T G σ v a) : ArOk T G' σ v a := by
  cases a with
  | v d => exact Rep.mono s h
  | s i => exact h
/-- an operand that is only looked at -/
def tR (T : Tab) (W : WX) (f : En → Rs Ar) : TE := fun σ H Q => ∃ U G ρ, Rel T U G H σ ρ ∧ Pst T U σ G (f ρ) (fun a G' H' _ => ∀ v, ArOk T G' σ v a → Q v H') W
abbrev AF := En → Rs (List Ar)
def ArsOk (T : Tab) (G : Hp) (σ : L2.St) : List V → List Ar → Prop
  | [], [] => True
  | v :: vs, a :: as => ArOk T G σ v a ∧ ArsOk T G σ vs as
  | _, _ => False
def tA (T : Tab) (W : WX) (f : AF) : TA := fun σ H Q => ∃ U G ρ, Rel T U G H σ ρ ∧ Pst T U σ G (f ρ) (fun as G' H' _ => ∀ vs, ArsOk T G' σ vs as → Q vs H') W

/-! ### the judgements -/
def Keeps (ws : List Nat) (σ σ' : L2.St) : Prop := σ'.length = σ.length ∧ ∀ (j : Nat), j ∉ ws → σ'[j]? = σ[j]?
inductive Fl where
  | nx | rt (d : D)
abbrev SF := En → Rs Fl
def PstS (T : Tab) (W : WX) (ws : List Nat) (D : Ends) (U : Hp) (σ : L2.St) (G : Hp) (r : Rs Fl) : Prop :=
  match r with
  | .ok .nx ρ' => ∀ σ' G' H', Rel T U G' H' σ' ρ' → L2.Same G G' → Keeps ws σ σ' → D.nx σ' H'
  | .ok (.rt d) ρ' => ∀ v σ' G' H', Rel T U G' H' σ' ρ' → L2.Same G G' → Keeps ws σ σ' → Rep T G' v d → D.rt v H'
  | .ex c ns vs ρ' => ∀ cls dx σ' G' H', Rel T U G' H' σ' ρ' → L2.Same G G' → Keeps ws σ σ' → XRep T G' c ns vs cls dx → W cls dx σ' H'
  | .bad => False
/-- a statement that stores into the slots ws -/
def tS (T : Tab) (W : WX) (ws : List Nat) (f : SF) : TS := fun D σ H => ∃ U G ρ, Rel T U G H σ ρ ∧ PstS T W ws D U σ G (f ρ)

structure JE (X : Cx) (T : Tab) (W : WX) (e : Expr) (f : EF) : Prop where
  k : X.K = T.K
  run : PE X e (tE T W f)
structure JO (X : Cx) (T : Tab) (W : WX) (e : Expr) (f : EF) : Prop where
  k : X.K = T.K
  run : PE X e (tO T W f)
structure JR (X : Cx) (T : Tab) (W : WX) (e : Expr) (f : En → Rs Ar) : Prop where
  k : X.K = T.K
  run : PE X e (tR T W f)
structure JT (X : Cx) (T : Tab) (W : WX) (e : Expr) (f : TF) : Prop where
  k : X.K = T.K
  run : PT X e (tT T W f)
structure JA (X : Cx) (T : Tab) (W : WX) (es : List Expr) (f : AF) : Prop where
  k : X.K = T.K
  len : ∀ ρ as ρ', f ρ = .ok as ρ' → as.length = es.length
  run : PA X es (tA T W f)
structure JS (X : Cx) (T : Tab) (W : WX) (ws : List Nat) (st : Stmt) (f : SF) : Prop where
  k : X.K = T.K
  run : PS X st (tS T W ws f)
structure JSs (X : Cx) (T : Tab) (W : WX) (ws : List Nat) (sts : List Stmt) (f : SF) : Prop where
  k : X.K = T.K
  run : PSs X sts (tS T W ws f)

theorem pe_imp {X : Cx} {e : Expr} {t t' : TE} (h : PE X e t) (hi : ∀ σ H Q, t' σ H Q → t σ H Q) : PE X e t' := ⟨fun pins s σ H Q I q => h.run pins s σ H Q I (hi _ _ _ q)⟩
theorem pt_imp {X : Cx} {e : Expr} {t t' : TT} (h : PT X e t) (hi : ∀ σ H Q, t' σ H Q → t σ H Q) : PT X e t' := ⟨fun pins s σ H Q I q => h.run pins s σ H Q I (hi _ _ _ q)⟩
theorem pa_imp {X : Cx} {e : List Expr} {t t' : TA} (h : PA X e t) (hi : ∀ σ H Q, t' σ H Q → t σ H Q) : PA X e t' := ⟨fun pos pins s σ H Q I q => h.run pos pins s σ H Q I (hi _ _ _ q)⟩
theorem ps_imp {X : Cx} {e : Stmt} {t t' : TS} (h : PS X e t) (hi : ∀ D σ H, t' D σ H → t D σ H) : PS X e t' := ⟨fun pins s σ H D I q => h.run pins s σ H D I (hi _ _ _ q)⟩
theorem pss_imp {X : Cx} {e : List Stmt} {t t' : TS} (h : PSs X e t) (hi : ∀ D σ H, t' D σ H → t D σ H) : PSs X e t' := ⟨fun pins s σ H D I q => h.run pins s σ H D I (hi _ _ _ q)⟩
end J

set_option Elab.async false
set_option linter.all false
set_option maxRecDepth 100000
set_option maxHeartbeats 4000000
namespace J
open PySem PySem.Spec PyProof.Rows L2

/-! ### operands -/
def look (ρ : En) : Ar → Option D
  | .v d => some d
  | .s i => match ρ[i]? with
    | some (.sh d) => some d
    | some (.ow d) => some d
    | _ => none
@[simp] theorem look_v (ρ : En) (d : D) : look ρ (.v d) = some d := rfl
def RepH (T : Tab) (G H : Hp) (v : V) (d : D) : Prop := Rep T G v d ∨ ∃ p o, v = .ref p ∧ H p = some o ∧ RepO T G o d
section
variable {T : Tab} {U G H : Hp} {σ : L2.St} {ρ : En}
theorem look_ok (R : Rel T U G H σ ρ) {v : V} {a : Ar} {d : D} (h : ArOk T G σ v a) (e : look ρ a = some d) : RepH T G H v d := by
  cases a with
  | v d' => cases e; exact .inl h
  | s i =>
    have e : (match ρ[i]? with | some (.sh d) => some d | some (.ow d) => some d | _ => none) = some d := e
    cases q : ρ[i]? with
    | none => rw [q] at e; cases e
    | some sl =>
      rw [q] at e
      cases sl with
      | no => cases e
      | ex _ _ _ => cases e
      | sh d' =>
        cases e
        obtain ⟨u, e1, r⟩ := R.sh i _ q
        rw [show σ[i]? = some (some v) from h] at e1
        cases e1
        exact .inl r
      | ow d' =>
        cases e
        obtain ⟨p, o, e1, g, u, hh, r⟩ := R.ow i _ q
        rw [show σ[i]? = some (some v) from h] at e1
        cases e1
        exact .inr ⟨p, o, rfl, hh, r⟩
theorem RepH.int {v : V} {i : Int} (h : RepH T G H v (.int i)) : v = .int i := by
  rcases h with h | ⟨_, _, _, _, h⟩
  · exact h
  · exact h.elim
theorem RepH.bl {v : V} {i : Bool} (h : RepH T G H v (.bl i)) : v = .bl i := by
  rcases h with h | ⟨_, _, _, _, h⟩
  · exact h
  · exact h.elim
theorem RepH.str {v : V} {i : Str} (h : RepH T G H v (.str i)) : v = .str i ∧ SOk i := by
  rcases h with h | ⟨_, _, _, _, h⟩
  · exact h
  · exact h.elim
theorem RepH.non {v : V} (h : RepH T G H v .non) : v = .non := by
  rcases h with h | ⟨_, _, _, _, h⟩
  · exact h
  · exact h.elim
theorem RepH.tup {v : V} {ds : List D} (s : L2.Same G H) (h : RepH T G H v (.tup ds)) : ∃ a xs, v = .ref a ∧ SqT T.K H a xs ∧ SqT T.K G a xs ∧ Reps T G xs ds := by
  rcases h with ⟨a, xs, e, q, r⟩ | ⟨_, _, _, _, h⟩
  · exact ⟨a, xs, e, Same.seqT s q, q, r⟩
  · exact h.elim
theorem RepH.lst {v : V} {ds : List D} (s : L2.Same G H) (h : RepH T G H v (.lst ds)) : ∃ (a : Addr) (xs : List V), v = .ref a ∧ H a = some (.lst xs) ∧ Reps T G xs ds := by
  rcases h with ⟨a, xs, e, q, r⟩ | ⟨p, o, e, hh, xs, rfl, r⟩
  · exact ⟨a, xs, e, s _ _ q, r⟩
  · exact ⟨p, xs, e, hh, r⟩
theorem RepH.scr {v : V} {ds : List D} (s : L2.Same G H) (h : RepH T G H v (.scr ds)) : ∃ (a : Addr) (xs : List V), v = .ref a ∧ SqL T.K H a xs ∧ Reps T G xs ds := by
  rcases h with ⟨a, xs, e, q, r⟩ | ⟨_, _, _, _, h⟩
  · exact ⟨a, xs, e, s.seq q, r⟩
  · exact h.elim
theorem RepH.dct {v : V} {ks vs : List D} (s : L2.Same G H) (h : RepH T G H v (.dct ks vs)) : ∃ (a : Addr) (kk : List (Key × V)), v = .ref a ∧ H a = some (.dK kk) ∧ kk.map (fun p => some p.1) = ks.map keyD ∧ (kk.map (·.1)).Nodup ∧ Reps T G (kk.map (·.2)) vs := by
  rcases h with ⟨a, kk, e, q, r⟩ | ⟨p, o, e, hh, kk, rfl, r⟩
  · exact ⟨a, kk, e, s _ _ q, r⟩
  · exact ⟨p, kk, e, hh, r⟩
theorem RepH.obj {v : V} {c : Nat} {ns : List Nat} {vs : List D} (s : L2.Same G H) (h : RepH T G H v (.obj c ns vs)) : ∃ (a dx : Addr) (fs : List (Str × V)), v = .ref a ∧ H a = some (.ins (T.cls c) dx fs) ∧ fs.map (·.1) = ns.map T.fnm ∧ Reps T G (fs.map (·.2)) vs := by
  rcases h with ⟨a, dx, fs, e, q, r⟩ | ⟨p, o, e, hh, dx, fs, rfl, r⟩
  · exact ⟨a, dx, fs, e, s _ _ q, r⟩
  · exact ⟨p, dx, fs, e, hh, r⟩
end

def opt {α : Type} (o : Option α) (ρ : En) : Rs α := match o with
  | some a => .ok a ρ
  | none => .bad
@[simp] theorem opt_some {α : Type} (a : α) (ρ : En) : opt (some a) ρ = .ok a ρ := rfl
@[simp] theorem opt_none {α : Type} (ρ : En) : opt (none : Option α) ρ = .bad := rfl
theorem Pst.opt {α : Type} {T : Tab} {U : Hp} {σ : L2.St} {G : Hp} {o : Option α} {ρ : En} {Q : α → Hp → Hp → En → Prop} {W : WX} (h : Pst T U σ G (opt o ρ) Q W) : ∃ a, o = some a ∧ ∀ G' H', Rel T U G' H' σ ρ → L2.Same G G' → Q a G' H' ρ := by
  cases o with
  | none => exact h.elim
  | some a => exact ⟨a, rfl, h⟩

/-! ### names and constants -/
section
variable {X : Cx} {T : Tab} {W : WX}
def eVar (i : Nat) : EF := fun ρ => match ρ[i]? with
  | some (.sh d) => .ok d ρ
  | some (.ow d) => (match d with
    | .lst _ => .ok d (ρ.set i (.sh d))
    | .dct _ _ => .ok d (ρ.set i (.sh d))
    | _ => .bad)
  | _ => .bad
theorem j_var (k : X.K = T.K) (i : Nat) {x : Str} {pos : Pos} (hN : X.N[i]? = some x := by rfl) (hv : Vis X.env.scope x := by first | exact Or.inl rfl | exact Or.inr (Or.inl rfl) | exact Or.inr (Or.inr rfl)) (hd : (x == ("__debug__" : Str)) = false := by decide)
    (hcd : (x == ("__classdict__" : Str)) = false := by decide) : JE X T W (.Name x pos) (eVar i) := by
  refine ⟨k, pe_imp (pe_var hN hv hd hcd) fun σ H Q h => ?_⟩
  obtain ⟨U, G, ρ, R, h⟩ := h
  unfold eVar at h
  cases q : ρ[i]? with
  | none => rw [q] at h; exact h.elim
  | some sl =>
    rw [q] at h
    cases sl with
    | no => exact h.elim
    | ex _ _ _ => exact h.elim
    | sh d =>
      obtain ⟨v, e, r⟩ := R.sh i d q
      exact ⟨v, e, h G H R (L2.Same.refl _) v r⟩
    | ow d =>
      have fin : Pst T U σ G (.ok d (ρ.set i (.sh d))) (fun d G' H' _ => ∀ v, Rep T G' v d → Q v H') W → tVar i σ H Q := fun h => by
        obtain ⟨a, o, e, g, hh, r, R'⟩ := R.share q
        exact ⟨.ref a, e, h _ H R' (same_upd g) _ ((r.mono (same_upd g)).rep upd_same)⟩
      cases d with
      | lst ds => exact fin h
      | dct ks vs => exact fin h
      | _ => exact h.elim
def rVar (i : Nat) : En → Rs Ar := fun ρ => match ρ[i]? with
  | some (.sh _) => .ok (.s i) ρ
  | some (.ow _) => .ok (.s i) ρ
  | _ => .bad
theorem j_rvar (k : X.K = T.K) (i : Nat) {x : Str} {pos : Pos} (hN : X.N[i]? = some x := by rfl) (hv : Vis X.env.scope x := by first | exact Or.inl rfl | exact Or.inr (Or.inl rfl) | exact Or.inr (Or.inr rfl)) (hd : (x == ("__debug__" : Str)) = false := by decide)
    (hcd : (x == ("__classdict__" : Str)) = false := by decide) : JR X T W (.Name x pos) (rVar i) := by
  refine ⟨k, pe_imp (pe_var hN hv hd hcd) fun σ H Q h => ?_⟩
  obtain ⟨U, G, ρ, R, h⟩ := h
  unfold rVar at h
  cases q : ρ[i]? with
  | none => rw [q] at h; exact h.elim
  | some sl =>
    rw [q] at h
    cases sl with
    | no => exact h.elim
    | ex _ _ _ => exact h.elim
    | sh d =>
      obtain ⟨v, e, r⟩ := R.sh i d q
      exact ⟨v, e, h G H R (L2.Same.refl _) v e⟩
    | ow d =>
      obtain ⟨a, o, e, _⟩ := R.ow i d q
      exact ⟨_, e, h G H R (L2.Same.refl _) _ e⟩
def rVal (f : EF) : En → Rs Ar := fun ρ => (f ρ).bnd fun d ρ' => .ok (.v d) ρ'
theorem j_rval {e : Expr} {f : EF} (h : JE X T W e f) : JR X T W e (rVal f) := by
  refine ⟨h.k, pe_imp h.run fun σ H Q q => ?_⟩
  obtain ⟨U, G, ρ, R, q⟩ := q
  refine ⟨U, G, ρ, R, (Pst.bnd q).mono (L2.Same.refl _) fun d G' H' ρ' _ ⟨R', s, p⟩ v r => ?_⟩
  exact p G' H' R' (L2.Same.refl _) v r
def eC (d : D) : EF := fun ρ => .ok d ρ
theorem j_C {e : Expr} {v : V} {d : D} (k : X.K = T.K) (h : PE X e (tC v)) (r : ∀ G, Rep T G v d) : JE X T W e (eC d) := by
  refine ⟨k, pe_imp h fun σ H Q q => ?_⟩
  obtain ⟨U, G, ρ, R, q⟩ := q
  exact q G H R (L2.Same.refl _) v (r G)
theorem j_int (k : X.K = T.K) {i j pos} : JE X T W (.Constant (.int i) j pos) (eC (.int i)) := j_C k pe_int fun _ => rfl
theorem j_bl (k : X.K = T.K) {i j pos} : JE X T W (.Constant (.bool i) j pos) (eC (.bl i)) := j_C k pe_bl fun _ => rfl
theorem j_non (k : X.K = T.K) {j pos} : JE X T W (.Constant .none j pos) (eC .non) := j_C k pe_non fun _ => rfl
theorem j_str (k : X.K = T.K) {x j pos} (h : SOk x := by exact ⟨by decide +kernel, by decide +kernel⟩) : JE X T W (.Constant (.str x) j pos) (eC (.str x)) := j_C k pe_str fun _ => ⟨rfl, h⟩

/-! ### two operands, a value -/
def r2 (g : D → D → Option D) (a b : Ar) (ρ : En) : Rs D := match look ρ a, look ρ b with
  | some d, some e => opt (g d e) ρ
  | _, _ => .bad
def f2 (g : D → D → Option D) (fa fb : En → Rs Ar) : EF := fun ρ => (fa ρ).bnd fun a ρ1 => (fb ρ1).bnd fun b ρ2 => r2 g a b ρ2
def Op2 (T : Tab) (r : R2) (g : D → D → Option D) : Prop := ∀ U G H σ ρ x y d e c (Q : VK), Rel T U G H σ ρ → RepH T G H x d → RepH T G H y e → g d e = some c →
  (∀ v G' H', Rel T U G' H' σ ρ → L2.Same G G' → Rep T G' v c → Q v H') → r x y H Q
theorem op2_run {a b : Expr} {r : R2} {g : D → D → Option D} {fa fb : En → Rs Ar} (hg : Op2 T r g) {ta tb : TE} (ea : ta = tR T W fa) (eb : tb = tR T W fb) : ∀ σ H Q, tE T W (f2 g fa fb) σ H Q → tOp r ta tb σ H Q := by
  subst ea eb
  intro σ H Q q
  obtain ⟨U, G, ρ, R, q⟩ := q
  refine ⟨U, G, ρ, R, (Pst.bnd q).mono (L2.Same.refl _) fun x G1 H1 ρ1 _ ⟨R1, s1, p1⟩ v av => ?_⟩
  refine ⟨U, G1, ρ1, R1, (Pst.bnd p1).mono (L2.Same.refl _) fun y G2 H2 ρ2 _ ⟨R2, s2, p2⟩ u au => ?_⟩
  unfold r2 at p2
  cases e1 : look ρ2 x with
  | none => rw [e1] at p2; exact p2.elim
  | some d =>
    cases e2 : look ρ2 y with
    | none => rw [e1, e2] at p2; exact p2.elim
    | some e =>
      rw [e1, e2] at p2
      obtain ⟨c, e3, p3⟩ := Pst.opt p2
      exact hg U G2 H2 σ ρ2 v u d e c Q R2 (look_ok R2 (av.mono s2) e1) (look_ok R2 au e2) e3 fun w G' H' R' s' r' => p3 G' H' R' s' w r'
theorem j_op {op : Operator} {a b : Expr} {pos : Pos} {r : R2} {g : D → D → Option D} {fa fb : En → Rs Ar} (ho : OpR X (binaryOp op) r) (hg : Op2 T r g) (ha : JR X T W a fa) (hb : JR X T W b fb) : JE X T W (.BinOp a op b pos) (f2 g fa fb) :=
  ⟨ha.k, pe_imp (pe_op ho ha.run hb.run) (op2_run (a := a) (b := b) hg rfl rfl)⟩
theorem j_cmpE {op : CmpOp} {a b : Expr} {pos : Pos} {r : R2} {g : D → D → Option D} {fa fb : En → Rs Ar} (ho : OpR X (compareOp op) r) (hg : Op2 T r g) (ha : JR X T W a fa) (hb : JR X T W b fb) (hm : behindInMarks op b = false := by first | exact nomark _ | rfl) :
    JE X T W (.Compare a [op] [b] pos) (f2 g fa fb) :=
  ⟨ha.k, pe_imp (pe_cmpR ho ha.run hb.run hm) (op2_run (a := a) (b := b) hg rfl rfl)⟩
/-- a value that is a truth, as a test -/
def tB (f : EF) : TF := fun ρ => (f ρ).bnd fun d ρ' => match d with
  | .bl b => .ok b ρ'
  | _ => .bad
theorem tB_run {f : EF} {t : TE} (ht : ∀ σ H Q, tE T W f σ H Q → t σ H Q) : ∀ σ H Q, tT T W (tB f) σ H Q → t σ H fun x H' => ∃ k, x = .bl k ∧ Q k H' := by
  intro σ H Q q
  obtain ⟨U, G, ρ, R, q⟩ := q
  refine ht _ _ _ ⟨U, G, ρ, R, (Pst.bnd q).mono (L2.Same.refl _) fun d G' H' ρ' _ ⟨R', s, p⟩ v r => ?_⟩
  cases d with
  | bl b =>
    have e : v = .bl b := r
    exact ⟨b, e, p G' H' R' (L2.Same.refl _)⟩
  | _ => exact p.elim
theorem j_cmp {op : CmpOp} {a b : Expr} {pos : Pos} {r : R2} {g : D → D → Option D} {fa fb : En → Rs Ar} (ho : OpR X (compareOp op) r) (hg : Op2 T r g) (ha : JR X T W a fa) (hb : JR X T W b fb) (hm : behindInMarks op b = false := by first | exact nomark _ | rfl) :
    JT X T W (.Compare a [op] [b] pos) (tB (f2 g fa fb)) :=
  ⟨ha.k, pt_imp (pt_cmpR ho ha.run hb.run hm) (tB_run (op2_run (a := a) (b := b) hg rfl rfl))⟩
/-- an expression whose value is a truth, as a test -/
theorem j_test {e : Expr} {f : EF} (h : JE X T W e f) (he : ∀ whole, isTrue e X.env whole = (do let v ← whole; standAt e.pos; holding [v] (truthy v)) := by intro _; rfl) : JT X T W e (tB f) := by
  refine ⟨h.k, pt_imp (pt_val h.run he) fun σ H Q q => ?_⟩
  exact tB_run (fun _ _ _ z => z) σ H Q q

/-! ### arithmetic -/
def addD : D → D → Option D
  | .int a, .int b => some (.int (a + b))
  | .str a, .str b => if a.length + b.length ≤ sizeLine then some (.str (a ++ b)) else none
  | .tup a, .tup b => if a.length + b.length ≤ sizeLine then some (.tup (a ++ b)) else none
  | .lst a, .lst b => if a.length + b.length ≤ sizeLine then some (.lst (a ++ b)) else none
  | _, _ => none
theorem SOk.app {a b : Str} (ha : SOk a) (hb : SOk b) (h : a.length + b.length ≤ sizeLine) : SOk (a ++ b) := by
  refine ⟨?_, ?_⟩
  · have e : (a ++ b).length = a.length + b.length := by
      show (a.cps ++ b.cps).size = a.cps.size + b.cps.size
      simp
    rw [e]; exact h
  · show (a.cps ++ b.cps).all (· < 0x110000) = true
    rw [Array.all_append]
    have h1 : a.cps.all (· < 0x110000) = true := ha.2
    have h2 : b.cps.all (· < 0x110000) = true := hb.2
    rw [h1, h2]; rfl
abbrev rAddJ (K : PySem.W.Frag) : R2 := fun x y H Q => (rI0 fun i j => .int (i + j)) x y H Q ∨ (∃ i j, x = .str i ∧ y = .str j ∧ i.length + j.length ≤ sizeLine ∧ Q (.str (i ++ j)) H) ∨ rCatA K x y H Q ∨ rCat x y H Q
theorem op_addJ : OpR X (binaryOp .Add) (rAddJ X.K) := OpR.or op_add (OpR.or op_add_str (OpR.or op_catA op_cat))
theorem add_J (k : X.K = T.K) : Op2 T (rAddJ X.K) addD := by
  intro U G H σ ρ x y d e c Q R rx ry hg q
  rw [k]
  cases d <;> cases e <;> simp only [addD] at hg <;> first | (cases hg; done) | skip
  · cases hg
    exact .inl ⟨_, _, rx.int, ry.int, q _ G H R (L2.Same.refl _) rfl⟩
  · rename_i a b
    split at hg
    · rename_i hl
      cases hg
      obtain ⟨e1, o1⟩ := rx.str
      obtain ⟨e2, o2⟩ := ry.str
      exact .inr (.inl ⟨_, _, e1, e2, hl, q _ G H R (L2.Same.refl _) ⟨rfl, o1.app o2 hl⟩⟩)
    · cases hg
  · rename_i a b
    split at hg
    · rename_i hl
      cases hg
      obtain ⟨p, xs, rfl, h1, g1, r1⟩ := rx.tup R.same
      obtain ⟨p', ys, rfl, h2, g2, r2⟩ := ry.tup R.same
      refine .inr (.inr (.inl ⟨p, p', xs, ys, rfl, rfl, h1, h2, by rw [r1.length, r2.length]; exact hl, fun e => ?_, fun e e' => ?_, fun _ _ l hl => ?_⟩))
      · subst e
        have : a = [] := by have := r1.length; cases a <;> simp_all
        subst this
        exact q _ G H R (L2.Same.refl _) ⟨p', ys, rfl, g2, r2⟩
      · subst e'
        have : b = [] := by have := r2.length; cases b <;> simp_all
        subst this
        exact q _ G H R (L2.Same.refl _) ⟨p, xs, rfl, g1, by rw [List.append_nil]; exact r1⟩
      · have s := same_upd (o := .tup (xs ++ ys)) (R.gfree hl)
        exact q _ _ _ (R.alloc hl) s ⟨l, _, rfl, .of upd_same, (r1.app r2).mono s⟩
    · cases hg
  · rename_i a b
    split at hg
    · rename_i hl
      cases hg
      obtain ⟨p, xs, rfl, h1, r1⟩ := rx.lst R.same
      obtain ⟨p', ys, rfl, h2, r2⟩ := ry.lst R.same
      refine .inr (.inr (.inr ⟨p, p', xs, ys, rfl, rfl, h1, h2, by rw [r1.length, r2.length]; exact hl, fun l hl => ?_⟩))
      have s := same_upd (o := .lst (xs ++ ys)) (R.gfree hl)
      exact q _ _ _ (R.alloc hl) s ⟨l, _, rfl, upd_same, (r1.app r2).mono s⟩
    · cases hg
theorem j_add {a b : Expr} {pos : Pos} {fa fb : En → Rs Ar} (ha : JR X T W a fa) (hb : JR X T W b fb) : JE X T W (.BinOp a .Add b pos) (f2 addD fa fb) := j_op op_addJ (add_J ha.k) ha hb
/-- ints in, under C, a scalar out -/
theorem op2_I {C : Int → Int → Prop} {gv : Int → Int → V} {g : D → D → Option D} (h : ∀ d e c, g d e = some c → ∃ i j, d = .int i ∧ e = .int j ∧ C i j ∧ ∀ G, Rep T G (gv i j) c) : Op2 T (rI C gv) g := by
  intro U G H σ ρ x y d e c Q R rx ry hg q
  obtain ⟨i, j, rfl, rfl, hc, r⟩ := h d e c hg
  exact ⟨i, j, rx.int, ry.int, hc, q _ G H R (L2.Same.refl _) (r G)⟩
theorem op2_I0 {gv : Int → Int → V} {g : D → D → Option D} (h : ∀ d e c, g d e = some c → ∃ i j, d = .int i ∧ e = .int j ∧ ∀ G, Rep T G (gv i j) c) : Op2 T (rI0 gv) g := by
  intro U G H σ ρ x y d e c Q R rx ry hg q
  obtain ⟨i, j, rfl, rfl, r⟩ := h d e c hg
  exact ⟨i, j, rx.int, ry.int, q _ G H R (L2.Same.refl _) (r G)⟩
def subD : D → D → Option D
  | .int a, .int b => some (.int (a - b))
  | _, _ => none
theorem j_sub {a b : Expr} {pos : Pos} {fa fb : En → Rs Ar} (ha : JR X T W a fa) (hb : JR X T W b fb) : JE X T W (.BinOp a .Sub b pos) (f2 subD fa fb) :=
  j_op op_sub (op2_I0 fun d e c h => by cases d <;> cases e <;> simp only [subD] at h <;> first | (cases h; done) | (cases h; exact ⟨_, _, rfl, rfl, fun _ => rfl⟩)) ha hb
instance (i j : Int) : Decidable (CMul i j) := by unfold CMul; infer_instance
instance (i j : Int) : Decidable (CDivN i j) := by unfold CDivN; infer_instance
instance (i j : Int) : Decidable (CPow i j) := by unfold CPow; infer_instance
def mulD : D → D → Option D
  | .int a, .int b => if CMul a b then some (.int (a * b)) else none
  | .lst a, .int k => if -(2 ^ 63) ≤ k ∧ k < 2 ^ 63 ∧ a.length * k.toNat ≤ sizeLine then some (.lst (List.replicate k.toNat a).flatten) else none
  | _, _ => none
theorem Reps.rep {T : Tab} {G : Hp} {xs : List V} {ds : List D} (r : Reps T G xs ds) : ∀ n : Nat, Reps T G (List.replicate n xs).flatten (List.replicate n ds).flatten
  | 0 => rfl
  | n + 1 => by rw [List.replicate_succ, List.replicate_succ, List.flatten_cons, List.flatten_cons]; exact r.app (Reps.rep r n)
theorem mul_J : Op2 T (fun x y H Q => (rI CMul fun i j => .int (i * j)) x y H Q ∨ rRep x y H Q) mulD := by
  intro U G H σ ρ x y d e c Q R rx ry hg q
  cases d <;> cases e <;> simp only [mulD] at hg <;> first | (cases hg; done) | skip
  · split at hg
    · rename_i hc
      cases hg
      exact .inl ⟨_, _, rx.int, ry.int, hc, q _ G H R (L2.Same.refl _) rfl⟩
    · cases hg
  · rename_i a kk
    split at hg
    · rename_i hc
      cases hg
      obtain ⟨p, xs, rfl, h1, r1⟩ := rx.lst R.same
      refine .inr ⟨p, _, xs, rfl, ry.int, h1, hc.1, hc.2.1, by rw [r1.length]; exact hc.2.2, fun l hl => ?_⟩
      have s := same_upd (o := .lst (List.replicate kk.toNat xs).flatten) (R.gfree hl)
      exact q _ _ _ (R.alloc hl) s ⟨l, _, rfl, upd_same, (r1.rep _).mono s⟩
    · cases hg
theorem j_mul {a b : Expr} {pos : Pos} {fa fb : En → Rs Ar} (ha : JR X T W a fa) (hb : JR X T W b fb) : JE X T W (.BinOp a .Mult b pos) (f2 mulD fa fb) := j_op (OpR.or op_mul op_rep) mul_J ha hb
def fdivD : D → D → Option D
  | .int a, .int b => if CDivN a b then some (.int (a.fdiv b)) else none
  | _, _ => none
theorem j_fdiv {a b : Expr} {pos : Pos} {fa fb : En → Rs Ar} (ha : JR X T W a fa) (hb : JR X T W b fb) : JE X T W (.BinOp a .FloorDiv b pos) (f2 fdivD fa fb) :=
  j_op op_fdivN (op2_I fun d e c h => by
    cases d <;> cases e <;> simp only [fdivD] at h <;> first | (cases h; done) | skip
    split at h
    · rename_i hc; cases h; exact ⟨_, _, rfl, rfl, hc, fun _ => rfl⟩
    · cases h) ha hb
def modD : D → D → Option D
  | .int a, .int b => if b ≠ 0 then some (.int (a.fmod b)) else none
  | _, _ => none
theorem j_mod {a b : Expr} {pos : Pos} {fa fb : En → Rs Ar} (ha : JR X T W a fa) (hb : JR X T W b fb) : JE X T W (.BinOp a .Mod b pos) (f2 modD fa fb) :=
  j_op op_modN (op2_I fun d e c h => by
    cases d <;> cases e <;> simp only [modD] at h <;> first | (cases h; done) | skip
    split at h
    · rename_i hc; cases h; exact ⟨_, _, rfl, rfl, hc, fun _ => rfl⟩
    · cases h) ha hb
def powD : D → D → Option D
  | .int a, .int b => if CPow a b then some (.int (a ^ b.toNat)) else none
  | _, _ => none
theorem j_pow {a b : Expr} {pos : Pos} {fa fb : En → Rs Ar} (ha : JR X T W a fa) (hb : JR X T W b fb) : JE X T W (.BinOp a .Pow b pos) (f2 powD fa fb) :=
  j_op op_pow (op2_I fun d e c h => by
    cases d <;> cases e <;> simp only [powD] at h <;> first | (cases h; done) | skip
    split at h
    · rename_i hc; cases h; exact ⟨_, _, rfl, rfl, hc, fun _ => rfl⟩
    · cases h) ha hb

/-! ### order of ints, None -/
def icmp (p : Int → Int → Bool) : D → D → Option D
  | .int a, .int b => some (.bl (p a b))
  | _, _ => none
theorem icmp_J {p : Int → Int → Bool} : Op2 T (rI0 fun i j => .bl (p i j)) (icmp p) := op2_I0 fun d e c h => by
  cases d <;> cases e <;> simp only [icmp] at h <;> first | (cases h; done) | (cases h; exact ⟨_, _, rfl, rfl, fun _ => rfl⟩)
abbrev ltD := icmp fun i j => decide (i < j)
abbrev leD := icmp fun i j => decide (i ≤ j)
abbrev gtD := icmp fun i j => decide (j < i)
abbrev geD := icmp fun i j => decide (j ≤ i)
def isNonD : D → D → Option D
  | .non, .non => some (.bl true)
  | _, .non => some (.bl false)
  | _, _ => none
def notNonD : D → D → Option D
  | .non, .non => some (.bl false)
  | _, .non => some (.bl true)
  | _, _ => none
theorem RepH.ne_non {G H : Hp} {v : V} {d : D} (h : RepH T G H v d) (hd : d ≠ .non) : v ≠ .non := by
  intro e
  subst e
  rcases h with h | ⟨_, _, e, _⟩
  · cases d <;> first | exact hd rfl | (cases h; done) | (obtain ⟨_, _, e, _⟩ := h; cases e; done) | (obtain ⟨e, _⟩ := h; cases e; done) | (obtain ⟨_, _, _, e, _⟩ := h; cases e)
  · cases e
theorem isNon_J : Op2 T (fun x y H Q => y = .non ∧ Q (.bl (decide (x = .non))) H) isNonD := by
  intro U G H σ ρ x y d e c Q R rx ry hg q
  cases e with
  | non =>
    refine ⟨ry.non, ?_⟩
    cases d with
    | non =>
      cases hg
      rw [decide_eq_true rx.non]
      exact q _ G H R (L2.Same.refl _) rfl
    | _ =>
      cases hg
      rw [decide_eq_false (rx.ne_non (by intro z; cases z))]
      exact q _ G H R (L2.Same.refl _) rfl
  | _ => cases d <;> cases hg
theorem notNon_J : Op2 T (fun x y H Q => y = .non ∧ Q (.bl (!decide (x = .non))) H) notNonD := by
  intro U G H σ ρ x y d e c Q R rx ry hg q
  cases e with
  | non =>
    refine ⟨ry.non, ?_⟩
    cases d with
    | non =>
      cases hg
      rw [decide_eq_true rx.non]
      exact q _ G H R (L2.Same.refl _) rfl
    | _ =>
      cases hg
      rw [decide_eq_false (rx.ne_non (by intro z; cases z))]
      exact q _ G H R (L2.Same.refl _) rfl
  | _ => cases d <;> cases hg

/-! ### equality of data -/
mutual
/-- a tree of nothing but None, truths, ints, texts, tuples and lists, at most n deep -/
def okE : Nat → D → Bool
  | _, .non => true
  | _, .bl _ => true
  | _, .int _ => true
  | _, .str _ => true
  | n + 1, .tup ds => okEs n ds
  | n + 1, .lst ds => okEs n ds
  | _, _ => false
def okEs : Nat → List D → Bool
  | _, [] => true
  | n, d :: ds => okE n d && okEs n ds
end
mutual
def toPy : D → PyData
  | .non => .none
  | .bl b => .bool b
  | .int i => .int i
  | .str s => .str s
  | .tup ds => .tuple (toPys ds)
  | .lst ds => .list (toPys ds)
  | _ => .none
def toPys : List D → List PyData
  | [] => []
  | d :: ds => toPy d :: toPys ds
end
mutual
def eqv : D → D → Bool
  | .non, .non => true
  | .bl a, .bl b => a == b
  | .bl a, .int j => (if a then 1 else 0) == j
  | .int i, .bl b => i == (if b then 1 else 0)
  | .int i, .int j => i == j
  | .str x, .str y => x == y
  | .lst xs, .lst ys => eqvs xs ys
  | .tup xs, .tup ys => eqvs xs ys
  | _, _ => false
def eqvs : List D → List D → Bool
  | [], [] => true
  | x :: xs, y :: ys => eqv x y && eqvs xs ys
  | _, _ => false
end
mutual
theorem okE_dp {T : Tab} {H : Hp} : ∀ {n : Nat} {d : D} {v : V}, okE n d = true → Rep T H v d → Dp T.K H v (toPy d) ∧ (toPy d).canLay0 = true ∧ (toPy d).depth ≤ n
  | n, .non, v, _, r => by cases r; cases n <;> exact ⟨.non, rfl, Nat.zero_le _⟩
  | n, .bl b, v, _, r => by cases r; cases n <;> exact ⟨.bl b, rfl, Nat.zero_le _⟩
  | n, .int b, v, _, r => by cases r; cases n <;> exact ⟨.int b, rfl, Nat.zero_le _⟩
  | n, .str b, v, _, r => by obtain ⟨rfl, o⟩ := r; cases n <;> exact ⟨.str b, o.2, Nat.zero_le _⟩
  | n + 1, .tup ds, v, h, r => by
    obtain ⟨a, xs, rfl, q, r⟩ := r
    obtain ⟨h1, h2, h3⟩ := okEs_dp (n := n) (by simpa [okE] using h) r
    exact ⟨.tup q h1, h2, Nat.succ_le_succ h3⟩
  | n + 1, .lst ds, v, h, r => by
    obtain ⟨a, xs, rfl, q, r⟩ := r
    obtain ⟨h1, h2, h3⟩ := okEs_dp (n := n) (by simpa [okE] using h) r
    exact ⟨.lst (.of q) h1, h2, Nat.succ_le_succ h3⟩
  | 0, .tup ds, v, h, r => by simp [okE] at h
  | 0, .lst ds, v, h, r => by simp [okE] at h
  | n, .dct _ _, v, h, r => by cases n <;> simp [okE] at h
  | n, .obj _ _ _, v, h, r => by cases n <;> simp [okE] at h
  | n, .fn _, v, h, r => by cases n <;> simp [okE] at h
  | n, .scr _, v, h, r => by cases n <;> simp [okE] at h
theorem okEs_dp {T : Tab} {H : Hp} : ∀ {n : Nat} {ds : List D} {xs : List V}, okEs n ds = true → Reps T H xs ds → DpAll T.K H xs (toPys ds) ∧ PyData.canLayAll0 (toPys ds) = true ∧ PyData.depthAll (toPys ds) ≤ n
  | n, [], xs, _, r => by cases r; exact ⟨.nil, rfl, Nat.zero_le _⟩
  | n, d :: ds, xs, h, r => by
    obtain ⟨x, rest, rfl, r1, r2⟩ := r
    have h' : okE n d = true ∧ okEs n ds = true := by simpa [okEs] using h
    obtain ⟨a1, a2, a3⟩ := okE_dp h'.1 r1
    obtain ⟨b1, b2, b3⟩ := okEs_dp h'.2 r2
    refine ⟨.cons a1 b1, ?_, Nat.max_le.mpr ⟨a3, b3⟩⟩
    show ((toPy d).canLay0 && PyData.canLayAll0 (toPys ds)) = true
    rw [a2, b2]; rfl
end
mutual
theorem eqv_py : ∀ {n m : Nat} {d e : D}, okE n d = true → okE m e = true → PyData.eqv (toPy d) (toPy e) = eqv d e
  | n + 1, m + 1, .tup ds, .tup es, h, h' => by
    have h1 : okEs n ds = true := by simpa [okE] using h
    have h2 : okEs m es = true := by simpa [okE] using h'
    simp [toPy, PyData.eqv, eqv, eqvs_py h1 h2]
  | n + 1, m + 1, .lst ds, .lst es, h, h' => by
    have h1 : okEs n ds = true := by simpa [okE] using h
    have h2 : okEs m es = true := by simpa [okE] using h'
    simp [toPy, PyData.eqv, eqv, eqvs_py h1 h2]
  | n, m, .non, e, h, h' => by cases e <;> cases m <;> first | rfl | simp [okE] at h'
  | n, m, .bl _, e, h, h' => by cases e <;> cases m <;> first | rfl | simp [okE] at h'
  | n, m, .int _, e, h, h' => by cases e <;> cases m <;> first | rfl | simp [okE] at h'
  | n, m, .str _, e, h, h' => by cases e <;> cases m <;> first | rfl | simp [okE] at h'
  | 0, m, .tup _, e, h, h' => by simp [okE] at h
  | 0, m, .lst _, e, h, h' => by simp [okE] at h
  | n, m, .dct _ _, e, h, h' => by cases n <;> simp [okE] at h
  | n, m, .obj _ _ _, e, h, h' => by cases n <;> simp [okE] at h
  | n, m, .fn _, e, h, h' => by cases n <;> simp [okE] at h
  | n, m, .scr _, e, h, h' => by cases n <;> simp [okE] at h
  | n + 1, 0, .tup _, e, h, h' => by cases e <;> first | rfl | simp [okE] at h'
  | n + 1, 0, .lst _, e, h, h' => by cases e <;> first | rfl | simp [okE] at h'
  | n + 1, m + 1, .tup _, .non, h, h' => rfl
  | n + 1, m + 1, .tup _, .bl _, h, h' => rfl
  | n + 1, m + 1, .tup _, .int _, h, h' => rfl
  | n + 1, m + 1, .tup _, .str _, h, h' => rfl
  | n + 1, m + 1, .tup _, .lst _, h, h' => rfl
  | n + 1, m + 1, .lst _, .non, h, h' => rfl
  | n + 1, m + 1, .lst _, .bl _, h, h' => rfl
  | n + 1, m + 1, .lst _, .int _, h, h' => rfl
  | n + 1, m + 1, .lst _, .str _, h, h' => rfl
  | n + 1, m + 1, .lst _, .tup _, h, h' => rfl
  | n + 1, m + 1, .lst _, .dct _ _, h, h' => by simp [okE] at h'
  | n + 1, m + 1, .lst _, .obj _ _ _, h, h' => by simp [okE] at h'
  | n + 1, m + 1, .lst _, .fn _, h, h' => by simp [okE] at h'
  | n + 1, m + 1, .lst _, .scr _, h, h' => by simp [okE] at h'
  | n + 1, m + 1, .tup _, .dct _ _, h, h' => by simp [okE] at h'
  | n + 1, m + 1, .tup _, .obj _ _ _, h, h' => by simp [okE] at h'
  | n + 1, m + 1, .tup _, .fn _, h, h' => by simp [okE] at h'
  | n + 1, m + 1, .tup _, .scr _, h, h' => by simp [okE] at h'
theorem eqvs_py : ∀ {n m : Nat} {d e : List D}, okEs n d = true → okEs m e = true → PyData.eqvAll (toPys d) (toPys e) = eqvs d e
  | _, _, [], [], _, _ => rfl
  | _, _, [], _ :: _, _, _ => rfl
  | _, _, _ :: _, [], _, _ => rfl
  | n, m, d :: ds, e :: es, h, h' => by
    have h1 : okE n d = true ∧ okEs n ds = true := by simpa [okEs] using h
    have h2 : okE m e = true ∧ okEs m es = true := by simpa [okEs] using h'
    simp [toPys, PyData.eqvAll, eqvs, eqv_py h1.1 h2.1, eqvs_py h1.2 h2.2]
end
/-- a RepH value, as data -/
theorem okE_dpH {T : Tab} {G H : Hp} {n : Nat} {d : D} {v : V} (s : L2.Same G H) (h : okE n d = true) (r : RepH T G H v d) : Dp T.K H v (toPy d) ∧ (toPy d).canLay0 = true ∧ (toPy d).depth ≤ n := by
  rcases r with r | ⟨p, o, rfl, hh, r⟩
  · exact okE_dp h (r.mono s)
  · cases d with
    | lst ds =>
      obtain ⟨xs, rfl, r⟩ := r
      exact okE_dp h (show Rep T H (.ref p) (.lst ds) from ⟨p, xs, rfl, hh, r.mono s⟩)
    | dct _ _ => cases n <;> simp [okE] at h
    | obj _ _ _ => cases n <;> simp [okE] at h
    | _ => exact r.elim
theorem shaped_of {d : PyData} (h1 : d.canLay0 = true) (h2 : d.depth ≤ 60) : SeqAt.shaped d = true := by
  unfold SeqAt.shaped
  rw [h1, decide_eq_true (by omega)]; rfl
def eqD (d e : D) : Option D := if okE 60 d = true ∧ okE 60 e = true then some (.bl (eqv d e)) else none
def neD (d e : D) : Option D := if okE 60 d = true ∧ okE 60 e = true then some (.bl (!eqv d e)) else none
theorem eq_J (k : X.K = T.K) : Op2 T (rEqD X.K) eqD := by
  intro U G H σ ρ x y d e c Q R rx ry hg q
  unfold eqD at hg
  split at hg
  · rename_i h
    cases hg
    obtain ⟨a1, a2, a3⟩ := okE_dpH R.same h.1 rx
    obtain ⟨b1, b2, b3⟩ := okE_dpH R.same h.2 ry
    rw [k]
    exact ⟨_, _, a1, b1, shaped_of a2 a3, shaped_of b2 b3, q _ G H R (L2.Same.refl _) (by rw [eqv_py h.1 h.2]; rfl)⟩
  · cases hg
theorem ne_J (k : X.K = T.K) : Op2 T (rNeD X.K) neD := by
  intro U G H σ ρ x y d e c Q R rx ry hg q
  unfold neD at hg
  split at hg
  · rename_i h
    cases hg
    obtain ⟨a1, a2, a3⟩ := okE_dpH R.same h.1 rx
    obtain ⟨b1, b2, b3⟩ := okE_dpH R.same h.2 ry
    rw [k]
    exact ⟨_, _, a1, b1, shaped_of a2 a3, shaped_of b2 b3, q _ G H R (L2.Same.refl _) (by rw [eqv_py h.1 h.2]; rfl)⟩
  · cases hg
/-- x in y: y a list -/
def inD (neg : Bool) (d : D) : D → Option D
  | .lst es => if okE 60 d = true ∧ okE 60 (.lst es) = true then some (.bl (if neg then !(es.any fun z => eqv z d) else es.any fun z => eqv z d)) else none
  | _ => none
theorem any_py {n m : Nat} {d : D} (h : okE n d = true) : ∀ {es : List D}, okEs m es = true → ((toPys es).any fun z => PyData.eqv z (toPy d)) = es.any fun z => eqv z d
  | [], _ => rfl
  | e :: es, h' => by
    have h2 : okE m e = true ∧ okEs m es = true := by simpa [okEs] using h'
    simp [toPys, eqv_py h2.1 h, any_py h h2.2]
theorem in_J (k : X.K = T.K) : Op2 T (rInD X.K) (inD false) := by
  intro U G H σ ρ x y d e c Q R rx ry hg q
  cases e <;> simp only [inD] at hg <;> first | (cases hg; done) | skip
  rename_i es
  split at hg
  · rename_i h
    cases hg
    obtain ⟨a1, a2, a3⟩ := okE_dpH R.same h.1 rx
    obtain ⟨b1, b2, b3⟩ := okE_dpH R.same h.2 ry
    have h3 : okEs 59 es = true := by simpa [okE] using h.2
    rw [k]
    exact ⟨_, toPys es, a1, b1, shaped_of a2 a3, shaped_of b2 b3, q _ G H R (L2.Same.refl _) (by rw [any_py h.1 h3]; rfl)⟩
  · cases hg
theorem notIn_J (k : X.K = T.K) : Op2 T (rNotInD X.K) (inD true) := by
  intro U G H σ ρ x y d e c Q R rx ry hg q
  cases e <;> simp only [inD] at hg <;> first | (cases hg; done) | skip
  rename_i es
  split at hg
  · rename_i h
    cases hg
    obtain ⟨a1, a2, a3⟩ := okE_dpH R.same h.1 rx
    obtain ⟨b1, b2, b3⟩ := okE_dpH R.same h.2 ry
    have h3 : okEs 59 es = true := by simpa [okE] using h.2
    rw [k]
    exact ⟨_, toPys es, a1, b1, shaped_of a2 a3, shaped_of b2 b3, q _ G H R (L2.Same.refl _) (by rw [any_py h.1 h3]; rfl)⟩
  · cases hg

/-! ### and, or, not, if -/
structure JW (X : Cx) (T : Tab) (W : WX) (e : Expr) (f : TF) : Prop where
  k : X.K = T.K
  run : PW X e (tT T W f)
theorem pw_imp {X : Cx} {e : Expr} {t t' : TT} (h : PW X e t) (hi : ∀ σ H Q, t' σ H Q → t σ H Q) : PW X e t' := ⟨fun wh pins s σ H Q I q => h.run wh pins s σ H Q I (hi _ _ _ q)⟩
theorem JW.jt {e : Expr} {f : TF} (h : JW X T W e f) : JT X T W e f := ⟨h.k, h.run.pt⟩
theorem j_and1 {a : Expr} {pos : Pos} {f : TF} (h : JT X T W a f) : JW X T W (.BoolOp .And [a] pos) f := ⟨h.k, pw_and1 h.run⟩
theorem j_or1 {a : Expr} {pos : Pos} {f : TF} (h : JT X T W a f) : JW X T W (.BoolOp .Or [a] pos) f := ⟨h.k, pw_or1 h.run⟩
def tAndJ (f g : TF) : TF := fun ρ => (f ρ).bnd fun b ρ' => if b = true then g ρ' else .ok false ρ'
def tOrJ (f g : TF) : TF := fun ρ => (f ρ).bnd fun b ρ' => if b = true then .ok true ρ' else g ρ'
def tNotJ (f : TF) : TF := fun ρ => (f ρ).bnd fun b ρ' => .ok (!b) ρ'
theorem j_and {a b : Expr} {rest : List Expr} {pos : Pos} {f g : TF} (h : JT X T W a f) (h' : JW X T W (.BoolOp .And (b :: rest) pos) g) : JW X T W (.BoolOp .And (a :: b :: rest) pos) (tAndJ f g) := by
  refine ⟨h.k, pw_imp (pw_and h.run h'.run) fun σ H Q q => ?_⟩
  obtain ⟨U, G, ρ, R, q⟩ := q
  refine ⟨U, G, ρ, R, (Pst.bnd q).mono (L2.Same.refl _) fun b G' H' ρ' _ ⟨R', s, p⟩ => ?_⟩
  cases b with
  | true => exact ⟨U, G', ρ', R', p⟩
  | false => exact p G' H' R' (L2.Same.refl _)
theorem j_or {a b : Expr} {rest : List Expr} {pos : Pos} {f g : TF} (h : JT X T W a f) (h' : JW X T W (.BoolOp .Or (b :: rest) pos) g) : JW X T W (.BoolOp .Or (a :: b :: rest) pos) (tOrJ f g) := by
  refine ⟨h.k, pw_imp (pw_or h.run h'.run) fun σ H Q q => ?_⟩
  obtain ⟨U, G, ρ, R, q⟩ := q
  refine ⟨U, G, ρ, R, (Pst.bnd q).mono (L2.Same.refl _) fun b G' H' ρ' _ ⟨R', s, p⟩ => ?_⟩
  cases b with
  | true => exact p G' H' R' (L2.Same.refl _)
  | false => exact ⟨U, G', ρ', R', p⟩
theorem j_not {a : Expr} {pos : Pos} {f : TF} (h : JT X T W a f) : JT X T W (.UnaryOp .Not a pos) (tNotJ f) := by
  refine ⟨h.k, pt_imp (pt_not h.run) fun σ H Q q => ?_⟩
  obtain ⟨U, G, ρ, R, q⟩ := q
  exact ⟨U, G, ρ, R, (Pst.bnd q).mono (L2.Same.refl _) fun b G' H' ρ' _ ⟨R', s, p⟩ => p G' H' R' (L2.Same.refl _)⟩
/-- .. as values -/
def eBl (f : TF) : EF := fun ρ => (f ρ).bnd fun b ρ' => .ok (.bl b) ρ'
def eAndJ (f g : EF) : EF := fun ρ => (f ρ).bnd fun d ρ' => match d with
  | .bl true => g ρ'
  | .bl false => .ok (.bl false) ρ'
  | _ => .bad
def eOrJ (f g : EF) : EF := fun ρ => (f ρ).bnd fun d ρ' => match d with
  | .bl true => .ok (.bl true) ρ'
  | .bl false => g ρ'
  | _ => .bad
def eNotJ (f : EF) : EF := fun ρ => (f ρ).bnd fun d ρ' => match d with
  | .bl b => .ok (.bl (!b)) ρ'
  | _ => .bad
theorem j_one {op} {a : Expr} {pos : Pos} {f : EF} (h : JE X T W a f) : JE X T W (.BoolOp op [a] pos) f := ⟨h.k, pe_one h.run⟩
theorem j_vand {a b : Expr} {rest : List Expr} {pos : Pos} {f g : EF} (h : JE X T W a f) (h' : JE X T W (.BoolOp .And (b :: rest) pos) g) : JE X T W (.BoolOp .And (a :: b :: rest) pos) (eAndJ f g) := by
  refine ⟨h.k, pe_imp (pe_and h.run h'.run) fun σ H Q q => ?_⟩
  obtain ⟨U, G, ρ, R, q⟩ := q
  refine ⟨U, G, ρ, R, (Pst.bnd q).mono (L2.Same.refl _) fun d G' H' ρ' _ ⟨R', s, p⟩ v r => ?_⟩
  cases d with
  | bl b =>
    have e : v = .bl b := r
    refine ⟨b, e, ?_⟩
    cases b with
    | true => exact ⟨U, G', ρ', R', p⟩
    | false => exact p G' H' R' (L2.Same.refl _) (.bl false) rfl
  | _ => exact p.elim
theorem j_vor {a b : Expr} {rest : List Expr} {pos : Pos} {f g : EF} (h : JE X T W a f) (h' : JE X T W (.BoolOp .Or (b :: rest) pos) g) : JE X T W (.BoolOp .Or (a :: b :: rest) pos) (eOrJ f g) := by
  refine ⟨h.k, pe_imp (pe_or h.run h'.run) fun σ H Q q => ?_⟩
  obtain ⟨U, G, ρ, R, q⟩ := q
  refine ⟨U, G, ρ, R, (Pst.bnd q).mono (L2.Same.refl _) fun d G' H' ρ' _ ⟨R', s, p⟩ v r => ?_⟩
  cases d with
  | bl b =>
    have e : v = .bl b := r
    refine ⟨b, e, ?_⟩
    cases b with
    | true => exact p G' H' R' (L2.Same.refl _) (.bl true) rfl
    | false => exact ⟨U, G', ρ', R', p⟩
  | _ => exact p.elim
theorem j_vnot {a : Expr} {pos : Pos} {f : EF} (h : JE X T W a f) : JE X T W (.UnaryOp .Not a pos) (eNotJ f) := by
  refine ⟨h.k, pe_imp (pe_not h.run) fun σ H Q q => ?_⟩
  obtain ⟨U, G, ρ, R, q⟩ := q
  refine ⟨U, G, ρ, R, (Pst.bnd q).mono (L2.Same.refl _) fun d G' H' ρ' _ ⟨R', s, p⟩ v r => ?_⟩
  cases d with
  | bl b =>
    have e : v = .bl b := r
    exact ⟨b, e, p G' H' R' (L2.Same.refl _) (.bl (!b)) rfl⟩
  | _ => exact p.elim
def eIf (t : TF) (f g : EF) : EF := fun ρ => (t ρ).bnd fun b ρ' => if b = true then f ρ' else g ρ'
theorem j_if {c a b : Expr} {pos : Pos} {t : TF} {f g : EF} (hc : JT X T W c t) (ha : JE X T W a f) (hb : JE X T W b g) : JE X T W (.IfExp c a b pos) (eIf t f g) := by
  refine ⟨hc.k, pe_imp (pe_ifExp hc.run ha.run hb.run) fun σ H Q q => ?_⟩
  obtain ⟨U, G, ρ, R, q⟩ := q
  refine ⟨U, G, ρ, R, (Pst.bnd q).mono (L2.Same.refl _) fun b G' H' ρ' _ ⟨R', s, p⟩ => ?_⟩
  cases b with
  | true => exact ⟨U, G', ρ', R', p⟩
  | false => exact ⟨U, G', ρ', R', p⟩
def f1 (g : D → Option D) (fa : En → Rs Ar) : EF := fun ρ => (fa ρ).bnd fun a ρ1 => match look ρ1 a with
  | some d => opt (g d) ρ1
  | none => .bad
def negD : D → Option D
  | .int i => some (.int (-i))
  | _ => none
theorem j_neg {a : Expr} {pos : Pos} {fa : En → Rs Ar} (ha : JR X T W a fa) : JE X T W (.UnaryOp .USub a pos) (f1 negD fa) := by
  refine ⟨ha.k, pe_imp (pe_un un_neg ha.run) fun σ H Q q => ?_⟩
  obtain ⟨U, G, ρ, R, q⟩ := q
  refine ⟨U, G, ρ, R, (Pst.bnd q).mono (L2.Same.refl _) fun a G' H' ρ' _ ⟨R', s, p⟩ v av => ?_⟩
  cases e : look ρ' a with
  | none => rw [e] at p; exact p.elim
  | some d =>
    rw [e] at p
    have rv := look_ok R' av e
    cases d with
    | int i => exact ⟨i, rv.int, p G' H' R' (L2.Same.refl _) _ rfl⟩
    | _ => exact p.elim
end
end J

set_option Elab.async false
set_option linter.all false
set_option maxRecDepth 100000
set_option maxHeartbeats 4000000
namespace J
open PySem PySem.Spec PyProof.Rows L2

/-! ### arguments -/
section
variable {X : Cx} {T : Tab} {W : WX}
def aNil : AF := fun ρ => .ok [] ρ
def aCons (f : En → Rs Ar) (g : AF) : AF := fun ρ => (f ρ).bnd fun a ρ1 => (g ρ1).bnd fun as ρ2 => .ok (a :: as) ρ2
theorem ja_nil (k : X.K = T.K) : JA X T W [] aNil := by
  refine ⟨k, fun ρ as ρ' h => (by cases h; rfl), pa_imp pa_nil fun σ H Q q => ?_⟩
  obtain ⟨U, G, ρ, R, q⟩ := q
  exact q G H R (L2.Same.refl _) [] True.intro
theorem ja_cons {e : Expr} {es : List Expr} {f : En → Rs Ar} {g : AF} (h : JR X T W e f) (h' : JA X T W es g) (hs : starEach (e :: es) X.env = (false, eval e X.env) :: starEach es X.env := by rfl) : JA X T W (e :: es) (aCons f g) := by
  refine ⟨h.k, fun ρ as ρ' e => ?_, pa_imp (pa_cons h.run h'.run hs) fun σ H Q q => ?_⟩
  · unfold aCons at e
    cases e1 : f ρ with
    | ok a ρ1 =>
      rw [e1] at e
      cases e2 : g ρ1 with
      | ok as2 ρ2 =>
        have e : (g ρ1).bnd (fun as ρ2 => .ok (a :: as) ρ2) = .ok as ρ' := e
        rw [e2] at e
        cases e
        simp [h'.len _ _ _ e2]
      | ex _ _ _ _ =>
        have e : (g ρ1).bnd (fun as ρ2 => .ok (a :: as) ρ2) = .ok as ρ' := e
        rw [e2] at e; cases e
      | bad =>
        have e : (g ρ1).bnd (fun as ρ2 => .ok (a :: as) ρ2) = .ok as ρ' := e
        rw [e2] at e; cases e
    | ex _ _ _ _ => rw [e1] at e; cases e
    | bad => rw [e1] at e; cases e
  obtain ⟨U, G, ρ, R, q⟩ := q
  refine ⟨U, G, ρ, R, (Pst.bnd q).mono (L2.Same.refl _) fun a G1 H1 ρ1 _ ⟨R1, s1, p1⟩ v av => ?_⟩
  refine ⟨U, G1, ρ1, R1, (Pst.bnd p1).mono (L2.Same.refl _) fun as G2 H2 ρ2 _ ⟨R2, s2, p2⟩ vs avs => ?_⟩
  exact p2 G2 H2 R2 (L2.Same.refl _) (v :: vs) ⟨av.mono s2, avs⟩
def looks (ρ : En) : List Ar → Option (List D)
  | [] => some []
  | a :: as => match look ρ a, looks ρ as with
    | some d, some ds => some (d :: ds)
    | _, _ => none
@[simp] theorem looks_nil (ρ : En) : looks ρ [] = some [] := rfl
@[simp] theorem looks_cons (ρ : En) (a : Ar) (as : List Ar) : looks ρ (a :: as) = (match look ρ a, looks ρ as with | some d, some ds => some (d :: ds) | _, _ => none) := rfl
def RepHs (T : Tab) (G H : Hp) : List V → List D → Prop
  | [], [] => True
  | v :: vs, d :: ds => RepH T G H v d ∧ RepHs T G H vs ds
  | _, _ => False
theorem looks_ok {U G H : Hp} {σ : L2.St} {ρ : En} (R : Rel T U G H σ ρ) : ∀ {as : List Ar} {vs : List V} {ds : List D}, ArsOk T G σ vs as → looks ρ as = some ds → RepHs T G H vs ds
  | [], [], ds, _, e => by cases e; exact True.intro
  | [], _ :: _, _, h, _ => h.elim
  | _ :: _, [], _, h, _ => h.elim
  | a :: as, v :: vs, ds, h, e => by
    rw [looks_cons] at e
    cases e1 : look ρ a with
    | none => rw [e1] at e; cases e
    | some d =>
      cases e2 : looks ρ as with
      | none => rw [e1, e2] at e; cases e
      | some es =>
        rw [e1, e2] at e
        cases e
        exact ⟨look_ok R h.1 e1, looks_ok R h.2 e2⟩
/-- all of them values -/
def vals : List Ar → Option (List D)
  | [] => some []
  | .v d :: as => (vals as).map (d :: ·)
  | .s _ :: _ => none
@[simp] theorem vals_nil : vals [] = some [] := rfl
@[simp] theorem vals_cons (d : D) (as : List Ar) : vals (.v d :: as) = (vals as).map (d :: ·) := rfl
theorem vals_ok {G : Hp} {σ : L2.St} : ∀ {as : List Ar} {vs : List V} {ds : List D}, ArsOk T G σ vs as → vals as = some ds → Reps T G vs ds
  | [], [], ds, _, e => by cases e; rfl
  | [], _ :: _, _, h, _ => h.elim
  | _ :: _, [], _, h, _ => h.elim
  | .s _ :: as, v :: vs, ds, h, e => by cases e
  | .v d :: as, v :: vs, ds, h, e => by
    rw [vals_cons] at e
    cases e2 : vals as with
    | none => rw [e2] at e; cases e
    | some es =>
      rw [e2] at e
      cases e
      exact ⟨v, vs, rfl, h.1, vals_ok h.2 e2⟩

/-! ### new objects -/
theorem Rel.fresh {U G H : Hp} {σ : L2.St} {ρ : En} {p : Addr} {o : HO} (R : Rel T U G H σ ρ) (h : H p = none) : Rel T U G (upd H p o) σ ρ ∧ ∀ (i : Nat) (d : D), ρ[i]? = some (.ow d) → σ[i]? ≠ some (some (.ref p)) := by
  have e : unheld (upd U p o) p = U := by
    funext b
    by_cases hb : b = p
    · subst hb; rw [unheld_same, R.ufree h]
    · rw [unheld_ne hb, upd_ne hb]
  refine ⟨e ▸ (R.hold (o := o) h).unhold (p := p), fun i d e1 e2 => ?_⟩
  obtain ⟨a, q, e3, _, _, hh, _⟩ := R.ow i d e1
  rw [e2] at e3
  cases e3
  rw [h] at hh; cases hh
/-- an owned result, frozen -/
theorem j_frz {e : Expr} {f : EF} (h : JO X T W e f) : JE X T W e f := by
  refine ⟨h.k, pe_imp h.run fun σ H Q q => ?_⟩
  obtain ⟨U, G, ρ, R, q⟩ := q
  refine ⟨U, G, ρ, R, ?_⟩
  cases hf : f ρ with
  | ok d ρ' =>
    rw [hf] at q
    intro G' H' R' s p o g u hh r hn
    have s2 := same_upd (o := o) g
    exact q _ H' (R'.freeze u g hh hn) (s.trans s2) (.ref p) ((r.mono s2).rep upd_same)
  | ex c ns vs ρ' => rw [hf] at q; exact q
  | bad => rw [hf] at q; exact q
theorem ars_len {G : Hp} {σ : L2.St} : ∀ {as : List Ar} {vs : List V}, ArsOk T G σ vs as → vs.length = as.length
  | [], [], _ => rfl
  | [], _ :: _, h => h.elim
  | _ :: _, [], h => h.elim
  | _ :: as, _ :: vs, h => by simp [ars_len h.2]
def eSeq (c : List D → D) (f : AF) : EF := fun ρ => (f ρ).bnd fun as ρ' => opt ((vals as).map c) ρ'
theorem seq_run {es : List Expr} {f : AF} {c : List D → D} {Q : VK} {Q' : V → Hp → Hp → En → Prop} (h : JA X T W es f) (hl : es.length ≤ 1000) {U G : Hp} {σ : L2.St} {ρ : En} {P : D → Hp → Hp → En → Prop} (q : Pst T U σ G (eSeq c f ρ) P W) :
    Pst T U σ G (f ρ) (fun as G' H' ρ' => ∀ vs, ArsOk T G' σ vs as → Rel T U G' H' σ ρ' ∧ vs.length ≤ 1000 ∧ ∃ ds, Reps T G' vs ds ∧ ∀ G2 H2, Rel T U G2 H2 σ ρ' → L2.Same G' G2 → P (c ds) G2 H2 ρ') W := by
  have q' := Pst.bnd q
  cases hf : f ρ with
  | ok as ρ' =>
    rw [hf] at q'
    intro G1 H1 R1 s1 vs avs
    obtain ⟨_, _, p⟩ := q' G1 H1 R1 s1
    obtain ⟨c', e, p⟩ := Pst.opt p
    cases e2 : vals as with
    | none => rw [e2] at e; cases e
    | some ds =>
      rw [e2] at e
      cases e
      refine ⟨R1, ?_, ds, vals_ok avs e2, p⟩
      rw [ars_len avs, h.len _ _ _ hf]
      exact hl
  | ex c ns vs ρ' => rw [hf] at q'; exact q'
  | bad => rw [hf] at q'; exact q'
theorem le_line {n : Nat} (h : n ≤ 1000) : n ≤ sizeLine := by rw [sizeLine_eq]; omega
theorem j_tup {es : List Expr} {f : AF} {x1} {pos : Pos} (h : JA X T W es f) (hl : es.length ≤ 1000 := by decide) : JE X T W (.Tuple es x1 pos) (eSeq .tup f) := by
  refine ⟨h.k, pe_imp (pe_tup h.run) fun σ H Q q => ?_⟩
  obtain ⟨U, G, ρ, R, q⟩ := q
  refine ⟨U, G, ρ, R, (seq_run (Q := Q) (Q' := fun _ _ _ _ => True) h hl q).mono (L2.Same.refl _) fun as G1 H1 ρ1 _ p vs avs => ?_⟩
  obtain ⟨R1, hz, ds, r, p⟩ := p vs avs
  refine ⟨le_line hz, fun l hl => ?_⟩
  have s := same_upd (o := .tup vs) (R1.gfree hl)
  exact p _ _ (R1.alloc hl) s _ ⟨l, vs, rfl, .of upd_same, r.mono s⟩
theorem j_lstO {es : List Expr} {f : AF} {pos : Pos} (h : JA X T W es f) (hl : es.length ≤ 1000 := by decide) : JO X T W (.List es pos) (eSeq .lst f) := by
  refine ⟨h.k, pe_imp (pe_lst h.run) fun σ H Q q => ?_⟩
  obtain ⟨U, G, ρ, R, q⟩ := q
  refine ⟨U, G, ρ, R, (seq_run (Q := Q) (Q' := fun _ _ _ _ => True) h hl q).mono (L2.Same.refl _) fun as G1 H1 ρ1 _ p vs avs => ?_⟩
  obtain ⟨R1, hz, ds, r, p⟩ := p vs avs
  refine ⟨le_line hz, fun l hl => ?_⟩
  obtain ⟨R2, hn⟩ := R1.fresh (o := .lst vs) hl
  exact p _ _ R2 (L2.Same.refl _) l _ (R1.gfree hl) (R1.ufree hl) upd_same ⟨vs, rfl, r⟩ hn
end

/-! ### built-in functions -/
section
variable {X : Cx} {T : Tab} {W : WX}
/-- a call by values, its answer a value -/
def OpL (T : Tab) (r : List V → Hp → VK → Prop) (g : List D → Option D) : Prop := ∀ U G H σ ρ xs ds c (Q : VK), Rel T U G H σ ρ → RepHs T G H xs ds → g ds = some c → (∀ v G' H', Rel T U G' H' σ ρ → L2.Same G G' → Rep T G' v c → Q v H') → r xs H Q
/-- .. a new object -/
def OpLO (T : Tab) (r : List V → Hp → VK → Prop) (g : List D → Option D) : Prop := ∀ U G H σ ρ xs ds c (Q : VK), Rel T U G H σ ρ → RepHs T G H xs ds → g ds = some c →
  (∀ p o G' H', Rel T U G' H' σ ρ → L2.Same G G' → G' p = none → U p = none → H' p = some o → RepO T G' o c → (∀ (i : Nat) (d : D), ρ[i]? = some (.ow d) → σ[i]? ≠ some (some (.ref p))) → Q (.ref p) H') → r xs H Q
def eCallB (g : List D → Option D) (f : AF) : EF := fun ρ => (f ρ).bnd fun as ρ' => match looks ρ' as with
  | some ds => opt (g ds) ρ'
  | none => .bad
theorem callB_run {r : List V → Hp → VK → Prop} {g : List D → Option D} {f : AF} (hg : OpL T r g) : ∀ σ H Q, tE T W (eCallB g f) σ H Q → tCB r (tA T W f) σ H Q := by
  intro σ H Q q
  obtain ⟨U, G, ρ, R, q⟩ := q
  refine ⟨U, G, ρ, R, (Pst.bnd q).mono (L2.Same.refl _) fun as G1 H1 ρ1 _ ⟨R1, s1, p⟩ vs avs => ?_⟩
  cases e : looks ρ1 as with
  | none => rw [e] at p; exact p.elim
  | some ds =>
    rw [e] at p
    obtain ⟨c, e2, p⟩ := Pst.opt p
    exact hg U G1 H1 σ ρ1 vs ds c Q R1 (looks_ok R1 avs e) e2 fun v G' H' R' s' r' => p G' H' R' s' v r'
theorem callO_run {r : List V → Hp → VK → Prop} {g : List D → Option D} {f : AF} (hg : OpLO T r g) : ∀ σ H Q, tO T W (eCallB g f) σ H Q → tCB r (tA T W f) σ H Q := by
  intro σ H Q q
  obtain ⟨U, G, ρ, R, q⟩ := q
  refine ⟨U, G, ρ, R, (Pst.bnd q).mono (L2.Same.refl _) fun as G1 H1 ρ1 _ ⟨R1, s1, p⟩ vs avs => ?_⟩
  cases e : looks ρ1 as with
  | none => rw [e] at p; exact p.elim
  | some ds =>
    rw [e] at p
    obtain ⟨c, e2, p⟩ := Pst.opt p
    exact hg U G1 H1 σ ρ1 vs ds c Q R1 (looks_ok R1 avs e) e2 fun v o G' H' R' s' g u hh r' hn => p G' H' R' s' v o g u hh r' hn
variable {x : Str} {p pos : Pos} {e : Expr} {es : List Expr} {f : AF} {id ty : String} {r : List V → Hp → VK → Prop} {g : List D → Option D}
theorem j_callB (hc : CallR X (.builtin id) r) (hg : OpL T r g) (ha : JA X T W (e :: es) f) (hm : X.mg x = none) (hv : bootBuiltins x = some (.builtin id)) (hgl : Gl X x := by rfl) (hn : x ≠ "__name__" := by decide) (hdb : (x == ("__debug__" : Str)) = false := by decide)
    (he : starEach (e :: es) X.env = (false, eval e X.env) :: starEach es X.env := by rfl) (hpl : (backTo pos (starEach es X.env)).any (·.1) = false := by rfl) : JE X T W (.Call (.Name x p) (e :: es) [] pos) (eCallB g f) :=
  ⟨ha.k, pe_imp (pe_callB hc hgl hm hv ha.run hn hdb he hpl) (callB_run hg)⟩
theorem j_callT (hc : CallR X (.type ty) r) (hg : OpL T r g) (ha : JA X T W (e :: es) f) (hm : X.mg x = none) (hv : bootBuiltins x = some (.type ty)) (hgl : Gl X x := by rfl) (hn : x ≠ "__name__" := by decide) (hdb : (x == ("__debug__" : Str)) = false := by decide)
    (he : starEach (e :: es) X.env = (false, eval e X.env) :: starEach es X.env := by rfl) (hpl : (backTo pos (starEach es X.env)).any (·.1) = false := by rfl) : JE X T W (.Call (.Name x p) (e :: es) [] pos) (eCallB g f) :=
  ⟨ha.k, pe_imp (pe_callTy hc hgl hm hv ha.run hn hdb he hpl) (callB_run hg)⟩
theorem j_callBO (hc : CallR X (.builtin id) r) (hg : OpLO T r g) (ha : JA X T W (e :: es) f) (hm : X.mg x = none) (hv : bootBuiltins x = some (.builtin id)) (hgl : Gl X x := by rfl) (hn : x ≠ "__name__" := by decide) (hdb : (x == ("__debug__" : Str)) = false := by decide)
    (he : starEach (e :: es) X.env = (false, eval e X.env) :: starEach es X.env := by rfl) (hpl : (backTo pos (starEach es X.env)).any (·.1) = false := by rfl) : JO X T W (.Call (.Name x p) (e :: es) [] pos) (eCallB g f) :=
  ⟨ha.k, pe_imp (pe_callB hc hgl hm hv ha.run hn hdb he hpl) (callO_run hg)⟩
theorem j_callTO (hc : CallR X (.type ty) r) (hg : OpLO T r g) (ha : JA X T W (e :: es) f) (hm : X.mg x = none) (hv : bootBuiltins x = some (.type ty)) (hgl : Gl X x := by rfl) (hn : x ≠ "__name__" := by decide) (hdb : (x == ("__debug__" : Str)) = false := by decide)
    (he : starEach (e :: es) X.env = (false, eval e X.env) :: starEach es X.env := by rfl) (hpl : (backTo pos (starEach es X.env)).any (·.1) = false := by rfl) : JO X T W (.Call (.Name x p) (e :: es) [] pos) (eCallB g f) :=
  ⟨ha.k, pe_imp (pe_callTy hc hgl hm hv ha.run hn hdb he hpl) (callO_run hg)⟩

theorem RepHs.one {G H : Hp} {xs : List V} {d : D} (h : RepHs T G H xs [d]) : ∃ x, xs = [x] ∧ RepH T G H x d := by
  match xs, h with
  | [x], h => exact ⟨x, rfl, h.1⟩
  | [], h => exact h.elim
  | _ :: _ :: _, h => exact h.2.elim
theorem RepHs.two {G H : Hp} {xs : List V} {d e : D} (h : RepHs T G H xs [d, e]) : ∃ x y, xs = [x, y] ∧ RepH T G H x d ∧ RepH T G H y e := by
  match xs, h with
  | [x, y], h => exact ⟨x, y, rfl, h.1, h.2.1⟩
  | [], h => exact h.elim
  | [_], h => exact h.2.elim
  | _ :: _ :: _ :: _, h => exact h.2.2.elim
/-- one argument -/
def on1 (g : D → Option D) : List D → Option D
  | [d] => g d
  | _ => none
def on2 (g : D → D → Option D) : List D → Option D
  | [d, e] => g d e
  | _ => none
@[simp] theorem on1_one (g : D → Option D) (d : D) : on1 g [d] = g d := rfl
@[simp] theorem on2_two (g : D → D → Option D) (d e : D) : on2 g [d, e] = g d e := rfl
theorem opL_1 {r : List V → Hp → VK → Prop} {g : D → Option D} (h : ∀ U G H σ ρ x d c (Q : VK), Rel T U G H σ ρ → RepH T G H x d → g d = some c → (∀ v G' H', Rel T U G' H' σ ρ → L2.Same G G' → Rep T G' v c → Q v H') → r [x] H Q) : OpL T r (on1 g) := by
  intro U G H σ ρ xs ds c Q R rx hg q
  match ds, rx, hg with
  | [d], rx, hg =>
    obtain ⟨x, rfl, rx'⟩ := rx.one
    exact h U G H σ ρ x d c Q R rx' hg q
  | [], _, hg => cases hg
  | _ :: _ :: _, _, hg => cases hg
theorem opL_2 {r : List V → Hp → VK → Prop} {g : D → D → Option D} (h : ∀ U G H σ ρ x y d e c (Q : VK), Rel T U G H σ ρ → RepH T G H x d → RepH T G H y e → g d e = some c → (∀ v G' H', Rel T U G' H' σ ρ → L2.Same G G' → Rep T G' v c → Q v H') → r [x, y] H Q) : OpL T r (on2 g) := by
  intro U G H σ ρ xs ds c Q R rx hg q
  match ds, rx, hg with
  | [d, e], rx, hg =>
    obtain ⟨x, y, rfl, rx', ry'⟩ := rx.two
    exact h U G H σ ρ x y d e c Q R rx' ry' hg q
  | [], _, hg => cases hg
  | [_], _, hg => cases hg
  | _ :: _ :: _ :: _, _, hg => cases hg
theorem opLO_1 {r : List V → Hp → VK → Prop} {g : D → Option D} (h : ∀ U G H σ ρ x d c (Q : VK), Rel T U G H σ ρ → RepH T G H x d → g d = some c →
    (∀ p o G' H', Rel T U G' H' σ ρ → L2.Same G G' → G' p = none → U p = none → H' p = some o → RepO T G' o c → (∀ (i : Nat) (d : D), ρ[i]? = some (.ow d) → σ[i]? ≠ some (some (.ref p))) → Q (.ref p) H') → r [x] H Q) : OpLO T r (on1 g) := by
  intro U G H σ ρ xs ds c Q R rx hg q
  match ds, rx, hg with
  | [d], rx, hg =>
    obtain ⟨x, rfl, rx'⟩ := rx.one
    exact h U G H σ ρ x d c Q R rx' hg q
  | [], _, hg => cases hg
  | _ :: _ :: _, _, hg => cases hg
/-- a new list -/
theorem mkList {U G H : Hp} {σ : L2.St} {ρ : En} {Q : VK} {c : List D} {vs : List V} (R : Rel T U G H σ ρ) (r : Reps T G vs c)
    (q : ∀ p o G' H', Rel T U G' H' σ ρ → L2.Same G G' → G' p = none → U p = none → H' p = some o → RepO T G' o (.lst c) → (∀ (i : Nat) (d : D), ρ[i]? = some (.ow d) → σ[i]? ≠ some (some (.ref p))) → Q (.ref p) H') : ∀ p, H p = none → Q (.ref p) (upd H p (.lst vs)) := fun l hl => by
  obtain ⟨R2, hn⟩ := R.fresh (o := .lst vs) hl
  exact q l _ G _ R2 (L2.Same.refl _) (R.gfree hl) (R.ufree hl) upd_same ⟨vs, rfl, r⟩ hn
theorem mkTup {U G H : Hp} {σ : L2.St} {ρ : En} {Q : VK} {c : List D} {vs : List V} (R : Rel T U G H σ ρ) (r : Reps T G vs c)
    (q : ∀ v G' H', Rel T U G' H' σ ρ → L2.Same G G' → Rep T G' v (.tup c) → Q v H') : ∀ p, H p = none → Q (.ref p) (upd H p (.tup vs)) := fun l hl => by
  have s := same_upd (o := .tup vs) (R.gfree hl)
  exact q _ _ _ (R.alloc hl) s ⟨l, vs, rfl, .of upd_same, r.mono s⟩

def lenD : D → Option D
  | .str s => some (.int s.length)
  | .tup ds => some (.int ds.length)
  | .lst ds => some (.int ds.length)
  | .scr ds => some (.int ds.length)
  | .dct ks _ => some (.int ks.length)
  | _ => none
theorem len_J (k : X.K = T.K) : OpL T (fun xs H Q => (∃ x n, xs = [x] ∧ LenV X.K x H n ∧ Q (.int n) H) ∨ ∃ a kvs, xs = [V.ref a] ∧ H a = some (.dK kvs) ∧ Q (.int kvs.length) H) (on1 lenD) := opL_1 fun U G H σ ρ x d c Q R rx hg q => by
  rw [k]
  cases d <;> simp only [lenD] at hg <;> first | (cases hg; done) | skip
  · cases hg
    obtain ⟨rfl, o⟩ := rx.str
    exact .inl ⟨_, _, rfl, ⟨o.1, rfl⟩, q _ G H R (L2.Same.refl _) rfl⟩
  · cases hg
    obtain ⟨a, xs, rfl, h, _, r⟩ := rx.tup R.same
    exact .inl ⟨_, xs.length, rfl, .inr ⟨xs, h, rfl⟩, q _ G H R (L2.Same.refl _) (by rw [r.length]; rfl)⟩
  · cases hg
    obtain ⟨a, xs, rfl, h, r⟩ := rx.lst R.same
    exact .inl ⟨_, xs.length, rfl, .inl ⟨xs, .of h, rfl⟩, q _ G H R (L2.Same.refl _) (by rw [r.length]; rfl)⟩
  · cases hg
    obtain ⟨a, kk, rfl, h, e, _, r⟩ := rx.dct R.same
    rename_i ks vs nd
    have hl : kk.length = ks.length := by have := congrArg List.length e; simpa using this
    exact .inr ⟨a, kk, rfl, h, q _ G H R (L2.Same.refl _) (show V.int _ = V.int _ by rw [hl])⟩
  · cases hg
    obtain ⟨a, xs, rfl, h, r⟩ := rx.scr R.same
    exact .inl ⟨_, xs.length, rfl, .inl ⟨xs, h, rfl⟩, q _ G H R (L2.Same.refl _) (by rw [r.length]; rfl)⟩
theorem j_len (ha : JA X T W [e] f) (hm : X.mg "len" = none) (hgl : Gl X "len" := by rfl) (he : starEach [e] X.env = (false, eval e X.env) :: starEach [] X.env := by rfl) : JE X T W (.Call (.Name "len" p) [e] [] pos) (eCallB (on1 lenD) f) :=
  j_callB (CallR.or call_len call_lenD) (len_J ha.k) ha hm PySem.boot_len hgl (by decide) (by decide) he rfl
def absD : D → Option D
  | .int i => some (.int (if i < 0 then -i else i))
  | _ => none
theorem abs_J : OpL T (fun xs H Q => ∃ i, xs = [.int i] ∧ Q (.int (if i < 0 then -i else i)) H) (on1 absD) := opL_1 fun U G H σ ρ x d c Q R rx hg q => by
  cases d <;> simp only [absD] at hg <;> first | (cases hg; done) | skip
  cases hg
  exact ⟨_, by rw [rx.int], q _ G H R (L2.Same.refl _) rfl⟩
def intD : D → Option D
  | .int i => some (.int i)
  | .bl b => some (.int (if b then 1 else 0))
  | _ => none
theorem int_J : OpL T (fun xs H Q => (∃ i, xs = [.int i] ∧ Q (.int i) H) ∨ ∃ k, xs = [.bl k] ∧ Q (.int (if k then 1 else 0)) H) (on1 intD) := opL_1 fun U G H σ ρ x d c Q R rx hg q => by
  cases d <;> simp only [intD] at hg <;> first | (cases hg; done) | skip
  · cases hg
    exact .inr ⟨_, by rw [rx.bl], q _ G H R (L2.Same.refl _) rfl⟩
  · cases hg
    exact .inl ⟨_, by rw [rx.int], q _ G H R (L2.Same.refl _) rfl⟩
/-- tuple(x) -/
def tupD : D → Option D
  | .tup ds => some (.tup ds)
  | .lst ds => some (.tup ds)
  | _ => none
theorem tup_J (k : X.K = T.K) : OpL T (fun xs H Q => ∃ p ys, xs = [.ref p] ∧ ((SqL X.K H p ys ∧ ∀ l, H l = none → Q (.ref l) (upd H l (.tup ys))) ∨ (SqT X.K H p ys ∧ Q (.ref p) H))) (on1 tupD) := opL_1 fun U G H σ ρ x d c Q R rx hg q => by
  rw [k]
  cases d <;> simp only [tupD] at hg <;> first | (cases hg; done) | skip
  · cases hg
    obtain ⟨a, xs, rfl, h, hG, r⟩ := rx.tup R.same
    exact ⟨a, xs, rfl, .inr ⟨h, q _ G H R (L2.Same.refl _) ⟨a, xs, rfl, hG, r⟩⟩⟩
  · cases hg
    obtain ⟨a, xs, rfl, h, r⟩ := rx.lst R.same
    exact ⟨a, xs, rfl, .inl ⟨.of h, mkTup R r q⟩⟩
/-- list(x) -/
def lstD : D → Option D
  | .tup ds => some (.lst ds)
  | .lst ds => some (.lst ds)
  | _ => none
theorem lst_J (k : X.K = T.K) : OpLO T (fun xs H Q => ∃ p ys, xs = [.ref p] ∧ (SqL X.K H p ys ∨ SqT X.K H p ys) ∧ ∀ l, H l = none → Q (.ref l) (upd H l (.lst ys))) (on1 lstD) := opLO_1 fun U G H σ ρ x d c Q R rx hg q => by
  rw [k]
  cases d <;> simp only [lstD] at hg <;> first | (cases hg; done) | skip
  · cases hg
    obtain ⟨a, xs, rfl, h, hG, r⟩ := rx.tup R.same
    exact ⟨a, xs, rfl, .inr h, mkList R r q⟩
  · cases hg
    obtain ⟨a, xs, rfl, h, r⟩ := rx.lst R.same
    exact ⟨a, xs, rfl, .inl (.of h), mkList R r q⟩
/-- lists of ints, of truths -/
def intsD : List D → Option (List Int)
  | [] => some []
  | .int i :: r => (intsD r).map (i :: ·)
  | _ => none
theorem ints_ok {G : Hp} : ∀ {ds : List D} {xs : List V} {ns : List Int}, Reps T G xs ds → intsD ds = some ns → xs = ns.map V.int
  | [], _, _, r, e => by cases e; exact r
  | d :: ds, _, ns, ⟨x, r, ex, rx, rr⟩, e => by
    cases d <;> simp only [intsD] at e <;> first | (cases e; done) | skip
    rename_i i
    cases e2 : intsD ds with
    | none => rw [e2] at e; cases e
    | some ms =>
      rw [e2] at e
      cases e
      rw [ex, ints_ok rr e2, show x = .int i from rx]; rfl
def blsD : List D → Option (List Bool)
  | [] => some []
  | .bl i :: r => (blsD r).map (i :: ·)
  | _ => none
theorem bls_ok {G : Hp} : ∀ {ds : List D} {xs : List V} {ns : List Bool}, Reps T G xs ds → blsD ds = some ns → xs = ns.map V.bl
  | [], _, _, r, e => by cases e; exact r
  | d :: ds, _, ns, ⟨x, r, ex, rx, rr⟩, e => by
    cases d <;> simp only [blsD] at e <;> first | (cases e; done) | skip
    rename_i i
    cases e2 : blsD ds with
    | none => rw [e2] at e; cases e
    | some ms =>
      rw [e2] at e
      cases e
      rw [ex, bls_ok rr e2, show x = .bl i from rx]; rfl
@[simp] theorem intsD_map (ns : List Int) : intsD (ns.map D.int) = some ns := by
  induction ns with
  | nil => rfl
  | cons a r ih => simp [intsD, ih]
@[simp] theorem blsD_map (ns : List Bool) : blsD (ns.map D.bl) = some ns := by
  induction ns with
  | nil => rfl
  | cons a r ih => simp [blsD, ih]
def onL {α : Type} (rd : List D → Option α) (g : α → Option D) : D → Option D
  | .lst ds => (rd ds).bind g
  | _ => none
def sumD : D → Option D := onL intsD fun ns => some (.int ns.sum)
theorem sum_J (k : X.K = T.K) : OpL T (rSum X.K) (on1 sumD) := opL_1 fun U G H σ ρ x d c Q R rx hg q => by
  rw [k]
  cases d <;> simp only [sumD, onL] at hg <;> first | (cases hg; done) | skip
  rename_i ds
  cases e : intsD ds with
  | none => rw [e] at hg; cases hg
  | some ns =>
    rw [e] at hg
    cases hg
    obtain ⟨a, xs, rfl, h, r⟩ := rx.lst R.same
    exact ⟨a, ns, rfl, .of (by rw [← ints_ok r e]; exact h), q _ G H R (L2.Same.refl _) rfl⟩
def maxL : List Int → Option Int
  | [] => none
  | a :: r => some (r.foldl max a)
def minL : List Int → Option Int
  | [] => none
  | a :: r => some (r.foldl min a)
theorem foldl_max (r : List Int) : ∀ a : Int, (a ≤ r.foldl max a ∧ ∀ y ∈ r, y ≤ r.foldl max a) ∧ (r.foldl max a = a ∨ r.foldl max a ∈ r) := by
  induction r with
  | nil => intro a; simp
  | cons b r ih =>
    intro a
    obtain ⟨⟨h1, h2⟩, h3⟩ := ih (max a b)
    refine ⟨⟨by simp only [List.foldl_cons]; omega, fun y hy => ?_⟩, ?_⟩
    · rcases List.mem_cons.mp hy with rfl | hy
      · simp only [List.foldl_cons]; omega
      · exact h2 y hy
    · simp only [List.foldl_cons]
      rcases h3 with h3 | h3
      · by_cases hab : a ≤ b
        · right; rw [h3, show max a b = b by omega]; exact List.mem_cons_self
        · left; rw [h3]; omega
      · right; exact List.mem_cons_of_mem _ h3
theorem foldl_min (r : List Int) : ∀ a : Int, (r.foldl min a ≤ a ∧ ∀ y ∈ r, r.foldl min a ≤ y) ∧ (r.foldl min a = a ∨ r.foldl min a ∈ r) := by
  induction r with
  | nil => intro a; simp
  | cons b r ih =>
    intro a
    obtain ⟨⟨h1, h2⟩, h3⟩ := ih (min a b)
    refine ⟨⟨by simp only [List.foldl_cons]; omega, fun y hy => ?_⟩, ?_⟩
    · rcases List.mem_cons.mp hy with rfl | hy
      · simp only [List.foldl_cons]; omega
      · exact h2 y hy
    · simp only [List.foldl_cons]
      rcases h3 with h3 | h3
      · by_cases hab : a ≤ b
        · left; rw [h3]; omega
        · right; rw [h3, show min a b = b by omega]; exact List.mem_cons_self
      · right; exact List.mem_cons_of_mem _ h3
theorem maxL_ok {ns : List Int} {m n : Int} (h : maxL ns = some m) (hn : n ∈ ns) (hh : ∀ y, y ∈ ns → y ≤ n) : n = m := by
  cases ns with
  | nil => cases h
  | cons a r =>
    cases h
    obtain ⟨⟨h1, h2⟩, h3⟩ := foldl_max r a
    have q : n ≤ r.foldl max a := by
      rcases List.mem_cons.mp hn with rfl | hn
      · exact h1
      · exact h2 n hn
    have q2 : r.foldl max a ≤ n := by
      rcases h3 with h3 | h3
      · rw [h3]; exact hh a List.mem_cons_self
      · exact hh _ (List.mem_cons_of_mem _ h3)
    omega
theorem minL_ok {ns : List Int} {m n : Int} (h : minL ns = some m) (hn : n ∈ ns) (hh : ∀ y, y ∈ ns → n ≤ y) : n = m := by
  cases ns with
  | nil => cases h
  | cons a r =>
    cases h
    obtain ⟨⟨h1, h2⟩, h3⟩ := foldl_min r a
    have q : r.foldl min a ≤ n := by
      rcases List.mem_cons.mp hn with rfl | hn
      · exact h1
      · exact h2 n hn
    have q2 : n ≤ r.foldl min a := by
      rcases h3 with h3 | h3
      · rw [h3]; exact hh a List.mem_cons_self
      · exact hh _ (List.mem_cons_of_mem _ h3)
    omega
def maxD : D → Option D := onL intsD fun ns => (maxL ns).map D.int
def minD : D → Option D := onL intsD fun ns => (minL ns).map D.int
theorem max_J (k : X.K = T.K) : OpL T (rMax X.K) (on1 maxD) := opL_1 fun U G H σ ρ x d c Q R rx hg q => by
  rw [k]
  cases d <;> simp only [maxD, onL] at hg <;> first | (cases hg; done) | skip
  rename_i ds
  cases e : intsD ds with
  | none => rw [e] at hg; cases hg
  | some ns =>
    rw [e] at hg
    simp only [Option.bind_some] at hg
    cases e2 : maxL ns with
    | none => rw [e2] at hg; cases hg
    | some m =>
      rw [e2] at hg
      cases hg
      obtain ⟨a, xs, rfl, h, r⟩ := rx.lst R.same
      refine ⟨a, ns, rfl, .of (by rw [← ints_ok r e]; exact h), by cases ns <;> simp_all [maxL], fun n h1 h2 => ?_⟩
      rw [maxL_ok e2 h1 h2]
      exact q _ G H R (L2.Same.refl _) rfl
theorem min_J (k : X.K = T.K) : OpL T (rMin X.K) (on1 minD) := opL_1 fun U G H σ ρ x d c Q R rx hg q => by
  rw [k]
  cases d <;> simp only [minD, onL] at hg <;> first | (cases hg; done) | skip
  rename_i ds
  cases e : intsD ds with
  | none => rw [e] at hg; cases hg
  | some ns =>
    rw [e] at hg
    simp only [Option.bind_some] at hg
    cases e2 : minL ns with
    | none => rw [e2] at hg; cases hg
    | some m =>
      rw [e2] at hg
      cases hg
      obtain ⟨a, xs, rfl, h, r⟩ := rx.lst R.same
      refine ⟨a, ns, rfl, .of (by rw [← ints_ok r e]; exact h), by cases ns <;> simp_all [minL], fun n h1 h2 => ?_⟩
      rw [minL_ok e2 h1 h2]
      exact q _ G H R (L2.Same.refl _) rfl
def max2D : D → D → Option D
  | .int i, .int j => some (.int (if j > i then j else i))
  | _, _ => none
def min2D : D → D → Option D
  | .int i, .int j => some (.int (if j < i then j else i))
  | _, _ => none
theorem max2_J : OpL T (fun xs H Q => ∃ i j, xs = [.int i, .int j] ∧ Q (.int (if j > i then j else i)) H) (on2 max2D) := opL_2 fun U G H σ ρ x y d e c Q R rx ry hg q => by
  cases d <;> cases e <;> simp only [max2D] at hg <;> first | (cases hg; done) | skip
  cases hg
  exact ⟨_, _, by rw [rx.int, ry.int], q _ G H R (L2.Same.refl _) rfl⟩
theorem min2_J : OpL T (fun xs H Q => ∃ i j, xs = [.int i, .int j] ∧ Q (.int (if j < i then j else i)) H) (on2 min2D) := opL_2 fun U G H σ ρ x y d e c Q R rx ry hg q => by
  cases d <;> cases e <;> simp only [min2D] at hg <;> first | (cases hg; done) | skip
  cases hg
  exact ⟨_, _, by rw [rx.int, ry.int], q _ G H R (L2.Same.refl _) rfl⟩
def anyD : D → Option D := onL blsD fun bs => some (.bl (bs.any _root_.id))
def allD : D → Option D := onL blsD fun bs => some (.bl (bs.all _root_.id))
theorem any_J (k : X.K = T.K) : OpL T (rAny X.K) (on1 anyD) := opL_1 fun U G H σ ρ x d c Q R rx hg q => by
  rw [k]
  cases d <;> simp only [anyD, onL] at hg <;> first | (cases hg; done) | skip
  rename_i ds
  cases e : blsD ds with
  | none => rw [e] at hg; cases hg
  | some ns =>
    rw [e] at hg
    cases hg
    obtain ⟨a, xs, rfl, h, r⟩ := rx.lst R.same
    exact ⟨a, ns, rfl, .of (by rw [← bls_ok r e]; exact h), q _ G H R (L2.Same.refl _) rfl⟩
theorem all_J (k : X.K = T.K) : OpL T (rAll X.K) (on1 allD) := opL_1 fun U G H σ ρ x d c Q R rx hg q => by
  rw [k]
  cases d <;> simp only [allD, onL] at hg <;> first | (cases hg; done) | skip
  rename_i ds
  cases e : blsD ds with
  | none => rw [e] at hg; cases hg
  | some ns =>
    rw [e] at hg
    cases hg
    obtain ⟨a, xs, rfl, h, r⟩ := rx.lst R.same
    exact ⟨a, ns, rfl, .of (by rw [← bls_ok r e]; exact h), q _ G H R (L2.Same.refl _) rfl⟩
def strD : D → Option D
  | .int i => if i.natAbs.log2 < 1920 then some (.str (toString i)) else none
  | _ => none
end

/-! ### isinstance -/
section
variable {X : Cx} {T : Tab} {W : WX}
def tyN : D → Option String
  | .non => some "NoneType"
  | .bl _ => some "bool"
  | .int _ => some "int"
  | .str _ => some "str"
  | .tup _ => some "tuple"
  | .lst _ => some "list"
  | .dct _ _ => some "dict"
  | .scr _ => some "list"
  | _ => none
theorem ty_ok {G H : Hp} {v : V} {d : D} {t : String} (s : L2.Same G H) (r : RepH T G H v d) (e : tyN d = some t) : TyX T.K H v (.type t) := by
  cases d <;> simp only [tyN] at e <;> first | (cases e; done) | skip
  · cases e; rw [r.non]; exact .base .non
  · cases e; rw [r.bl]; exact .base (.bl _)
  · cases e; rw [r.int]; exact .base (.int _)
  · cases e; rw [r.str.1]; exact .base (.str _)
  · cases e
    obtain ⟨a, xs, rfl, h, _, _⟩ := r.tup s
    rcases h with (h | ⟨o, h⟩) | ⟨o, its, n, hk, hc, _⟩
    · exact .base (.tup h)
    · exact .fTuple h
    · exact .kTuple hk hc
  · cases e
    obtain ⟨a, xs, rfl, h, _⟩ := r.lst s
    exact .base (.lst h)
  · cases e
    obtain ⟨a, kk, rfl, h, _⟩ := r.dct s
    exact .base (.dK h)
  · cases e
    obtain ⟨a, xs, rfl, h, _⟩ := r.scr s
    rcases h with (h | ⟨o, h⟩) | ⟨o, its, n, hk, hc, _⟩
    · exact .base (.lst h)
    · exact .base (.frz h)
    · exact .kList hk hc
/-- isinstance(x, t) -/
def isTD (t : String) (d : D) : Option D := (tyN d).bind fun a => (kitB a t).map D.bl
/-- isinstance(x, (t, ..)) -/
def anyTD : List String → String → Option Bool
  | [], _ => some false
  | t :: ts, a => match kitB a t with
    | some true => some true
    | some false => anyTD ts a
    | none => none
def isTsD (ts : List String) (d : D) : Option D := (tyN d).bind fun a => (anyTD ts a).map D.bl
theorem kitAny_ok {K : PySem.W.Frag} : ∀ {ts : List String} {a : String} {b : Bool}, anyTD ts a = some b → PySem.W.kitAny K (.type a) (ts.map Value.type) = some b
  | [], a, b, h => by cases h; rfl
  | t :: ts, a, b, h => by
    simp only [anyTD] at h
    cases e : kitB a t with
    | none => rw [e] at h; cases h
    | some c =>
      rw [e] at h
      cases c with
      | true => cases h; exact kitAny_cons (kit_ty e) (fun z => by cases z) (fun _ => rfl)
      | false => exact kitAny_cons (kit_ty e) (fun _ => kitAny_ok h) (fun z => by cases z)
end
end J

set_option Elab.async false
set_option linter.all false
set_option maxRecDepth 100000
set_option maxHeartbeats 4000000
namespace J
open PySem PySem.Spec PyProof.Rows L2
section
variable {X : Cx} {T : Tab} {W : WX}
/-! ### places and slices -/
theorem Reps.atI {G : Hp} {ds : List D} {xs : List V} {i : Int} {d : D} (r : Reps T G xs ds) (h : L2.atI ds i = some d) : ∃ x, L2.atI xs i = some x ∧ Rep T G x d := by
  unfold L2.atI at h ⊢
  rw [r.length]
  cases e : ixN ds.length i with
  | none => rw [e] at h; cases h
  | some j =>
    rw [e] at h
    exact r.getD (show ds[j]? = some d from h)
def sign (c : Nat) : Str := ⟨#[c]⟩
def ixD : D → D → Option D
  | .lst ds, .int i => atI ds i
  | .tup ds, .int i => atI ds i
  | .scr ds, .int i => atI ds i
  | .str z, .int i => (atI z.cps.toList i).map fun c => .str (sign c)
  | _, _ => none
theorem SOk.sign {z : Str} (h : SOk z) {c : Nat} (hc : c ∈ z.cps.toList) : SOk (sign c) := by
  refine ⟨by show 1 ≤ sizeLine; rw [sizeLine_eq]; omega, ?_⟩
  have h2 : z.cps.all (· < 0x110000) = true := h.2
  rw [← Array.all_toList, List.all_eq_true] at h2
  show (#[c] : Array Nat).all (· < 0x110000) = true
  have := h2 c hc
  simpa using this
theorem atI_mem {α : Type} {xs : List α} {i : Int} {c : α} (h : L2.atI xs i = some c) : c ∈ xs := by
  unfold L2.atI at h
  cases e : ixN xs.length i with
  | none => rw [e] at h; cases h
  | some j => rw [e] at h; exact List.mem_of_getElem? (show xs[j]? = some c from h)
theorem ix_J (k : X.K = T.K) : Op2 T (rIx X.K) ixD := by
  intro U G H σ ρ x y d e c Q R rx ry hg q
  rw [k]
  cases d <;> cases e <;> simp only [ixD] at hg <;> first | (cases hg; done) | skip
  · rename_i z i
    cases e : atI z.cps.toList i with
    | none => rw [e] at hg; cases hg
    | some cc =>
      rw [e] at hg
      cases hg
      obtain ⟨rfl, o⟩ := rx.str
      exact .inr (.inr ⟨z, i, cc, rfl, ry.int, o.1, e, q _ G H R (L2.Same.refl _) ⟨rfl, o.sign (atI_mem e)⟩⟩)
  · obtain ⟨a, xs, rfl, h, hG, r⟩ := rx.tup R.same
    obtain ⟨v, e, rv⟩ := r.atI hg
    exact .inr (.inl ⟨a, xs, _, v, rfl, ry.int, h, e, q _ G H R (L2.Same.refl _) rv⟩)
  · obtain ⟨a, xs, rfl, h, r⟩ := rx.lst R.same
    obtain ⟨v, e, rv⟩ := r.atI hg
    exact .inl ⟨a, xs, _, v, rfl, ry.int, .of h, e, q _ G H R (L2.Same.refl _) rv⟩
  · obtain ⟨a, xs, rfl, h, r⟩ := rx.scr R.same
    obtain ⟨v, e, rv⟩ := r.atI hg
    exact .inl ⟨a, xs, _, v, rfl, ry.int, h, e, q _ G H R (L2.Same.refl _) rv⟩
theorem j_ix {a b : Expr} {pos : Pos} {fa fb : En → Rs Ar} (ha : JR X T W a fa) (hb : JR X T W b fb) (hs : PlainIx b := by exact fun _ _ => rfl) : JE X T W (.Subscript a b pos) (f2 ixD fa fb) :=
  ⟨ha.k, pe_imp (pe_ix ix_seq ha.run hb.run hs) (op2_run (a := a) (b := b) (ix_J ha.k) rfl rfl)⟩
/-- a part of a slice -/
structure JP (X : Cx) (T : Tab) (W : WX) (e : Option Expr) (f : En → Rs (Option Int)) : Prop where
  run : PO X e (fun σ H Q => ∃ U G ρ, Rel T U G H σ ρ ∧ Pst T U σ G (f ρ) (fun o _ H' _ => Q o H') W)
theorem po_imp {X : Cx} {e : Option Expr} {t t' : TO} (h : PO X e t) (hi : ∀ σ H Q, t' σ H Q → t σ H Q) : PO X e t' := ⟨fun pins s σ H Q I q => h.run pins s σ H Q I (hi _ _ _ q)⟩
def pNo : En → Rs (Option Int) := fun ρ => .ok none ρ
def pSome (f : EF) : En → Rs (Option Int) := fun ρ => (f ρ).bnd fun d ρ' => match d with
  | .int i => .ok (some i) ρ'
  | _ => .bad
theorem jp_no : JP X T W none pNo := ⟨po_imp po_none fun σ H Q ⟨U, G, ρ, R, q⟩ => q G H R (L2.Same.refl _)⟩
theorem jp_some {e : Expr} {f : EF} (h : JE X T W e f) : JP X T W (some e) (pSome f) := by
  refine ⟨po_imp (po_some h.run) fun σ H Q ⟨U, G, ρ, R, q⟩ => ?_⟩
  refine ⟨U, G, ρ, R, (Pst.bnd q).mono (L2.Same.refl _) fun d G1 H1 ρ1 _ ⟨R1, s1, p⟩ v r => ?_⟩
  cases d with
  | int i => exact ⟨i, r, p G1 H1 R1 (L2.Same.refl _)⟩
  | _ => exact p.elim
def cutL {α : Type} (xs : List α) (lo hi : Option Int) : List α := (xs.drop (HT.sIx xs.length 0 lo)).take (HT.sIx xs.length xs.length hi - HT.sIx xs.length 0 lo)
def cutD (lo hi : Option Int) : D → Option D
  | .lst ds => some (.lst (cutL ds lo hi))
  | .tup ds => some (.tup (cutL ds lo hi))
  | .str z => some (.str (cutS z lo hi))
  | _ => none
theorem Reps.cut {G : Hp} {ds : List D} {xs : List V} {lo hi : Option Int} (r : Reps T G xs ds) : Reps T G (cutV xs lo hi) (cutL ds lo hi) := by
  unfold cutV cutL
  rw [r.length]
  exact (r.drop _).take _
theorem cutL_whole {α : Type} {xs : List α} {lo hi : Option Int} (h : HT.sIx xs.length 0 lo = 0 ∧ HT.sIx xs.length xs.length hi = xs.length) : cutL xs lo hi = xs := by
  unfold cutL
  rw [h.1, h.2]
  simp
theorem SOk.cut {z : Str} (h : SOk z) (lo hi : Option Int) : SOk (cutS z lo hi) := by
  have hl : z.cps.toList.length = z.length := by simp [Str.length]
  refine ⟨?_, ?_⟩
  · show (cutS z lo hi).cps.size ≤ sizeLine
    unfold cutS
    rw [List.size_toArray, List.length_take, List.length_drop, hl]
    have := h.1
    omega
  · have h2 : z.cps.all (· < 0x110000) = true := h.2
    rw [← Array.all_toList, List.all_eq_true] at h2
    show (cutS z lo hi).cps.all (· < 0x110000) = true
    rw [← Array.all_toList, List.all_eq_true]
    intro c hc
    unfold cutS at hc
    exact h2 c (List.mem_of_mem_drop (List.mem_of_mem_take hc))
def eCut (fa : En → Rs Ar) (fl fh : En → Rs (Option Int)) : EF := fun ρ => (fa ρ).bnd fun a ρ1 => (fl ρ1).bnd fun lo ρ2 => (fh ρ2).bnd fun hi ρ3 => match look ρ3 a with
  | some d => opt (cutD lo hi d) ρ3
  | none => .bad
abbrev rSlJ (K : PySem.W.Frag) : V → Option Int → Option Int → Hp → VK → Prop := fun x lo hi H Q => rSlL K x lo hi H Q ∨ rSlA K x lo hi H Q ∨ rSlS x lo hi H Q
theorem sl_J : SlR X (rSlJ X.K) := SlR.or sl_list (SlR.or sl_tupA sl_str)
theorem j_slice {a : Expr} {lo hi : Option Expr} {p2 pos : Pos} {fa : En → Rs Ar} {fl fh : En → Rs (Option Int)} (ha : JR X T W a fa) (hl : JP X T W lo fl) (hh : JP X T W hi fh) : JE X T W (.Subscript a (.Slice lo hi none p2) pos) (eCut fa fl fh) := by
  refine ⟨ha.k, pe_imp (pe_slice sl_J ha.run hl.run hh.run) fun σ H Q ⟨U, G, ρ, R, q⟩ => ?_⟩
  refine ⟨U, G, ρ, R, (Pst.bnd q).mono (L2.Same.refl _) fun d G1 H1 ρ1 _ ⟨R1, s1, p1⟩ v av => ?_⟩
  refine ⟨U, G1, ρ1, R1, (Pst.bnd p1).mono (L2.Same.refl _) fun l G2 H2 ρ2 _ ⟨R2, s2, p2⟩ => ?_⟩
  refine ⟨U, G2, ρ2, R2, (Pst.bnd p2).mono (L2.Same.refl _) fun u G3 H3 ρ3 _ ⟨R3, s3, p3⟩ => ?_⟩
  cases e : look ρ3 d with
  | none => rw [e] at p3; exact p3.elim
  | some dd =>
    rw [e] at p3
    obtain ⟨c, e2, p⟩ := Pst.opt p3
    have rx := look_ok R3 (av.mono (s2.trans s3)) e
    rw [ha.k]
    cases dd <;> simp only [cutD] at e2 <;> first | (cases e2; done) | skip
    · cases e2
      obtain ⟨rfl, o⟩ := rx.str
      exact .inr (.inr ⟨_, rfl, o.1, p G3 H3 R3 (L2.Same.refl _) _ ⟨rfl, o.cut l u⟩⟩)
    · cases e2
      rename_i ds _
      obtain ⟨b, xs, rfl, h, hG, r⟩ := rx.tup R3.same
      refine .inr (.inl ⟨b, xs, rfl, h, fun hw => ?_, fun _ => mkTup R3 r.cut fun v G' H' R' s' rv => p G' H' R' s' v rv⟩)
      refine p G3 H3 R3 (L2.Same.refl _) _ ⟨b, xs, rfl, hG, ?_⟩
      rw [r.length] at hw
      rw [cutL_whole hw]
      exact r
    · cases e2
      obtain ⟨b, xs, rfl, h, r⟩ := rx.lst R3.same
      refine .inl ⟨b, xs, rfl, .of h, fun lp hlp => ?_⟩
      have s := same_upd (o := .lst (cutV xs l u)) (R3.gfree hlp)
      exact p _ _ (R3.alloc hlp) s _ ⟨lp, _, rfl, upd_same, r.cut.mono s⟩

/-! ### isinstance -/
def eIsT (t : String) (f : En → Rs Ar) : EF := fun ρ => (f ρ).bnd fun a ρ1 => match look ρ1 a with
  | some d => opt (isTD t d) ρ1
  | none => .bad
def eIsTs (ts : List String) (f : En → Rs Ar) : EF := fun ρ => (f ρ).bnd fun a ρ1 => match look ρ1 a with
  | some d => opt (isTsD ts d) ρ1
  | none => .bad
theorem j_isT {a b : Expr} {p pos : Pos} {t : String} {f : En → Rs Ar} (ha : JR X T W a f) (hb : PE X b (tC (.ty t))) (hm : X.mg "isinstance" = none) (hgl : Gl X "isinstance" := by rfl)
    (hs : starEach [a, b] X.env = (false, eval a X.env) :: starEach [b] X.env := by rfl) (hs2 : starEach [b] X.env = (false, eval b X.env) :: starEach [] X.env := by rfl) (hpl : (backTo pos (starEach [b] X.env)).any (·.1) = false := by rfl) :
    JE X T W (.Call (.Name "isinstance" p) [a, b] [] pos) (eIsT t f) := by
  refine ⟨ha.k, pe_imp (pe_callB call_isi hgl hm (by decide +kernel) (pa_cons ha.run (pa_cons hb pa_nil hs2) hs) (by decide) (by decide) hs hpl) fun σ H Q ⟨U, G, ρ, R, q⟩ => ?_⟩
  refine ⟨U, G, ρ, R, (Pst.bnd q).mono (L2.Same.refl _) fun d G1 H1 ρ1 _ ⟨R1, s1, p1⟩ v av => ?_⟩
  cases e : look ρ1 d with
  | none => rw [e] at p1; exact p1.elim
  | some dd =>
    rw [e] at p1
    obtain ⟨c, e2, p2⟩ := Pst.opt p1
    have rx := look_ok R1 av e
    unfold isTD at e2
    cases e3 : tyN dd with
    | none => rw [e3] at e2; cases e2
    | some ty =>
      rw [e3] at e2
      simp only [Option.bind_some] at e2
      cases e4 : kitB ty t with
      | none => rw [e4] at e2; cases e2
      | some b =>
        rw [e4] at e2
        cases e2
        rw [ha.k]
        exact ⟨v, .ty t, _, .type t, b, rfl, .ty t, ty_ok R1.same rx e3, kit_ty e4, p2 G1 H1 R1 (L2.Same.refl _) _ rfl⟩
theorem clsV_tys : ∀ ts : List String, Paired ClsV (ts.map V.ty) (ts.map Value.type)
  | [] => .nil
  | t :: ts => .cons (.ty t) (clsV_tys ts)
/-- the tuple of built-in classes that is written as the second argument -/
theorem j_isTs {a b : Expr} {p pos : Pos} {ts : List String} {f : En → Rs Ar} (ha : JR X T W a f) (hb : PE X b (fun σ H Q => ∀ l, H l = none → Q (.ref l) (upd H l (.tup (ts.map V.ty))))) (hm : X.mg "isinstance" = none) (hgl : Gl X "isinstance" := by rfl)
    (hs : starEach [a, b] X.env = (false, eval a X.env) :: starEach [b] X.env := by rfl) (hs2 : starEach [b] X.env = (false, eval b X.env) :: starEach [] X.env := by rfl) (hpl : (backTo pos (starEach [b] X.env)).any (·.1) = false := by rfl) :
    JE X T W (.Call (.Name "isinstance" p) [a, b] [] pos) (eIsTs ts f) := by
  refine ⟨ha.k, pe_imp (pe_callB call_isiT hgl hm (by decide +kernel) (pa_cons ha.run (pa_cons hb pa_nil hs2) hs) (by decide) (by decide) hs hpl) fun σ H Q ⟨U, G, ρ, R, q⟩ => ?_⟩
  refine ⟨U, G, ρ, R, (Pst.bnd q).mono (L2.Same.refl _) fun d G1 H1 ρ1 _ ⟨R1, s1, p1⟩ v av => fun l hl => ?_⟩
  cases e : look ρ1 d with
  | none => rw [e] at p1; exact p1.elim
  | some dd =>
    rw [e] at p1
    obtain ⟨c, e2, p2⟩ := Pst.opt p1
    have s := same_upd (o := .tup (ts.map V.ty)) (R1.gfree hl)
    have R2 := R1.alloc (o := .tup (ts.map V.ty)) hl
    have rx := look_ok R2 (av.mono s) e
    unfold isTsD at e2
    cases e3 : tyN dd with
    | none => rw [e3] at e2; cases e2
    | some ty =>
      rw [e3] at e2
      simp only [Option.bind_some] at e2
      cases e4 : anyTD ts ty with
      | none => rw [e4] at e2; cases e2
      | some b =>
        rw [e4] at e2
        cases e2
        rw [ha.k]
        exact ⟨v, l, _, _, _, b, rfl, upd_same, clsV_tys ts, ty_ok R2.same rx e3, kitAny_ok e4, p2 _ _ R2 s _ rfl⟩
theorem ty1 {x : Str} {t : String} {pos : Pos} (hm : X.mg x = none) (hv : bootBuiltins x = some (.type t)) (hgl : Gl X x := by rfl) (hn : x ≠ "__name__" := by decide) (hd : (x == ("__debug__" : Str)) = false := by decide) : PE X (.Name x pos) (tC (.ty t)) := pe_bltn hgl hm hv rfl hn hd
theorem ty2 {a b : Expr} {t u : String} {x1} {pos : Pos} (ha : PE X a (tC (.ty t))) (hb : PE X b (tC (.ty u))) (hs : starEach [a, b] X.env = (false, eval a X.env) :: starEach [b] X.env := by rfl) (hs2 : starEach [b] X.env = (false, eval b X.env) :: starEach [] X.env := by rfl) :
    PE X (.Tuple [a, b] x1 pos) (fun σ H Q => ∀ l, H l = none → Q (.ref l) (upd H l (.tup ([t, u].map V.ty)))) :=
  pe_imp (pe_tup (pa_cons ha (pa_cons hb pa_nil hs2) hs)) fun σ H Q q => ⟨by show 2 ≤ sizeLine; rw [sizeLine_eq]; omega, q⟩
end
end J

set_option Elab.async false
set_option linter.all false
set_option maxRecDepth 100000
set_option maxHeartbeats 4000000
namespace J
open PySem PySem.Spec PyProof.Rows L2
section
variable {X : Cx} {T : Tab} {W : WX}
theorem Keeps.refl (ws : List Nat) (σ : L2.St) : Keeps ws σ σ := ⟨rfl, fun _ _ => rfl⟩
theorem Keeps.trans {ws : List Nat} {σ σ' σ'' : L2.St} (a : Keeps ws σ σ') (b : Keeps ws σ' σ'') : Keeps ws σ σ'' := ⟨b.1.trans a.1, fun j h => (b.2 j h).trans (a.2 j h)⟩
theorem Keeps.mono {ws ws' : List Nat} {σ σ' : L2.St} (a : Keeps ws σ σ') (h : ∀ j, j ∈ ws → j ∈ ws') : Keeps ws' σ σ' := ⟨a.1, fun j hj => a.2 j fun z => hj (h j z)⟩
theorem Keeps.set {i : Nat} {σ : L2.St} {v : Option V} : Keeps [i] σ (σ.set i v) := ⟨by simp, fun j h => set_get_ne (by simpa using h)⟩
theorem PstS.mono {ws ws' : List Nat} {D D' : Ends} {U G G1 : Hp} {σ σ1 : L2.St} {r : Rs Fl} (h : PstS T W ws D U σ G r) (s : L2.Same G G1) (k : Keeps ws σ σ1) (hn : ∀ σ' H', D.nx σ' H' → D'.nx σ' H') (hr : ∀ v H', D.rt v H' → D'.rt v H') : PstS T W ws D' U σ1 G1 r := by
  cases r with
  | ok a ρ' =>
    cases a with
    | nx => exact fun σ' G' H' R s' k' => hn _ _ (h σ' G' H' R (s.trans s') (k.trans k'))
    | rt d => exact fun v σ' G' H' R s' k' r => hr _ _ (h v σ' G' H' R (s.trans s') (k.trans k') r)
  | ex c ns vs ρ' => exact fun cls dx σ' G' H' R s' k' x => h cls dx σ' G' H' R (s.trans s') (k.trans k') x
  | bad => exact h
theorem PstS.wide {ws ws' : List Nat} {D : Ends} {U G : Hp} {σ : L2.St} {r : Rs Fl} (h : PstS T W ws' D U σ G r) (hw : ∀ j, j ∈ ws → j ∈ ws') : PstS T W ws D U σ G r := by
  cases r with
  | ok a ρ' =>
    cases a with
    | nx => exact fun σ' G' H' R s' k' => h σ' G' H' R s' (k'.mono hw)
    | rt d => exact fun v σ' G' H' R s' k' r => h v σ' G' H' R s' (k'.mono hw) r
  | ex c ns vs ρ' => exact fun cls dx σ' G' H' R s' k' x => h cls dx σ' G' H' R s' (k'.mono hw) x
  | bad => exact h
/-- an expression first -/
theorem PstS.bndE {α : Type} {ws : List Nat} {D : Ends} {U G : Hp} {σ : L2.St} {r : Rs α} {k : α → En → Rs Fl} (h : PstS T W ws D U σ G (r.bnd k)) :
    Pst T U σ G r (fun a G' H' ρ' => Rel T U G' H' σ ρ' ∧ L2.Same G G' ∧ PstS T W ws D U σ G' (k a ρ')) W := by
  cases r with
  | ok a ρ' => exact fun G' H' R s => ⟨R, s, PstS.mono (r := k a ρ') (ws' := ws) h s (Keeps.refl _ _) (fun _ _ z => z) fun _ _ z => z⟩
  | ex c ns vs ρ' => exact fun cls dx G' H' R s x => h cls dx σ G' H' R s (Keeps.refl _ _) x
  | bad => exact h
/-- a statement first -/
def Rs.sq (r : Rs Fl) (k : SF) : Rs Fl := r.bnd fun fl ρ => match fl with
  | .nx => k ρ
  | .rt d => .ok (.rt d) ρ
@[simp] theorem Rs.sq_nx (ρ : En) (k : SF) : (Rs.ok .nx ρ : Rs Fl).sq k = k ρ := rfl
@[simp] theorem Rs.sq_rt (d : D) (ρ : En) (k : SF) : (Rs.ok (.rt d) ρ : Rs Fl).sq k = .ok (.rt d) ρ := rfl
@[simp] theorem Rs.sq_ex (c : Nat) (ns : List Nat) (vs : List D) (ρ : En) (k : SF) : (Rs.ex c ns vs ρ : Rs Fl).sq k = .ex c ns vs ρ := rfl
@[simp] theorem Rs.sq_bad (k : SF) : (Rs.bad : Rs Fl).sq k = .bad := rfl
theorem PstS.sq {ws : List Nat} {D : Ends} {U G : Hp} {σ : L2.St} {r : Rs Fl} {k : SF} (h : PstS T W ws D U σ G (r.sq k)) {D' : Ends} (hr : ∀ v H', D.rt v H' → D'.rt v H')
    (hn : ∀ σ' G' H' ρ', Rel T U G' H' σ' ρ' → L2.Same G G' → Keeps ws σ σ' → PstS T W ws D U σ' G' (k ρ') → D'.nx σ' H') : PstS T W ws D' U σ G r := by
  cases r with
  | ok a ρ' =>
    cases a with
    | nx => exact fun σ' G' H' R s k' => hn σ' G' H' ρ' R s k' (PstS.mono (r := k ρ') (ws' := ws) h s k' (fun _ _ z => z) fun _ _ z => z)
    | rt d => exact fun v σ' G' H' R s k' r => hr _ _ (h v σ' G' H' R s k' r)
  | ex c ns vs ρ' => exact h
  | bad => exact h

/-! ### blocks -/
def sNil : SF := fun ρ => .ok .nx ρ
def sCons (f g : SF) : SF := fun ρ => (f ρ).sq g
theorem js_nil (k : X.K = T.K) : JSs X T W [] [] sNil := by
  refine ⟨k, pss_imp pss_nil fun D σ H ⟨U, G, ρ, R, q⟩ => ?_⟩
  exact q σ G H R (L2.Same.refl _) (Keeps.refl _ _)
theorem js_cons {st : Stmt} {sts : List Stmt} {ws ws' : List Nat} {f g : SF} (h : JS X T W ws st f) (h' : JSs X T W ws' sts g) : JSs X T W (ws ++ ws') (st :: sts) (sCons f g) := by
  refine ⟨h.k, pss_imp (pss_cons h.run h'.run) fun D σ H ⟨U, G, ρ, R, q⟩ => ?_⟩
  refine ⟨U, G, ρ, R, PstS.wide (ws' := ws ++ ws') ?_ fun j hj => List.mem_append_left _ hj⟩
  refine PstS.sq q (fun _ _ z => z) fun σ' G' H' ρ' R' s' k' p => ?_
  exact ⟨U, G', ρ', R', p.wide fun j hj => List.mem_append_right _ hj⟩
theorem js_one {st : Stmt} {ws : List Nat} {f : SF} (h : JS X T W ws st f) : JSs X T W ws [st] f := ⟨h.k, pss_one h.run⟩
theorem j_pass (k : X.K = T.K) {pos : Pos} : JS X T W [] (.Pass pos) sNil := by
  refine ⟨k, ps_imp ps_pass fun D σ H ⟨U, G, ρ, R, q⟩ => ?_⟩
  exact q σ G H R (L2.Same.refl _) (Keeps.refl _ _)
theorem j_doc (k : X.K = T.K) {x j pos pos'} : JS X T W [] (.Expr (.Constant (.str x) j pos) pos') sNil := by
  refine ⟨k, ps_imp ps_doc fun D σ H ⟨U, G, ρ, R, q⟩ => ?_⟩
  exact q σ G H R (L2.Same.refl _) (Keeps.refl _ _)
def sExpr (f : EF) : SF := fun ρ => (f ρ).bnd fun _ ρ' => .ok .nx ρ'
theorem j_expr {e : Expr} {pos : Pos} {f : EF} (h : JE X T W e f) (hs : swapsWith e none pos.line X.env = pure false := by rfl) : JS X T W [] (.Expr e pos) (sExpr f) := by
  refine ⟨h.k, ps_imp (ps_expr h.run hs) fun D σ H ⟨U, G, ρ, R, q⟩ => ?_⟩
  refine ⟨U, G, ρ, R, (PstS.bndE q).mono (L2.Same.refl _) fun d G' H' ρ' _ ⟨R', s, p⟩ v r => ?_⟩
  exact p σ G' H' R' (L2.Same.refl _) (Keeps.refl _ _)
def sRet (f : EF) : SF := fun ρ => (f ρ).bnd fun d ρ' => .ok (.rt d) ρ'
theorem j_ret {e : Expr} {pos : Pos} {f : EF} (h : JE X T W e f) : JS X T W [] (.Return (some e) pos) (sRet f) := by
  refine ⟨h.k, ps_imp (ps_ret h.run) fun D σ H ⟨U, G, ρ, R, q⟩ => ?_⟩
  refine ⟨U, G, ρ, R, (PstS.bndE q).mono (L2.Same.refl _) fun d G' H' ρ' _ ⟨R', s, p⟩ v r => ?_⟩
  exact p v σ G' H' R' (L2.Same.refl _) (Keeps.refl _ _) r
def sIf (t : TF) (f g : SF) : SF := fun ρ => (t ρ).bnd fun b ρ' => if b = true then f ρ' else g ρ'
theorem j_ifs {c : Expr} {a b : List Stmt} {pos : Pos} {t : TF} {f g : SF} {ws ws' : List Nat} (hc : JT X T W c t) (ha : JSs X T W ws a f) (hb : JSs X T W ws' b g) : JS X T W (ws ++ ws') (.If c a b pos) (sIf t f g) := by
  refine ⟨hc.k, ps_imp (ps_if hc.run ha.run hb.run) fun D σ H ⟨U, G, ρ, R, q⟩ => ?_⟩
  refine ⟨U, G, ρ, R, (PstS.bndE q).mono (L2.Same.refl _) fun d G' H' ρ' _ ⟨R', s, p⟩ => ?_⟩
  cases d with
  | true => exact ⟨U, G', ρ', R', PstS.wide p fun j hj => List.mem_append_left _ hj⟩
  | false => exact ⟨U, G', ρ', R', PstS.wide p fun j hj => List.mem_append_right _ hj⟩

/-! ### stores -/
def sSet (i : Nat) (f : EF) : SF := fun ρ => (f ρ).bnd fun d ρ' => .ok .nx (ρ'.set i (.sh d))
def sSetO (i : Nat) (f : EF) : SF := fun ρ => (f ρ).bnd fun d ρ' => .ok .nx (ρ'.set i (.ow d))
theorem j_set {i : Nat} {x : Str} {e : Expr} {pos pos' : Pos} {f : EF} (hN : X.N.Nodup) (h : JE X T W e f) (hi : X.N[i]? = some x := by rfl) (hx : Loc X.env.scope x := by first | exact Or.inl rfl | exact Or.inr rfl)
    (hs : swapsWith e (some (.Name x pos')) pos.line X.env = pure false := by rfl) (hf : X.fn x = true ∨ X.env.scope.names.lookup x = some .local := by first | exact .inl rfl | exact .inr rfl) : JS X T W [i] (.Assign [.Name x pos'] e pos) (sSet i f) := by
  refine ⟨h.k, ps_imp (ps_set hN hi hx h.run hs hf) fun D σ H ⟨U, G, ρ, R, q⟩ => ?_⟩
  refine ⟨U, G, ρ, R, (PstS.bndE q).mono (L2.Same.refl _) fun d G' H' ρ' _ ⟨R', s, p⟩ v r => ?_⟩
  exact p _ G' H' (R'.setSh r) (L2.Same.refl _) Keeps.set
theorem j_setO {i : Nat} {x : Str} {e : Expr} {pos pos' : Pos} {f : EF} (hN : X.N.Nodup) (h : JO X T W e f) (hi : X.N[i]? = some x := by rfl) (hx : Loc X.env.scope x := by first | exact Or.inl rfl | exact Or.inr rfl)
    (hs : swapsWith e (some (.Name x pos')) pos.line X.env = pure false := by rfl) (hf : X.fn x = true ∨ X.env.scope.names.lookup x = some .local := by first | exact .inl rfl | exact .inr rfl) : JS X T W [i] (.Assign [.Name x pos'] e pos) (sSetO i f) := by
  refine ⟨h.k, ps_imp (ps_set hN hi hx h.run hs hf) fun D σ H ⟨U, G, ρ, R, q⟩ => ?_⟩
  refine ⟨U, G, ρ, R, (PstS.bndE q).mono (L2.Same.refl _) fun d G' H' ρ' _ ⟨R', s, p⟩ a o g u hh r hn => ?_⟩
  exact p _ G' H' (R'.setOw u g hh r hn) (L2.Same.refl _) Keeps.set

/-! ### while -/
def whileS (c : TF) (b : SF) : Nat → SF
  | 0, _ => .bad
  | n + 1, ρ => (c ρ).bnd fun t ρ1 => if t = true then (b ρ1).sq (whileS c b n) else .ok .nx ρ1
theorem j_while (n : Nat) {c : Expr} {body : List Stmt} {pos : Pos} {t : TF} {f : SF} {ws : List Nat} (hp : PassesOwn (model X.prog X.w) X.A X.env X.xe) (hc : JT X T W c t) (hb : JSs X T W ws body f) : JS X T W ws (.While c body [] pos) (whileS t f n) := by
  refine ⟨hc.k, ps_imp (ps_while hp hc.run hb.run) fun D σ H ⟨U, G, ρ, R, q⟩ => ?_⟩
  refine ⟨fun m σ' H' => ∃ G' ρ', Rel T U G' H' σ' ρ' ∧ PstS T W ws D U σ' G' (whileS t f m ρ'), ⟨n, G, ρ, R, q⟩, ?_⟩
  rintro m σ' H' ⟨G', ρ', R', q'⟩
  cases m with
  | zero => exact False.elim q'
  | succ m =>
    refine ⟨U, G', ρ', R', (PstS.bndE q').mono (L2.Same.refl _) fun b G2 H2 ρ2 _ ⟨R2, s2, p2⟩ => ?_⟩
    cases b with
    | true =>
      rw [if_pos rfl]
      refine ⟨fun σ3 H3 => ∃ G3 ρ3, Rel T U G3 H3 σ3 ρ3 ∧ PstS T W ws D U σ3 G3 (whileS t f m ρ3), fun σ3 H3 z => ⟨m, Nat.lt_succ_self _, z⟩, U, G2, ρ2, R2, ?_⟩
      refine PstS.sq p2 (fun _ _ z => z) fun σ3 G3 H3 ρ3 R3 s3 k3 p3 => ⟨G3, ρ3, R3, p3⟩
    | false =>
      rw [if_neg Bool.false_ne_true]
      exact p2 σ' G2 H2 R2 (L2.Same.refl _) (Keeps.refl _ _)

/-! ### targets -/
abbrev BF := D → En → Option En
def tG (T : Tab) (ws : List Nat) (b : BF) : TG := fun v σ H Q => ∃ U G ρ d ρ', Rel T U G H σ ρ ∧ Rep T G v d ∧ b d ρ = some ρ' ∧ ∀ σ', Rel T U G H σ' ρ' → Keeps ws σ σ' → Q σ' H
abbrev BFs := List D → En → Option En
def tGs (T : Tab) (ws : List Nat) (b : BFs) : TGs := fun vs σ H Q => ∃ U G ρ ds ρ', Rel T U G H σ ρ ∧ Reps T G vs ds ∧ b ds ρ = some ρ' ∧ ∀ σ', Rel T U G H σ' ρ' → Keeps ws σ σ' → Q σ' H
structure JG (X : Cx) (T : Tab) (ws : List Nat) (e : Expr) (b : BF) : Prop where
  run : PG X e (tG T ws b)
structure JGs (X : Cx) (T : Tab) (ws : List Nat) (es : List Expr) (b : BFs) : Prop where
  run : PGs X es (tGs T ws b)
theorem pg_imp {X : Cx} {e : Expr} {t t' : TG} (h : PG X e t) (hi : ∀ v σ H Q, t' v σ H Q → t v σ H Q) : PG X e t' := ⟨fun pins s σ H v u Q I r q => h.run pins s σ H v u Q I r (hi _ _ _ _ q)⟩
theorem pgs_imp {X : Cx} {e : List Expr} {t t' : TGs} (h : PGs X e t) (hi : ∀ v σ H Q, t' v σ H Q → t v σ H Q) : PGs X e t' := ⟨fun pins s σ H v u Q I r q => h.run pins s σ H v u Q I r (hi _ _ _ _ q)⟩
def bName (i : Nat) : BF := fun d ρ => some (ρ.set i (.sh d))
theorem jg_name {i : Nat} {x : Str} {pos : Pos} (hN : X.N.Nodup) (hi : X.N[i]? = some x := by rfl) (hx : Loc X.env.scope x := by first | exact Or.inl rfl | exact Or.inr rfl)
    (hf : X.fn x = true ∨ X.env.scope.names.lookup x = some .local := by first | exact .inl rfl | exact .inr rfl) : JG X T [i] (.Name x pos) (bName i) := by
  refine ⟨pg_imp (pg_name hN hi hx hf) fun v σ H Q ⟨U, G, ρ, d, ρ', R, r, e, q⟩ => ?_⟩
  cases e
  exact q _ (R.setSh r) Keeps.set
def bNil : BFs := fun ds ρ => match ds with
  | [] => some ρ
  | _ => none
def bCons (b : BF) (c : BFs) : BFs := fun ds ρ => match ds with
  | d :: r => (b d ρ).bind (c r)
  | [] => none
theorem jgs_nil : JGs X T [] [] bNil := by
  refine ⟨pgs_imp pgs_nil fun v σ H Q ⟨U, G, ρ, ds, ρ', R, r, e, q⟩ => ?_⟩
  cases ds with
  | nil => cases e; exact ⟨r, q σ R (Keeps.refl _ _)⟩
  | cons _ _ => cases e
theorem jgs_cons {e : Expr} {es : List Expr} {ws ws' : List Nat} {b : BF} {c : BFs} (h : JG X T ws e b) (h' : JGs X T ws' es c) (hs : (assignEach (e :: es) X.env).map (·.2) = assign e X.env :: (assignEach es X.env).map (·.2) := by rfl) : JGs X T (ws ++ ws') (e :: es) (bCons b c) := by
  refine ⟨pgs_imp (pgs_cons h.run h'.run hs) fun vs σ H Q ⟨U, G, ρ, ds, ρ', R, r, e, q⟩ => ?_⟩
  cases ds with
  | nil => cases e
  | cons d ds =>
    obtain ⟨x, rest, rfl, r1, r2⟩ := r
    simp only [bCons] at e
    cases e1 : b d ρ with
    | none => rw [e1] at e; cases e
    | some ρ1 =>
      rw [e1] at e
      refine ⟨x, rest, rfl, U, G, ρ, d, ρ1, R, r1, e1, fun σ1 R1 k1 => ?_⟩
      exact ⟨U, G, ρ1, ds, ρ', R1, r2, e, fun σ2 R2 k2 => q σ2 R2 ((k1.mono fun j hj => List.mem_append_left _ hj).trans (k2.mono fun j hj => List.mem_append_right _ hj))⟩
def bTup (n : Nat) (b : BFs) : BF := fun d ρ => match d with
  | .tup ds => if ds.length = n then b ds ρ else none
  | _ => none
theorem jg_tup {es : List Expr} {k : Nat} {pos : Pos} {ws : List Nat} {b : BFs} {n : Nat} (hc : X.calm = true) (hk : X.K = T.K) (h : JGs X T ws es b)
    (hn : (assignEach es X.env).length = n := by rfl) (hst : (assignEach es X.env).findIdx? (·.1) = none := by rfl) : JG X T ws (.Tuple es k pos) (bTup n b) := by
  refine ⟨pg_imp (pg_tup hc h.run hn hst) fun v σ H Q ⟨U, G, ρ, d, ρ', R, r, e, q⟩ => ?_⟩
  cases d <;> simp only [bTup] at e <;> first | (cases e; done) | skip
  rename_i ds
  split at e
  · rename_i hl
    obtain ⟨a, xs, rfl, h1, r⟩ := r
    rw [hk]
    exact ⟨a, xs, rfl, Same.seqT R.same h1, by rw [r.length]; exact hl, U, G, ρ, ds, ρ', R, r, e, q⟩
  · cases e
/-- target = value -/
def sAsg (f : EF) (b : BF) : SF := fun ρ => (f ρ).bnd fun d ρ' => match b d ρ' with
  | some ρ2 => .ok .nx ρ2
  | none => .bad
theorem j_asg {tg e : Expr} {pos : Pos} {f : EF} {b : BF} {ws : List Nat} (h : JE X T W e f) (hg : JG X T ws tg b) (hs : swapsWithSole [tg] e pos.line X.env = pure false := by rfl) (hw : swappedStores [tg] e X.env = pure none := by rfl)
    (h1 : (assignEach [tg] X.env).map (·.2) = [assign tg X.env] := by rfl) : JS X T W ws (.Assign [tg] e pos) (sAsg f b) := by
  refine ⟨h.k, ps_imp (ps_asg h.run hg.run hs hw h1) fun D σ H ⟨U, G, ρ, R, q⟩ => ?_⟩
  refine ⟨U, G, ρ, R, (PstS.bndE q).mono (L2.Same.refl _) fun d G' H' ρ' _ ⟨R', s, p⟩ v r => ?_⟩
  cases e : b d ρ' with
  | none => rw [e] at p; exact p.elim
  | some ρ2 =>
    rw [e] at p
    exact ⟨U, G', ρ', d, ρ2, R', r, e, fun σ' R2 k => p σ' G' H' R2 (L2.Same.refl _) k⟩

/-! ### x += e -/
def sAug (i : Nat) (g : D → D → Option D) (f : EF) : SF := fun ρ => match ρ[i]? with
  | some (.sh a) => (f ρ).bnd fun b ρ' => match g a b with
    | some c => .ok .nx (ρ'.set i (.sh c))
    | none => .bad
  | _ => .bad
theorem j_aug {i : Nat} {x : Str} {e : Expr} {op : Operator} {r : R2} {g : D → D → Option D} {pos pos' : Pos} {f : EF} (hN : X.N.Nodup) (ho : OpR X (inplaceOp op) r) (hg : Op2 T r g) (h : JE X T W e f) (hi : X.N[i]? = some x := by rfl) (hx : Loc X.env.scope x := by first | exact Or.inl rfl | exact Or.inr rfl)
    (hf : X.fn x = true ∨ X.env.scope.names.lookup x = some .local := by first | exact .inl rfl | exact .inr rfl) : JS X T W [i] (.AugAssign (.Name x pos') op e pos) (sAug i g f) := by
  refine ⟨h.k, ps_imp (ps_aug hN hi hx h.run (ti := r) (fun pins s σ H x y v u Q I r1 r2 q => ho pins s σ H x y v u Q I r1 r2 q) hf) fun D σ H ⟨U, G, ρ, R, q⟩ => ?_⟩
  unfold sAug at q
  cases e1 : ρ[i]? with
  | none => rw [e1] at q; exact q.elim
  | some sl =>
    rw [e1] at q
    cases sl with
    | no => exact q.elim
    | ex _ _ _ => exact q.elim
    | ow _ => exact q.elim
    | sh a =>
      obtain ⟨v, ev, rv⟩ := R.sh i a e1
      refine ⟨v, ev, U, G, ρ, R, (PstS.bndE q).mono (L2.Same.refl _) fun b G' H' ρ' _ ⟨R', s, p⟩ u ru => ?_⟩
      cases e2 : g a b with
      | none => rw [e2] at p; exact p.elim
      | some c =>
        rw [e2] at p
        refine hg U G' H' σ ρ' v u a b c _ R' (.inl (rv.mono s)) (.inl ru) e2 fun w G2 H2 R2 s2 rw' => ?_
        exact p _ G2 H2 (R2.setSh rw') s2 Keeps.set
theorem iadd_J : Op2 T (fun x y H Q => (rI0 fun i j => .int (i + j)) x y H Q ∨ (∃ i j, x = .str i ∧ y = .str j ∧ i.length + j.length ≤ sizeLine ∧ Q (.str (i ++ j)) H)) (fun d e => match d, e with
    | .int a, .int b => some (.int (a + b))
    | .str a, .str b => if a.length + b.length ≤ sizeLine then some (.str (a ++ b)) else none
    | _, _ => none) := by
  intro U G H σ ρ x y d e c Q R rx ry hg q
  cases d <;> cases e <;> simp only at hg <;> first | (cases hg; done) | skip
  · cases hg
    exact .inl ⟨_, _, rx.int, ry.int, q _ G H R (L2.Same.refl _) rfl⟩
  · split at hg
    · rename_i hl
      cases hg
      obtain ⟨e1, o1⟩ := rx.str
      obtain ⟨e2, o2⟩ := ry.str
      exact .inr ⟨_, _, e1, e2, hl, q _ G H R (L2.Same.refl _) ⟨rfl, o1.app o2 hl⟩⟩
    · cases hg
end
end J

set_option Elab.async false
set_option linter.all false
set_option maxRecDepth 100000
set_option maxHeartbeats 4000000
namespace J
open PySem PySem.Spec PyProof.Rows L2
/-! ### what is walked -/
/-- J gives the items ds one after another, while C holds of the heap; C holds as long as what stood in G0 stands, and U' has what P asks -/
def Yl (T : Tab) (G0 : Hp) (J : It) (ds : List D) (P : Hp → Prop) : Prop := ds.length ≤ sizeLine ∧ ∃ (C : Hp → Prop) (Y : Nat → Hp → V → Hp → Prop), Walk J ds.length C Y ∧
  (∀ U' G H σ ρ, Rel T U' G H σ ρ → L2.Same G0 G → P U' → C H) ∧
  ∀ i H x H' U' σ ρ G, i < ds.length → Y i H x H' → Rel T U' G H σ ρ → L2.Same G0 G → ∃ G' d, Rel T U' G' H' σ ρ ∧ L2.Same G G' ∧ ds[i]? = some d ∧ Rep T G' x d
structure JI (X : Cx) (T : Tab) (W : WX) (tg iter : Expr) (f : LF) : Prop where
  k : X.K = T.K
  run : PI X tg iter (fun σ H R => ∃ U G ρ, Rel T U G H σ ρ ∧ Pst T U σ G (f ρ) (fun ds G' H' _ => ∀ J, Yl T G' J ds (fun _ => True) → R J H') W)
theorem pi_imp {X : Cx} {tg e : Expr} {t t' : TI} (h : PI X tg e t) (hi : ∀ σ H Q, t' σ H Q → t σ H Q) : PI X tg e t' := ⟨fun pins s σ H Q I q => h.run pins s σ H Q I (hi _ _ _ q)⟩
section
variable {X : Cx} {T : Tab} {W : WX} {tg : Expr}
theorem yl_list {G0 : Hp} {a : Addr} {xs : List V} {ds : List D} (hl : ds.length ≤ sizeLine) (r : Reps T G0 xs ds) (h : SqL T.K G0 a xs) : Yl T G0 (Itl T.K a) ds (fun _ => True) := by
  refine ⟨hl, fun H => SqL T.K H a xs, YAt xs, r.length ▸ walk_list, fun U' G H σ ρ R s _ => (s.trans R.same).seq h, fun i H x H' U' σ ρ G hi y R s => ?_⟩
  obtain ⟨rfl, e⟩ := y
  obtain ⟨d, e2, rd⟩ := r.get e
  exact ⟨G, d, R, L2.Same.refl _, e2, rd.mono s⟩
theorem yl_tup {G0 : Hp} {a : Addr} {xs : List V} {ds : List D} (hl : ds.length ≤ sizeLine) (r : Reps T G0 xs ds) (h : SqT T.K G0 a xs) : Yl T G0 (Itt T.K a) ds (fun _ => True) := by
  refine ⟨hl, fun H => SqT T.K H a xs, YAt xs, r.length ▸ walk_tup, fun U' G H σ ρ R s _ => Same.seqT (s.trans R.same) h, fun i H x H' U' σ ρ G hi y R s => ?_⟩
  obtain ⟨rfl, e⟩ := y
  obtain ⟨d, e2, rd⟩ := r.get e
  exact ⟨G, d, R, L2.Same.refl _, e2, rd.mono s⟩
/-- an owned list, held in U' -/
theorem yl_own {G0 : Hp} {a : Addr} {xs : List V} {ds : List D} (hl : ds.length ≤ sizeLine) (r : Reps T G0 xs ds) : Yl T G0 (Itl T.K a) ds (fun U' => U' a = some (.lst xs)) := by
  refine ⟨hl, fun H => SqL T.K H a xs, YAt xs, r.length ▸ walk_list, fun U' G H σ ρ R s h => .of (R.out _ _ h).1, fun i H x H' U' σ ρ G hi y R s => ?_⟩
  obtain ⟨rfl, e⟩ := y
  obtain ⟨d, e2, rd⟩ := r.get e
  exact ⟨G, d, R, L2.Same.refl _, e2, rd.mono s⟩
def signs (z : Str) : List D := z.cps.toList.map fun c => .str (sign c)
theorem yl_str {G0 : Hp} {z : Str} (h : SOk z) : Yl T G0 (Its z) (signs z) (fun _ => True) := by
  have hl : (signs z).length = z.cps.size := by unfold signs; simp
  refine ⟨by rw [hl]; exact h.1, _, _, hl ▸ walk_str, fun _ _ _ _ _ _ _ _ => True.intro, fun i H x H' U' σ ρ G hi y R s => ?_⟩
  obtain ⟨rfl, c, e, rfl⟩ := y
  refine ⟨G, .str (sign c), R, L2.Same.refl _, ?_, rfl, h.sign ?_⟩
  · unfold signs
    rw [List.getElem?_map, Array.getElem?_toList, e]
    rfl
  · rw [← Array.getElem?_toList] at e
    exact List.mem_of_getElem? e
def rangeL (lo : Int) (n : Nat) : List D := (List.range n).map fun i => .int (lo + (i : Nat))
theorem yl_range {G0 : Hp} {lo : Int} {n : Nat} (h : n ≤ 16777216) : Yl T G0 (Itr lo n) (rangeL lo n) (fun _ => True) := by
  have hl : (rangeL lo n).length = n := by unfold rangeL; simp
  refine ⟨by rw [hl, sizeLine_eq]; exact h, fun _ => True, YFn fun i => V.int (lo + (i : Nat)), by rw [hl]; exact walk_range, fun _ _ _ _ _ _ _ _ => True.intro, fun i H x H' U' σ ρ G hi y R s => ?_⟩
  obtain ⟨rfl, rfl⟩ := y
  rw [hl] at hi
  exact ⟨G, .int (lo + (i : Nat)), R, L2.Same.refl _, by unfold rangeL; simp [hi], rfl⟩

/-- a list, a tuple or a text that is walked -/
def iSeqJ (K : PySem.W.Frag) (tl : TE) : TI := fun σ H R => tl σ H fun x H1 => (∃ a xs, x = .ref a ∧ SqL K H1 a xs ∧ (xs.length ≤ sizeLine → R (Itl K a) H1)) ∨ (∃ a xs, x = .ref a ∧ SqT K H1 a xs ∧ (xs.length ≤ sizeLine → R (Itt K a) H1)) ∨ ∃ z, x = .str z ∧ R (Its z) H1
theorem pi_seqJ {l : Expr} {tl : TE} (hl : PE X l tl) : PI X tg l (iSeqJ X.K tl) := by
  refine ⟨fun pins s σ H R I h => ?_⟩
  refine thn (hl.run pins s σ H _ I h) fun v s1 ⟨x, H1, I1, r1, q1⟩ => ?_
  rcases q1 with ⟨a, xs, e, hq, q⟩ | ⟨a, xs, e, hq, q⟩ | ⟨z, e, q⟩
  · subst e
    cases r1
    obtain ⟨its, rv, p, hz⟩ := I1.list hq
    refine wpAny_pyIter_list p.isList ?_
    refine ⟨s1.heap.objs.size, [s1.heap.objs.size], _, _, H1, rfl, I1.kept (t' := s1.toks) fun b o e => Heap.get?_push_of_some _ e, turn_list a _, ⟨_, Heap.get?_push_size _ rfl, rfl, rfl⟩, fun b hb => ?_, q hz⟩
    have e : b = s1.heap.objs.size := by simpa using hb
    subst e
    exact I1.fpOk (Nat.le_refl _) (I1.hok.fresh (Nat.le_refl _))
  · subst e
    cases r1
    obtain ⟨its, rv, p, hz⟩ := I1.tuple hq
    refine wpAny_pyIter_tuple (show s1.heap.IsTuple a its.toArray from p) ?_
    refine ⟨s1.heap.objs.size, [s1.heap.objs.size], _, _, H1, rfl, I1.kept (t' := s1.toks) fun b o e => Heap.get?_push_of_some _ e, turn_tuple a _, ⟨_, Heap.get?_push_size _ rfl, rfl, rfl⟩, fun b hb => ?_, q hz⟩
    have e : b = s1.heap.objs.size := by simpa using hb
    subst e
    exact I1.fpOk (Nat.le_refl _) (I1.hok.fresh (Nat.le_refl _))
  · subst e
    obtain ⟨t, rfl⟩ := r1
    cases ha : z.cps.all (· < 128)
    · exact wpAny_pyIter_wide ha (pi_one (tk := s1.toks) I1 _ (turn_str _ z t "str_iterator" (.inr rfl)) ⟨_, Heap.get?_push_size _ rfl, rfl, rfl⟩ q)
    · exact wpAny_pyIter_ascii ha (pi_one (tk := s1.toks) I1 _ (turn_str _ z t "str_ascii_iterator" (.inl rfl)) ⟨_, Heap.get?_push_size _ rfl, rfl, rfl⟩ q)
def itemsD : D → Option (List D)
  | .lst ds => some ds
  | .tup ds => some ds
  | .scr ds => some ds
  | .str z => some (signs z)
  | _ => none
def iSeq (f : EF) : LF := fun ρ => (f ρ).bnd fun d ρ' => opt (itemsD d) ρ'
theorem ji_seq {e : Expr} {f : EF} (h : JE X T W e f) : JI X T W tg e (iSeq f) := by
  refine ⟨h.k, pi_imp (pi_seqJ h.run) fun σ H R ⟨U, G, ρ, R0, q⟩ => ?_⟩
  refine ⟨U, G, ρ, R0, (Pst.bnd q).mono (L2.Same.refl _) fun d G1 H1 ρ1 _ ⟨R1, s1, p1⟩ v rv => ?_⟩
  obtain ⟨ds, e1, p⟩ := Pst.opt p1
  have q2 := p G1 H1 R1 (L2.Same.refl _)
  rw [h.k]
  cases d <;> simp only [itemsD] at e1 <;> first | (cases e1; done) | skip
  · cases e1
    obtain ⟨rfl, o⟩ := rv
    exact .inr (.inr ⟨_, rfl, q2 _ (yl_str o)⟩)
  · cases e1
    obtain ⟨a, xs, rfl, hs, r⟩ := rv
    exact .inr (.inl ⟨a, xs, rfl, Same.seqT R1.same hs, fun hl => q2 _ (yl_tup (r.length ▸ hl) r hs)⟩)
  · cases e1
    obtain ⟨a, xs, rfl, hs, r⟩ := rv
    exact .inl ⟨a, xs, rfl, .of (R1.same _ _ hs), fun hl => q2 _ (yl_list (r.length ▸ hl) r (.of hs))⟩
  · cases e1
    obtain ⟨a, xs, rfl, hs, r⟩ := rv
    exact .inl ⟨a, xs, rfl, R1.same.seq hs, fun hl => q2 _ (yl_list (r.length ▸ hl) r hs)⟩
/-- range(n), range(a, b) -/
def rng1 : List D → Option (List D)
  | [.int j] => if -(2 ^ 62) ≤ j ∧ j ≤ 16777216 then some (rangeL 0 j.toNat) else none
  | _ => none
def rng2 : List D → Option (List D)
  | [.int i, .int j] => if (-(2 ^ 62) ≤ i ∧ i < 2 ^ 62 ∧ -(2 ^ 62) ≤ j ∧ j < 2 ^ 62) ∧ j - i ≤ 16777216 then some (rangeL i (j - i).toNat) else none
  | _ => none
def iRng (g : List D → Option (List D)) (f : AF) : LF := fun ρ => (f ρ).bnd fun as ρ' => match looks ρ' as with
  | some ds => opt (g ds) ρ'
  | none => .bad
theorem ji_range1 {a : Expr} {p pos : Pos} {f : AF} (ha : JA X T W [a] f) (hm : X.mg "range" = none) (hg : Gl X "range" := by rfl) (hs : starEach [a] X.env = [(false, eval a X.env)] := by rfl) : JI X T W tg (.Call (.Name "range" p) [a] [] pos) (iRng rng1 f) := by
  refine ⟨ha.k, pi_imp (pi_range1 hg hm ha.run hs) fun σ H R ⟨U, G, ρ, R0, q⟩ => ?_⟩
  refine ⟨U, G, ρ, R0, (Pst.bnd q).mono (L2.Same.refl _) fun as G1 H1 ρ1 _ ⟨R1, s1, p1⟩ vs avs => ?_⟩
  cases e : looks ρ1 as with
  | none => rw [e] at p1; exact p1.elim
  | some ds =>
    rw [e] at p1
    obtain ⟨xs, e1, p⟩ := Pst.opt p1
    have rs := looks_ok R1 avs e
    unfold rng1 at e1
    split at e1
    · rename_i j
      split at e1
      · rename_i hj
        cases e1
        obtain ⟨x, rfl, rx⟩ := rs.one
        exact ⟨j, by rw [rx.int], hj.1, by omega, p G1 H1 R1 (L2.Same.refl _) _ (yl_range (by omega))⟩
      · cases e1
    · cases e1
theorem ji_range2 {a b : Expr} {p pos : Pos} {f : AF} (ha : JA X T W [a, b] f) (hm : X.mg "range" = none) (hg : Gl X "range" := by rfl) (hs : starEach [a, b] X.env = [(false, eval a X.env), (false, eval b X.env)] := by rfl) (hs2 : starEach [b] X.env = [(false, eval b X.env)] := by rfl) : JI X T W tg (.Call (.Name "range" p) [a, b] [] pos) (iRng rng2 f) := by
  refine ⟨ha.k, pi_imp (pi_range2 hg hm ha.run hs hs2) fun σ H R ⟨U, G, ρ, R0, q⟩ => ?_⟩
  refine ⟨U, G, ρ, R0, (Pst.bnd q).mono (L2.Same.refl _) fun as G1 H1 ρ1 _ ⟨R1, s1, p1⟩ vs avs => ?_⟩
  cases e : looks ρ1 as with
  | none => rw [e] at p1; exact p1.elim
  | some ds =>
    rw [e] at p1
    obtain ⟨xs, e1, p⟩ := Pst.opt p1
    have rs := looks_ok R1 avs e
    unfold rng2 at e1
    split at e1
    · rename_i i j
      split at e1
      · rename_i hj
        cases e1
        obtain ⟨x, y, rfl, rx, ry⟩ := rs.two
        exact ⟨i, j, by rw [rx.int, ry.int], hj.1, p G1 H1 R1 (L2.Same.refl _) _ (yl_range (by omega))⟩
      · cases e1
    · cases e1

/-! ### for -/
def forS (b : BF) (body : SF) : List D → SF
  | [], ρ => .ok .nx ρ
  | d :: ds, ρ => match b d ρ with
    | some ρ1 => (body ρ1).sq (forS b body ds)
    | none => .bad
def sFor (f : LF) (b : BF) (body : SF) : SF := fun ρ => (f ρ).bnd fun ds ρ' => forS b body ds ρ'
theorem for_core {ws wb : List Nat} {En0 : Ends} {U G1 H1 : Hp} {σ : L2.St} {ρ1 : En} {J : It} {ds : List D} {P : Hp → Prop} {b : BF} {body : SF} (hP : P U) (y : Yl T G1 J ds P) (R1 : Rel T U G1 H1 σ ρ1) (p : PstS T W (wb ++ ws) En0 U σ G1 (forS b body ds ρ1)) :
    ∃ W' : Nat → Nat → L2.St → Hp → Prop, (∃ m, W' 0 m σ H1) ∧ ∀ i m σ H, W' i m σ H →
      (J.stop i H ∧ En0.nx σ H) ∨ (J.go i H ∧ ∃ N : L2.St → Hp → Prop, (∀ σ' H', N σ' H' → ∃ m', m' < m ∧ W' (i + 1) m' σ' H') ∧ ∀ x H', J.yld i H x H' → tG T wb b x σ H' fun σ2 H2 => tS T W ws body { En0 with nx := N, ct := N, bk := En0.nx } σ2 H2) := by
  obtain ⟨hl, C, Y, wk, hold, yld⟩ := y
  refine for_it wk (fun i σ' H' => ∃ G' ρ', Rel T U G' H' σ' ρ' ∧ L2.Same G1 G' ∧ PstS T W (wb ++ ws) En0 U σ' G' (forS b body (ds.drop i) ρ')) ⟨G1, ρ1, R1, L2.Same.refl _, p⟩ (fun i σ' H' _ ⟨G', ρ', R', s', _⟩ => hold U G' H' σ' ρ' R' s' hP) ?_ ?_
  · rintro i x σ' H' H'' hi ⟨G', ρ', R', s', p'⟩ yy
    obtain ⟨G2, d, R2, s2, e2, rd⟩ := yld i H' x H'' U σ' ρ' G' hi yy R' s'
    have hd : ds.drop i = d :: ds.drop (i + 1) := by
      rw [List.drop_eq_getElem_cons hi]
      rw [List.getElem?_eq_getElem hi] at e2
      rw [Option.some.inj e2]
    rw [hd] at p'
    simp only [forS] at p'
    cases e3 : b d ρ' with
    | none => rw [e3] at p'; exact p'.elim
    | some ρ2 =>
      rw [e3] at p'
      refine ⟨U, G2, ρ', d, ρ2, R2, rd, e3, fun σ2 R3 k3 => ⟨U, G2, ρ2, R3, ?_⟩⟩
      have p2 : PstS T W (wb ++ ws) En0 U σ2 G2 ((body ρ2).sq (forS b body (ds.drop (i + 1)))) := PstS.mono (ws' := ws) p' s2 (k3.mono fun j hj => List.mem_append_left _ hj) (fun _ _ z => z) fun _ _ z => z
      refine PstS.wide (ws' := wb ++ ws) ?_ fun j hj => List.mem_append_right _ hj
      refine PstS.sq p2 (fun _ _ z => z) fun σ4 G4 H4 ρ4 R4 s4 k4 p4 => ⟨G4, ρ4, R4, (s'.trans s2).trans s4, p4⟩
  · rintro σ' H' ⟨G', ρ', R', s', p'⟩
    rw [List.drop_length] at p'
    exact p' σ' G' H' R' (L2.Same.refl _) (Keeps.refl _ _)
theorem j_for {iter : Expr} {body : List Stmt} {pos : Pos} {f : LF} {b : BF} {g : SF} {wb ws : List Nat} (hp : PassesOwn (model X.prog X.w) X.A X.env X.xe) (hc : X.calm = true) (hi : JI X T W tg iter f) (hg : JG X T wb tg b) (hb : JSs X T W ws body g)
    (hs : ∀ x, foldedSetIterable iter X.env x = pure x := by intro _; rfl) : JS X T W (wb ++ ws) (.For tg iter body [] pos) (sFor f b g) := by
  refine ⟨hi.k, ps_imp (ps_for hp hc hi.run hg.run hb.run hs) fun D σ H ⟨U, G, ρ, R, q⟩ => ?_⟩
  refine ⟨U, G, ρ, R, (PstS.bndE q).mono (L2.Same.refl _) fun ds G1 H1 ρ1 _ ⟨R1, s1, p⟩ J y => ?_⟩
  exact for_core True.intro y R1 p

/-! ### comprehensions -/
def wipeE (ρ : En) : List Nat → En
  | [] => ρ
  | v :: vs => (wipeE ρ vs).set v .no
/-- the slots vs of ρ laid over ρ' -/
def rst (ρ ρ' : En) : List Nat → En
  | [] => ρ'
  | v :: vs => match ρ[v]? with
    | some s => (rst ρ ρ' vs).set v s
    | none => rst ρ ρ' vs
def noOw (ρ : En) (vs : List Nat) : Bool := vs.all fun v => match ρ[v]? with
  | some (.ow _) => false
  | _ => true
def Rs.calm {α : Type} (r : Rs α) : Rs α := match r with
  | .ok a ρ => .ok a ρ
  | _ => .bad
@[simp] theorem Rs.calm_ok {α : Type} (a : α) (ρ : En) : (Rs.ok a ρ).calm = .ok a ρ := rfl
def lcS (b : BF) (vs : List Nat) (t : TF) (f : EF) : List D → List D → En → Rs D
  | [], acc, ρ => .ok (.lst acc) ρ
  | d :: ds, acc, ρ => match b d (wipeE ρ vs) with
    | none => .bad
    | some ρ1 => (t ρ1).calm.bnd fun ok ρ2 => if ok = true then (f ρ2).calm.bnd fun y ρ3 => lcS b vs t f ds (acc ++ [y]) (rst ρ ρ3 vs) else lcS b vs t f ds acc (rst ρ ρ2 vs)
def eLc (i : LF) (b : BF) (vs : List Nat) (t : TF) (f : EF) : EF := fun ρ => (i ρ).bnd fun ds ρ' => if noOw ρ' vs = true then lcS b vs t f ds [] ρ' else .bad
theorem wipeE_len (ρ : En) : ∀ vs : List Nat, (wipeE ρ vs).length = ρ.length
  | [] => rfl
  | v :: vs => by simp [wipeE, wipeE_len ρ vs]
theorem wipeE_get {ρ : En} {vs : List Nat} {i : Nat} {s : Sl} (h : (wipeE ρ vs)[i]? = some s) (hs : s ≠ .no) : i ∉ vs ∧ ρ[i]? = some s := by
  induction vs with
  | nil => exact ⟨by simp, h⟩
  | cons v vs ih =>
    rcases get_set h with ⟨_, e⟩ | ⟨hi, h⟩
    · exact absurd e.symm hs
    · obtain ⟨h1, h2⟩ := ih h
      exact ⟨by simp [hi, h1], h2⟩
theorem wipe_get_out {σ : L2.St} {vs : List Nat} {i : Nat} (h : i ∉ vs) : (wipe σ vs)[i]? = σ[i]? := wipe_out h
theorem Rel.wiped {U G H : Hp} {σ : L2.St} {ρ : En} {vs : List Nat} (R : Rel T U G H σ ρ) : Rel T U G H (wipe σ vs) (wipeE ρ vs) := by
  refine ⟨R.same, by rw [wipe_length, wipeE_len, R.len], fun i d h => ?_, fun i d h => ?_, fun i j di dj a h1 h2 h3 h4 => ?_, R.out, fun i c ns vs h => by
    obtain ⟨hi, e⟩ := wipeE_get h (by intro z; cases z)
    exact (R.exn i c ns vs e).at (wipe_get_out hi)⟩
  · obtain ⟨hi, e⟩ := wipeE_get h (by intro z; cases z)
    rw [wipe_get_out hi]
    exact R.sh i d e
  · obtain ⟨hi, e⟩ := wipeE_get h (by intro z; cases z)
    rw [wipe_get_out hi]
    exact R.ow i d e
  · obtain ⟨hi, e1⟩ := wipeE_get h1 (by intro z; cases z)
    obtain ⟨hj, e2⟩ := wipeE_get h2 (by intro z; cases z)
    rw [wipe_get_out hi] at h3
    rw [wipe_get_out hj] at h4
    exact R.dist i j di dj a e1 e2 h3 h4
theorem rst_len (ρ ρ' : En) : ∀ vs : List Nat, (rst ρ ρ' vs).length = ρ'.length
  | [] => rfl
  | v :: vs => by
    simp only [rst]
    split
    · rw [List.length_set, rst_len ρ ρ' vs]
    · exact rst_len ρ ρ' vs
theorem rst_get {ρ ρ' : En} (hl : ρ.length = ρ'.length) {vs : List Nat} {i : Nat} : (rst ρ ρ' vs)[i]? = if i ∈ vs then ρ[i]? else ρ'[i]? := by
  induction vs with
  | nil => simp [rst]
  | cons v vs ih =>
    simp only [rst]
    cases e : ρ[v]? with
    | none =>
      show (rst ρ ρ' vs)[i]? = _
      rw [ih]
      by_cases hiv : i = v
      · subst hiv
        have hn : ρ'[i]? = none := by
          rw [List.getElem?_eq_none_iff] at e ⊢
          omega
        simp [e, hn]
      · simp [hiv]
    | some s =>
      show ((rst ρ ρ' vs).set v s)[i]? = _
      by_cases hiv : i = v
      · subst hiv
        have hlt : i < (rst ρ ρ' vs).length := by
          rw [rst_len, ← hl]
          exact (List.getElem?_eq_some_iff.mp e).1
        rw [set_get_same hlt]
        simp [e]
      · rw [set_get_ne hiv, ih]
        simp [hiv]
/-- behind a turn: the block's names are forgotten -/
theorem Rel.back {U G G' H H' : Hp} {σ σ2 : L2.St} {ρ ρ3 : En} {vs : List Nat} (R0 : Rel T U G H σ ρ) (hno : noOw ρ vs = true) (R : Rel T U G' H' σ2 ρ3) (s : L2.Same G G') (hw : wipe σ2 vs = wipe σ vs) : Rel T U G' H' σ (rst ρ ρ3 vs) := by
  have hl2 : σ2.length = σ.length := by have := congrArg List.length hw; rwa [wipe_length, wipe_length] at this
  have hl : ρ.length = ρ3.length := by rw [← R0.len, ← R.len, hl2]
  have out : ∀ {i : Nat}, i ∉ vs → σ2[i]? = σ[i]? := fun {i} hi => by rw [← wipe_get_out hi, hw, wipe_get_out hi]
  have noow : ∀ {i : Nat} {d : D}, i ∈ vs → ρ[i]? ≠ some (.ow d) := fun {i d} hi e => by
    have := List.all_eq_true.mp hno i hi
    rw [e] at this
    cases this
  refine ⟨R.same, by rw [rst_len, ← R.len, hl2], fun i d h => ?_, fun i d h => ?_, fun i j di dj a h1 h2 h3 h4 => ?_, R.out, fun i c ns us h => by
    rw [rst_get hl] at h
    by_cases hi : i ∈ vs
    · rw [if_pos hi] at h
      exact (R0.exn i c ns us h).mono s
    · rw [if_neg hi] at h
      exact (R.exn i c ns us h).at (out hi).symm⟩
  · rw [rst_get hl] at h
    by_cases hi : i ∈ vs
    · rw [if_pos hi] at h
      obtain ⟨v, e, r⟩ := R0.sh i d h
      exact ⟨v, e, r.mono s⟩
    · rw [if_neg hi] at h
      rw [← out hi]
      exact R.sh i d h
  · rw [rst_get hl] at h
    by_cases hi : i ∈ vs
    · rw [if_pos hi] at h
      exact absurd h (noow hi)
    · rw [if_neg hi] at h
      rw [← out hi]
      exact R.ow i d h
  · rw [rst_get hl] at h1 h2
    by_cases hi : i ∈ vs
    · rw [if_pos hi] at h1
      exact absurd h1 (noow hi)
    · by_cases hj : j ∈ vs
      · rw [if_pos hj] at h2
        exact absurd h2 (noow hj)
      · rw [if_neg hi] at h1
        rw [if_neg hj] at h2
        rw [← out hi] at h3
        rw [← out hj] at h4
        exact R.dist i j di dj a h1 h2 h3 h4
theorem noOw_rst {ρ ρ' : En} (hl : ρ.length = ρ'.length) {vs : List Nat} (h : noOw ρ vs = true) : noOw (rst ρ ρ' vs) vs = true := by
  unfold noOw at h ⊢
  rw [List.all_eq_true] at h ⊢
  intro v hv
  rw [rst_get hl, if_pos hv]
  exact h v hv
theorem wipe_keeps {σ σ' : L2.St} {ws vs : List Nat} (k : Keeps ws (wipe σ vs) σ') (hl : σ'.length = σ.length) (h : ∀ j, j ∈ ws → j ∈ vs) : wipe σ' vs = wipe σ vs := by
  apply List.ext_getElem?
  intro i
  by_cases hi : i ∈ vs
  · have key : ∀ {τ : L2.St}, τ.length = σ.length → (wipe τ vs)[i]? = if i < σ.length then some none else none := fun {τ} ht => by
      by_cases hlt : i < σ.length
      · rw [if_pos hlt]
        have hlt' : i < (wipe τ vs).length := by rw [wipe_length, ht]; exact hlt
        rw [List.getElem?_eq_getElem hlt']
        congr 1
        cases e : (wipe τ vs)[i] with
        | none => rfl
        | some x =>
          have e' : (wipe τ vs)[i]? = some (some x) := by rw [List.getElem?_eq_getElem hlt', e]
          exact absurd hi (wipe_some e').2
      · rw [if_neg hlt, List.getElem?_eq_none_iff.mpr]
        rw [wipe_length, ht]; omega
    rw [key hl, key rfl]
  · rw [wipe_get_out hi, k.2 i fun z => hi (h i z), wipe_get_out hi]
abbrev WF : WX := fun _ _ _ _ => False
theorem lc_coreJ {U G1 H1 : Hp} {σ : L2.St} {ρ1 : En} {J : It} {ds : List D} {P : Hp → Prop} {b : BF} {vs wb : List Nat} {t : TF} {f : EF} {Q : VK} (hP : ∀ U', P U → (∀ a o, U a = some o → U' a = some o) → P U') (hPU : P U) (y : Yl T G1 J ds P) (R1 : Rel T U G1 H1 σ ρ1) (hno : noOw ρ1 vs = true) (hwb : ∀ j, j ∈ wb → j ∈ vs)
    (p : Pst T U σ G1 (lcS b vs t f ds [] ρ1) (fun d G' H' ρ' => ∀ p o, G' p = none → U p = none → H' p = some o → RepO T G' o d → (∀ (i : Nat) (d : D), ρ'[i]? = some (.ow d) → σ[i]? ≠ some (some (.ref p))) → Q (.ref p) H') WF) :
    ∀ D, H1 D = none → ∃ W : Nat → Nat → Hp → Prop, (∃ m, W 0 m (upd H1 D (.lst []))) ∧ ∀ i m H, W i m H →
      (J.stop i H ∧ Q (.ref D) H) ∨ (J.go i H ∧ ∃ Nx : Hp → Prop, (∀ H', Nx H' → ∃ m', m' < m ∧ W (i + 1) m' H') ∧ ∀ x H', J.yld i H x H' → tG T wb b x (wipe σ vs) H' fun σ2 H2 => wipe σ2 vs = wipe σ vs ∧ tT T WF t σ2 H2 fun c H3 =>
        if c = true then tE T WF f σ2 H3 fun y H4 => ∃ acc, H4 D = some (.lst acc) ∧ acc.length < sizeLine ∧ Nx (upd H4 D (.lst (acc ++ [y]))) else Nx H3) := by
  intro Dp hD
  obtain ⟨hl, C, Y, wk, hold, yld⟩ := y
  have UD := R1.ufree hD
  have PU : ∀ o, P (upd U Dp o) := fun o => hP _ hPU fun a q e => by
    have ne : a ≠ Dp := fun z => by subst z; rw [UD] at e; cases e
    rw [upd_ne ne]; exact e
  refine lc_it wk (fun i H' => ∃ (acc : List D) (vacc : List V) (G' : Hp) (ρ' : En), acc.length ≤ i ∧ Reps T G' vacc acc ∧ Rel T (upd U Dp (.lst vacc)) G' H' σ ρ' ∧ L2.Same G1 G' ∧ noOw ρ' vs = true ∧
    Pst T U σ G' (lcS b vs t f (ds.drop i) acc ρ') (fun d G' H' ρ' => ∀ p o, G' p = none → U p = none → H' p = some o → RepO T G' o d → (∀ (i : Nat) (d : D), ρ'[i]? = some (.ow d) → σ[i]? ≠ some (some (.ref p))) → Q (.ref p) H') WF)
    ⟨[], [], G1, ρ1, Nat.le_refl _, rfl, R1.hold hD, L2.Same.refl _, hno, p⟩ (fun i H' _ ⟨acc, vacc, G', ρ', _, _, R', s', _⟩ => hold _ G' H' σ ρ' R' s' (PU _)) ?_ ?_
  · rintro i x H' H'' hi ⟨acc, vacc, G', ρ', hacc, ra, R', s', hno', p'⟩ yy
    obtain ⟨G2, d, R2, s2, e2, rd⟩ := yld i H' x H'' _ σ ρ' G' hi yy R' s'
    have hd : ds.drop i = d :: ds.drop (i + 1) := by
      rw [List.drop_eq_getElem_cons hi]
      rw [List.getElem?_eq_getElem hi] at e2
      rw [Option.some.inj e2]
    rw [hd] at p'
    simp only [lcS] at p'
    cases e3 : b d (wipeE ρ' vs) with
    | none => rw [e3] at p'; exact p'.elim
    | some ρ2 =>
      rw [e3] at p'
      dsimp only at p'
      refine ⟨_, G2, wipeE ρ' vs, d, ρ2, R2.wiped, rd, e3, fun σ2 R3 k3 => ?_⟩
      have hlen2 : σ2.length = σ.length := by rw [k3.1, wipe_length]
      have hw := wipe_keeps k3 hlen2 hwb
      cases e4 : t ρ2 with
      | ex c ns vs2 ρ3 => rw [e4] at p'; exact p'.elim
      | bad => rw [e4] at p'; exact p'.elim
      | ok c ρ3 =>
      rw [e4] at p'
      refine ⟨hw, _, G2, ρ2, R3, ?_⟩
      rw [e4]
      intro G3 H3 R4 s4
      have hl3 : ρ'.length = ρ3.length := by rw [← R'.len, ← R4.len, hlen2]
      have p3 : Pst T U σ G3 (if c = true then (f ρ3).calm.bnd fun y ρ3 => lcS b vs t f (ds.drop (i + 1)) (acc ++ [y]) (rst ρ' ρ3 vs) else lcS b vs t f (ds.drop (i + 1)) acc (rst ρ' ρ3 vs)) (fun d G' H' ρ' => ∀ p o, G' p = none → U p = none → H' p = some o → RepO T G' o d → (∀ (i : Nat) (d : D), ρ'[i]? = some (.ow d) → σ[i]? ≠ some (some (.ref p))) → Q (.ref p) H') WF := Pst.mono (G1 := G3) p' (s2.trans s4) fun _ _ _ _ _ z => z
      cases c with
      | false =>
        rw [if_neg Bool.false_ne_true] at p3
        show (if false = true then _ else _)
        rw [if_neg Bool.false_ne_true]
        exact ⟨acc, vacc, G3, _, Nat.le_succ_of_le hacc, ra.mono (s2.trans s4), Rel.back R' hno' R4 (s2.trans s4) hw, (s'.trans s2).trans s4, noOw_rst hl3 hno', p3⟩
      | true =>
        rw [if_pos rfl] at p3
        show (if true = true then _ else _)
        rw [if_pos rfl]
        refine ⟨_, G3, ρ3, R4, ?_⟩
        cases e5 : f ρ3 with
        | ex c ns vs2 ρ3 => rw [e5] at p3; exact p3.elim
        | bad => rw [e5] at p3; exact p3.elim
        | ok y ρ4 =>
        rw [e5] at p3
        intro G4 H4 R5 s5 v rv
        have hl4 : ρ'.length = ρ4.length := by rw [← R'.len, ← R5.len, hlen2]
        have hO := R5.out Dp _ upd_same
        have R6 := (Rel.back R' hno' R5 ((s2.trans s4).trans s5) hw).held (o' := .lst (vacc ++ [v])) upd_same
        rw [upd_upd] at R6
        refine ⟨vacc, hO.1, ?_, acc ++ [y], vacc ++ [v], G4, rst ρ' ρ4 vs, ?_, (ra.mono ((s2.trans s4).trans s5)).app (.one rv), R6, ((s'.trans s2).trans s4).trans s5, noOw_rst hl4 hno', Pst.mono (G1 := G4) p3 s5 fun _ _ _ _ _ z => z⟩
        · rw [ra.length]; omega
        · rw [List.length_append, List.length_singleton]; omega
  · rintro H' ⟨acc, vacc, G', ρ', hacc, ra, R', s', hno', p'⟩
    rw [List.drop_length] at p'
    have hH := (R'.out Dp _ upd_same)
    have eU : unheld (upd U Dp (.lst vacc)) Dp = U := by
      funext a
      by_cases ha : a = Dp
      · subst ha; rw [unheld_same, UD]
      · rw [unheld_ne ha, upd_ne ha]
    have R2 : Rel T U G' H' σ ρ' := eU ▸ R'.unhold (p := Dp)
    exact p' G' H' R2 (L2.Same.refl _) Dp _ hH.2 UD hH.1 ⟨vacc, rfl, ra⟩ fun j e h1 h2 => by
      obtain ⟨a, o, e1, _, u, _⟩ := R'.ow j e h1
      rw [h2] at e1
      cases e1
      rw [upd_same] at u
      cases u
theorem lcS_nox {b : BF} {vs : List Nat} {t : TF} {f : EF} : ∀ (ds acc : List D) (ρ : En) c ns vs2 ρ', lcS b vs t f ds acc ρ ≠ .ex c ns vs2 ρ' := by
  intro ds
  induction ds with
  | nil => intro acc ρ c ns vs2 ρ' h; cases h
  | cons d ds ih =>
    intro acc ρ c ns vs2 ρ' h
    simp only [lcS] at h
    cases e : b d (wipeE ρ vs) with
    | none => rw [e] at h; cases h
    | some ρ1 =>
      rw [e] at h
      dsimp only at h
      cases e2 : t ρ1 with
      | ex _ _ _ _ => rw [e2] at h; cases h
      | bad => rw [e2] at h; cases h
      | ok c2 ρ2 =>
        rw [e2] at h
        simp only [Rs.calm_ok, Rs.bnd_ok] at h
        cases c2 with
        | false => exact ih _ _ _ _ _ _ h
        | true =>
          rw [if_pos rfl] at h
          cases e3 : f ρ2 with
          | ex _ _ _ _ => rw [e3] at h; cases h
          | bad => rw [e3] at h; cases h
          | ok y ρ3 =>
            rw [e3] at h
            exact ih _ _ _ _ _ _ h
/-- [elt for tg in iter if t] -/
theorem j_lcO {elt iter : Expr} {ifs : List Expr} {scope : Scope} {own : List (Str × Nat)} {pos : Pos} {i : LF} {b : BF} {wb : List Nat} {t : TF} {f : EF} (hc : X.calm = true) (hN : X.N.Nodup) (hi : JI X T W tg iter i) (ok : BlkOk X.N X.env.scope scope own) (hwb : ∀ j, j ∈ wb → j ∈ own.map (·.2))
    (hg : ∀ (s : Shared) (H : Hp) (C : Addr) (cl : List (Str × Addr)) (fp : List Addr), JG (X.blk s H scope (compEnvC scope cl C X.env) fp) T wb tg b)
    (ht : ∀ (s : Shared) (H : Hp) (C : Addr) (cl : List (Str × Addr)) (fp : List Addr), PTs (X.blk s H scope (compEnvC scope cl C X.env) fp) ifs (tT T WF t))
    (he : ∀ (s : Shared) (H : Hp) (C : Addr) (cl : List (Str × Addr)) (fp : List Addr), JE (X.blk s H scope (compEnvC scope cl C X.env) fp) T WF elt f) (hs : ∀ x, foldedSetIterable iter X.env x = pure x := by intro _; rfl) :
    JO X T W (.ListComp elt [⟨tg, iter, ifs, 0⟩] scope pos) (eLc i b (own.map (·.2)) t f) := by
  refine ⟨hi.k, pe_imp (pe_lc hc hN hi.run ok (fun s H C cl fp => (hg s H C cl fp).run) ht (fun s H C cl fp => (he s H C cl fp).run) hs) fun σ H Q ⟨U, G, ρ, R, q⟩ => ?_⟩
  exact lc_red hwb R q
where
  lc_red {own : List (Str × Nat)} {i : LF} {b : BF} {wb : List Nat} {t : TF} {f : EF} {U G H : Hp} {σ : L2.St} {ρ : En} {Q : VK} (hwb : ∀ j, j ∈ wb → j ∈ own.map (·.2)) (R : Rel T U G H σ ρ)
    (q : Pst T U σ G (eLc i b (own.map (·.2)) t f ρ) (fun d G' H' ρ' => ∀ p o, G' p = none → U p = none → H' p = some o → RepO T G' o d → (∀ (i : Nat) (d : D), ρ'[i]? = some (.ow d) → σ[i]? ≠ some (some (.ref p))) → Q (.ref p) H') W) :
      tLc (fun σ H R => ∃ U G ρ, Rel T U G H σ ρ ∧ Pst T U σ G (i ρ) (fun ds G' H' _ => ∀ J, Yl T G' J ds (fun _ => True) → R J H') W) (tG T wb b) (tT T WF t) (tE T WF f) (own.map (·.2)) σ H Q := by
    refine ⟨U, G, ρ, R, (Pst.bnd q).mono (L2.Same.refl _) fun ds G1 H1 ρ1 _ ⟨R1, s1, p⟩ J y => ?_⟩
    cases e : noOw ρ1 (own.map (·.2)) with
    | false => rw [e] at p; exact p.elim
    | true =>
      rw [e, if_pos rfl] at p
      exact lc_coreJ (P := fun _ => True) (fun _ _ _ => True.intro) True.intro y R1 e hwb (lc_nox p)
  lc_nox {U G : Hp} {σ : L2.St} {ρ : En} {b : BF} {vs : List Nat} {t : TF} {f : EF} {ds acc : List D} {Q : D → Hp → Hp → En → Prop} (p : Pst T U σ G (lcS b vs t f ds acc ρ) Q W) : Pst T U σ G (lcS b vs t f ds acc ρ) Q WF := by
    cases e : lcS b vs t f ds acc ρ with
    | ok a ρ' => rw [e] at p; exact p
    | ex c ns vs2 ρ' => exact absurd e (lcS_nox _ _ _ _ _ _ _)
    | bad => rw [e] at p; exact p
/-- no test -/
def tYesJ : TF := fun ρ => .ok true ρ
theorem jts_nil : PTs X [] (tT T WF tYesJ) := by
  refine ⟨fun pins s σ H Q I ⟨U, G, ρ, R, q⟩ => pts_nil.run pins s σ H Q I (q G H R (L2.Same.refl _))⟩
theorem jts_one {c : Expr} {t : TF} (h : JT X T WF c t) : PTs X [c] (tT T WF t) := pts_one h.run
/-- y = [..], on one line -/
theorem j_setLc {i : Nat} {y : Str} {py : Pos} {elt iter : Expr} {ifs : List Expr} {scope : Scope} {own : List (Str × Nat)} {pos spos : Pos} {it : LF} {b : BF} {wb : List Nat} {t : TF} {f : EF} (hc : X.calm = true) (hN : X.N.Nodup) (hi : JI X T W tg iter it) (ok : BlkOk X.N X.env.scope scope own) (hwb : ∀ j, j ∈ wb → j ∈ own.map (·.2))
    (hg : ∀ (s : Shared) (H : Hp) (C : Addr) (cl : List (Str × Addr)) (fp : List Addr), JG (X.blk s H scope (compEnvC scope cl C X.env) fp) T wb tg b)
    (ht : ∀ (s : Shared) (H : Hp) (C : Addr) (cl : List (Str × Addr)) (fp : List Addr), PTs (X.blk s H scope (compEnvC scope cl C X.env) fp) ifs (tT T WF t))
    (he : ∀ (s : Shared) (H : Hp) (C : Addr) (cl : List (Str × Addr)) (fp : List Addr), JE (X.blk s H scope (compEnvC scope cl C X.env) fp) T WF elt f)
    (hsw : swapsWith (.ListComp elt [⟨tg, iter, ifs, 0⟩] scope pos) (some (.Name y py)) spos.line X.env = pure true)
    (hy : X.N[i]? = some y := by rfl) (hyl : X.env.scope.names.lookup y = some .local := by rfl) (hs : ∀ x, foldedSetIterable iter X.env x = pure x := by intro _; rfl) :
    JS X T W [i] (.Assign [.Name y py] (.ListComp elt [⟨tg, iter, ifs, 0⟩] scope pos) spos) (sSetO i (eLc it b (own.map (·.2)) t f)) := by
  refine ⟨hi.k, ps_imp (ps_setLc hc hN hy hyl hsw hi.run ok (fun s H C cl fp => (hg s H C cl fp).run) ht (fun s H C cl fp => (he s H C cl fp).run) hs) fun D σ H ⟨U, G, ρ, R, q⟩ => ?_⟩
  refine j_lcO.lc_red (Q := fun x H1 => gName i x σ H1 D.nx) hwb R ?_
  exact (PstS.bndE q).mono (L2.Same.refl _) fun d G' H' ρ' _ ⟨R', s, p⟩ a o g u hh r hn => p _ G' H' (R'.setOw u g hh r hn) (L2.Same.refl _) Keeps.set
end
end J

set_option Elab.async false
set_option linter.all false
set_option maxRecDepth 100000
set_option maxHeartbeats 4000000
namespace J
open PySem PySem.Spec PyProof.Rows L2

/-! ### defs as functions -/
inductive Rv where
  | ok (d : D) | ex (c : Nat) (ns : List Nat) (vs : List D) | bad
def Rv.at (r : Rv) (ρ : En) : Rs D := match r with
  | .ok d => .ok d ρ
  | .ex c ns vs => .ex c ns vs ρ
  | .bad => .bad
@[simp] theorem Rv.at_ok (d : D) (ρ : En) : (Rv.ok d).at ρ = .ok d ρ := rfl
@[simp] theorem Rv.at_ex (c : Nat) (ns : List Nat) (vs : List D) (ρ : En) : (Rv.ex c ns vs).at ρ = .ex c ns vs ρ := rfl
@[simp] theorem Rv.at_bad (ρ : En) : Rv.bad.at ρ = .bad := rfl
abbrev FV := List D → Rv
def PstV (T : Tab) (U G : Hp) (r : Rv) (Q : VK) (E : XK) : Prop := match r with
  | .ok d => ∀ G' H', Rel T U G' H' [] [] → L2.Same G G' → ∀ v, Rep T G' v d → Q v H'
  | .ex c ns vs => ∀ cls dx G' H', Rel T U G' H' [] [] → L2.Same G G' → XRep T G' c ns vs cls dx → E cls dx H'
  | .bad => False
/-- a def of n values -/
def spV (T : Tab) (n : Nat) (F : FV) : Sp := fun vs H Q E => vs.length = n ∧ ∃ U G ds, Rel T U G H [] [] ∧ Reps T G vs ds ∧ PstV T U G (F ds) Q E
/-- a def of an owned object, lent, and n values; it raises nothing -/
abbrev FL := D → List D → Option (D × D)
def spL (T : Tab) (n : Nat) (F : FL) : Sp := fun vs H Q E => vs.length = n + 1 ∧ ∃ U G d0 ds p vs', vs = .ref p :: vs' ∧ Rel T U G H [some (.ref p)] [.ow d0] ∧ Reps T G vs' ds ∧
  match F d0 ds with
  | some (d, d1) => ∀ G' H', Rel T U G' H' [some (.ref p)] [.ow d1] → L2.Same G G' → ∀ v, Rep T G' v d → Q v H'
  | none => False
def fnV (m : Nat) (body : SF) : FV := fun ds => match body (ds.map .sh ++ List.replicate m .no) with
  | .ok .nx _ => .ok .non
  | .ok (.rt d) _ => .ok d
  | .ex c ns vs _ => .ex c ns vs
  | .bad => .bad
def ow0 (ρ : En) (d : D) : Option (D × D) := match (ρ[0]? : Option Sl) with
  | some (Sl.ow d1) => some (d, d1)
  | _ => none
def fnL (m : Nat) (body : SF) : FL := fun d0 ds => match body (.ow d0 :: (ds.map .sh ++ List.replicate m .no)) with
  | .ok .nx ρ => ow0 ρ .non
  | .ok (.rt d) ρ => ow0 ρ d
  | .ex _ _ _ _ => none
  | .bad => none

section
variable {T : Tab} {U G H : Hp}
theorem Rel.nil {σ : L2.St} {ρ : En} (R : Rel T U G H σ ρ) : Rel T U G H [] [] :=
  ⟨R.same, rfl, fun i d h => by simp at h, fun i d h => by simp at h, fun i j d d' a h => by simp at h, R.out, fun i c ns vs h => by simp at h⟩
theorem Rel.entry {vs : List V} {ds : List D} (R : Rel T U G H [] []) (r : Reps T G vs ds) (m : Nat) : Rel T U G H (vs.map some ++ List.replicate m none) (ds.map .sh ++ List.replicate m .no) := by
  have hl := r.length
  have key : ∀ (i : Nat) (s : Sl), (ds.map Sl.sh ++ List.replicate m .no)[i]? = some s → s ≠ .no → ∃ d, ds[i]? = some d ∧ s = .sh d := fun i s h hs => by
    by_cases hi : i < ds.length
    · rw [List.getElem?_append_left (by simpa using hi), List.getElem?_map] at h
      rw [List.getElem?_eq_getElem hi] at h ⊢
      exact ⟨_, rfl, by cases h; rfl⟩
    · rw [List.getElem?_append_right (by simpa using hi), List.getElem?_replicate] at h
      split at h
      · cases h; exact absurd rfl hs
      · cases h
  refine ⟨R.same, by simp [hl], fun i d h => ?_, fun i d h => ?_, fun i j d d' a h => ?_, R.out, fun i c ns vs h => by
    obtain ⟨d', e, e2⟩ := key i _ h (by intro z; cases z)
    cases e2⟩
  · obtain ⟨d', e, e2⟩ := key i _ h (by intro z; cases z)
    cases e2
    obtain ⟨x, e3, r3⟩ := r.getD e
    refine ⟨x, ?_, r3⟩
    have hi := (List.getElem?_eq_some_iff.mp e3).1
    rw [List.getElem?_append_left (by simpa using hi), List.getElem?_map, e3]
    rfl
  · obtain ⟨d', e, e2⟩ := key i _ h (by intro z; cases z)
    cases e2
  · obtain ⟨d', e, e2⟩ := key i _ h (by intro z; cases z)
    cases e2
theorem Rel.entryL {p : Addr} {d0 : D} {vs : List V} {ds : List D} (R : Rel T U G H [some (.ref p)] [.ow d0]) (r : Reps T G vs ds) (m : Nat) :
    Rel T U G H (some (.ref p) :: (vs.map some ++ List.replicate m none)) (.ow d0 :: (ds.map .sh ++ List.replicate m .no)) := by
  have E := Rel.entry R.nil r m
  refine ⟨R.same, by simpa using E.len, fun i d h => ?_, fun i d h => ?_, fun i j d d' a h1 h2 h3 h4 => ?_, R.out, fun i c ns vs h => by
    cases i with
    | zero => cases h
    | succ i => exact E.exn i c ns vs h⟩
  · cases i with
    | zero => cases h
    | succ i => exact E.sh i d h
  · cases i with
    | zero => exact R.ow 0 d h
    | succ i => exact E.ow i d h
  · cases i with
    | zero =>
      cases j with
      | zero => rfl
      | succ j => exact absurd h2 (noOw' j d')
    | succ i => exact absurd h1 (noOw' i d)
where
  noOw' {ds : List D} {m : Nat} (i : Nat) (d : D) : (ds.map Sl.sh ++ List.replicate m .no)[i]? ≠ some (.ow d) := fun h => by
    rcases List.mem_append.mp (List.mem_of_getElem? h) with h | h
    · obtain ⟨_, _, z⟩ := List.mem_map.mp h
      cases z
    · cases (List.eq_of_mem_replicate h)
theorem Rel.exitL {p : Addr} {σ' : L2.St} {ρ' : En} {d1 : D} (R : Rel T U G H σ' ρ') (hσ : σ'[0]? = some (some (.ref p))) (hρ : ρ'[0]? = some (.ow d1)) : Rel T U G H [some (.ref p)] [.ow d1] := by
  refine ⟨R.same, rfl, fun i d h => ?_, fun i d h => ?_, fun i j d d' a h1 h2 h3 h4 => ?_, R.out, fun i c ns vs h => by
    cases i with
    | zero => cases h
    | succ i => simp at h⟩
  · cases i with
    | zero => cases h
    | succ i => simp at h
  · cases i with
    | zero =>
      cases h
      obtain ⟨a, o, e, r⟩ := R.ow 0 _ hρ
      rw [hσ] at e
      exact ⟨a, o, e, r⟩
    | succ i => simp at h
  · cases i with
    | zero =>
      cases j with
      | zero => rfl
      | succ j => simp at h2
    | succ i => simp at h1
/-- what a callee must leave alone -/
def lift (H G : Hp) : Hp := fun a => match G a with
  | some _ => none
  | none => H a
theorem lift_ok {H G : Hp} {a : Addr} {o : HO} : lift H G a = some o ↔ H a = some o ∧ G a = none := by
  unfold lift
  cases e : G a with
  | some _ => simp
  | none => simp
theorem Rel.lift {σ : L2.St} {ρ : En} (R : Rel T U G H σ ρ) : Rel T (lift H G) G H [] [] :=
  ⟨R.same, rfl, fun i d h => by simp at h, fun i d h => by simp at h, fun i j d d' a h => by simp at h, fun a o h => lift_ok.mp h, fun i c ns vs h => by simp at h⟩
theorem Rel.over {σ : L2.St} {ρ : En} {G' H' : Hp} (R : Rel T U G H σ ρ) (R2 : Rel T (J.lift H G) G' H' [] []) (s : L2.Same G G') : Rel T U G' H' σ ρ := by
  refine ⟨R2.same, R.len, fun i d h => ?_, fun i d h => ?_, R.dist, fun a o h => ?_, fun i c ns vs h => (R.exn i c ns vs h).mono s⟩
  · obtain ⟨v, e, r⟩ := R.sh i d h
    exact ⟨v, e, r.mono s⟩
  · obtain ⟨a, o, e, g, u, hh, r⟩ := R.ow i d h
    obtain ⟨h1, h2⟩ := R2.out a o (lift_ok.mpr ⟨hh, g⟩)
    exact ⟨a, o, e, h2, u, h1, r.mono s⟩
  · obtain ⟨h1, h2⟩ := R.out a o h
    exact R2.out a o (lift_ok.mpr ⟨h1, h2⟩)
theorem Rel.lend {σ : L2.St} {ρ : En} {i : Nat} {d : D} (R : Rel T U G H σ ρ) (h : ρ[i]? = some (.ow d)) :
    ∃ p, σ[i]? = some (some (.ref p)) ∧ Rel T (unheld (J.lift H G) p) G H [some (.ref p)] [.ow d] := by
  obtain ⟨p, o, e, g, u, hh, r⟩ := R.ow i d h
  refine ⟨p, e, R.same, rfl, fun j d' h' => ?_, fun j d' h' => ?_, fun j k d1 d2 a h1 h2 _ _ => ?_, fun a q h' => ?_, fun j c ns vs h' => by
    cases j with
    | zero => cases h'
    | succ j => simp at h'⟩
  · cases j with
    | zero => cases h'
    | succ j => simp at h'
  · cases j with
    | zero =>
      cases h'
      exact ⟨p, o, rfl, g, unheld_same, hh, r⟩
    | succ j => simp at h'
  · cases j with
    | zero =>
      cases k with
      | zero => rfl
      | succ j => simp at h2
    | succ j => simp at h1
  · by_cases ha : a = p
    · rw [ha, unheld_same] at h'; cases h'
    · rw [unheld_ne ha] at h'
      exact lift_ok.mp h'
theorem Rel.overL {σ : L2.St} {ρ : En} {G' H' : Hp} {i : Nat} {d d1 : D} {p : Addr} (R : Rel T U G H σ ρ) (h : ρ[i]? = some (.ow d)) (hp : σ[i]? = some (some (.ref p))) (R2 : Rel T (unheld (J.lift H G) p) G' H' [some (.ref p)] [.ow d1]) (s : L2.Same G G') :
    Rel T U G' H' σ (ρ.set i (.ow d1)) := by
  obtain ⟨p', o', e, g, u, hh, r⟩ := R.ow i d h
  rw [hp] at e
  cases e
  refine ⟨R2.same, by simp [R.len], fun j e h' => ?_, fun j e h' => ?_, fun j k dj dk a h1 h2 h3 h4 => ?_, fun a o h' => ?_, fun j c ns vs h' => by
    rcases get_set h' with ⟨_, z⟩ | ⟨_, h'⟩
    · cases z
    · exact (R.exn j c ns vs h').mono s⟩
  · rcases get_set h' with ⟨_, z⟩ | ⟨hj, h'⟩
    · cases z
    · obtain ⟨v, e1, r1⟩ := R.sh j e h'
      exact ⟨v, e1, r1.mono s⟩
  · rcases get_set h' with ⟨rfl, z⟩ | ⟨hj, h'⟩
    · cases z
      obtain ⟨a, o, e1, g1, _, h1, r1⟩ := R2.ow 0 _ rfl
      cases e1
      exact ⟨_, o, hp, g1, u, h1, r1⟩
    · obtain ⟨a, o, e1, g1, u1, h1, r1⟩ := R.ow j e h'
      have ne : a ≠ p := fun z => by subst z; exact hj (R.dist j i e d a h' h e1 hp)
      obtain ⟨h3, h4⟩ := R2.out a o (by rw [unheld_ne ne]; exact lift_ok.mpr ⟨h1, g1⟩)
      exact ⟨a, o, e1, h4, u1, h3, r1.mono s⟩
  · have key : ∀ {k : Nat} {dk : D}, (ρ.set i (Sl.ow d1))[k]? = some (Sl.ow dk) → ∃ dk', ρ[k]? = some (Sl.ow dk') := fun {k dk} h' => by
      rcases get_set h' with ⟨e, _⟩ | ⟨_, h'⟩
      · exact ⟨d, by rw [e]; exact h⟩
      · exact ⟨dk, h'⟩
    obtain ⟨d1, k1⟩ := key h1
    obtain ⟨d2, k2⟩ := key h2
    exact R.dist j k d1 d2 a k1 k2 h3 h4
  · obtain ⟨h1, h2⟩ := R.out a o h'
    have ne : a ≠ p := fun z => by subst z; rw [u] at h'; cases h'
    exact R2.out a o (by rw [unheld_ne ne]; exact lift_ok.mpr ⟨h1, h2⟩)
end

/-! ### a def by its body -/
abbrev WO (E : XK) : WX := fun cls d _ H => E cls d H
section
variable {P : Program} {w : World} {K : PySem.W.Frag} {mg : Str → Option Value} {base : Heap} {T : Tab}
theorem start_at {N ps : List Str} {vs : List V} {m : Nat} (hN : N.length = ps.length + m) (hl : vs.length = ps.length) : L2.start N vs = vs.map some ++ List.replicate m none := by
  unfold L2.start
  rw [hN, hl, Nat.add_sub_cancel_left]
theorem fnV_ok {x qual : Str} {st : Stmt} {f : Addr} {fd : FuncData} {N ps : List Str} {k m : Nat} {ws : List Nat} {body : SF} (F : Fun K x qual st f fd) (S : FnScope N ps (defScope st)) (hN : N.length = ps.length + m)
    (hbody : ∀ (cdv : Value) (A : Around) (outer : List Env) (s : Shared) (H : Hp) (E : XK), Room k (A.deeper (envOfC qual (defScope st) s.heap.objs.size f cdv)) →
      JSs (cxOf (L2.CX P w) P w K mg base N qual (defScope st) f cdv A outer s H E) T (WO E) ws (defBody st) body) : FnOk P w K mg base (L2.CX P w) (k + 1) f fd ps (spV T ps.length (fnV m body)) := by
  refine F.okX S (fun vs H Q E h => h.1) (fun cdv A outer s H vs Q E hr h => ?_)
  obtain ⟨hl, U, G, ds, R, r, p⟩ := h
  refine ⟨_, (hbody cdv A outer s H E hr).run, U, G, _, start_at hN hl ▸ R.entry r m, ?_⟩
  unfold fnV at p
  cases e : body (ds.map .sh ++ List.replicate m .no) with
  | ok a ρ' =>
    rw [e] at p
    cases a with
    | nx => exact fun σ' G' H' R' s' _ => p G' H' R'.nil s' _ rfl
    | rt d => exact fun v σ' G' H' R' s' _ r' => p G' H' R'.nil s' v r'
  | ex c ns vs ρ' => rw [e] at p; exact fun cls dx σ' G' H' R' s' _ x => p cls dx G' H' R'.nil s' x
  | bad => rw [e] at p; exact p.elim
theorem fnL_ok {x qual : Str} {st : Stmt} {f : Addr} {fd : FuncData} {N ps : List Str} {k m n : Nat} {ws : List Nat} {body : SF} (F : Fun K x qual st f fd) (S : FnScope N ps (defScope st)) (hN : N.length = ps.length + m) (hn : ps.length = n + 1) (hw : 0 ∉ ws)
    (hbody : ∀ (cdv : Value) (A : Around) (outer : List Env) (s : Shared) (H : Hp) (E : XK), Room k (A.deeper (envOfC qual (defScope st) s.heap.objs.size f cdv)) →
      JSs (cxOf (L2.CX P w) P w K mg base N qual (defScope st) f cdv A outer s H E) T (WO E) ws (defBody st) body) : FnOk P w K mg base (L2.CX P w) (k + 1) f fd ps (spL T n (fnL m body)) := by
  refine F.okX S (fun vs H Q E h => h.1.trans hn.symm) (fun cdv A outer s H vs Q E hr h => ?_)
  obtain ⟨hl, U, G, d0, ds, q, vs', rfl, R, r, p⟩ := h
  refine ⟨_, (hbody cdv A outer s H E hr).run, U, G, _, (by rw [start_at hN (hl.trans hn.symm)]; exact R.entryL r m), ?_⟩
  have hσ : ∀ σ', Keeps ws (L2.start N (V.ref q :: vs')) σ' → σ'[0]? = some (some (.ref q)) := fun σ' k => by
    rw [k.2 0 hw, start_at hN (hl.trans hn.symm)]
    rfl
  unfold fnL at p
  cases e : body (.ow d0 :: (ds.map .sh ++ List.replicate m .no)) with
  | ok a ρ' =>
    rw [e] at p
    cases a with
    | nx =>
      simp only [ow0] at p
      split at p
      · rename_i d d1 e2
        split at e2
        · rename_i e3
          cases e2
          exact fun σ' G' H' R' s' k' => p G' H' (R'.exitL (hσ σ' k') e3) s' _ rfl
        · cases e2
      · exact p.elim
    | rt d =>
      simp only [ow0] at p
      split at p
      · rename_i d d1 e2
        split at e2
        · rename_i e3
          cases e2
          exact fun v σ' G' H' R' s' k' r' => p G' H' (R'.exitL (hσ σ' k') e3) s' v r'
        · cases e2
      · exact p.elim
  | ex c ns vs ρ' => rw [e] at p; exact p.elim
  | bad => rw [e] at p; exact p.elim
end

/-! ### calls -/
section
variable {X : Cx} {T : Tab} {W : WX} {k n : Nat} {f : Addr} {fd : FuncData} {ps : List Str} {x : Str} {p pos : Pos} {e : Expr} {es : List Expr}
def eCall (F : FV) (dd : List D) (g : AF) : EF := fun ρ => (g ρ).bnd fun as ρ' => match vals as with
  | some ds => (F (ds ++ dd)).at ρ'
  | none => .bad
theorem call_red {F : FV} {g : AF} {dd : List D} {dv : List V} (hlen : ∀ ρ as ρ', g ρ = .ok as ρ' → as.length + dd.length = n) (hdd : ∀ G, Reps T G dv dd) {σ : L2.St} {H : Hp} {Q : VK} (q : tE T W (eCall F dd g) σ H Q) : tCallSD (spV T n F) dv (WE W) (tA T W g) σ H Q := by
  obtain ⟨U, G, ρ, R, q⟩ := q
  refine ⟨U, G, ρ, R, ?_⟩
  have q' := Pst.bnd q
  cases hf : g ρ with
  | ok as ρ' =>
    rw [hf] at q'
    intro G1 H1 R1 s1 vs avs
    obtain ⟨_, _, p⟩ := q' G1 H1 R1 s1
    cases e2 : vals as with
    | none => rw [e2] at p; exact p.elim
    | some ds =>
      rw [e2] at p
      have rs := vals_ok avs e2
      refine ⟨?_, J.lift H1 G1, G1, ds ++ dd, R1.lift, rs.app (hdd G1), ?_⟩
      · rw [List.length_append, ars_len avs, (hdd G1).length]
        exact hlen _ _ _ hf
      · dsimp only at p
        cases e3 : F (ds ++ dd) with
        | ok d => rw [e3] at p; exact fun G2 H2 R2 s2 v r => p G2 H2 (R1.over R2 s2) s2 v r
        | ex c ns vs => rw [e3] at p; exact fun cls dx G2 H2 R2 s2 x => p cls dx G2 H2 (R1.over R2 s2) s2 x
        | bad => rw [e3] at p; exact p.elim
  | ex c ns vs ρ' => rw [hf] at q'; exact q'
  | bad => rw [hf] at q'; exact q'
theorem j_call {F : FV} {g : AF} {dd : List D} {dv : List V} {dvs : List Value} (Fo : FnOk X.prog X.w X.K X.mg X.base (L2.CX X.prog X.w) k f fd ps (spV T n F)) (hr : Room k X.A) (hm : X.mg x = some (.ref f)) (hk : PySem.W.keepIn X.K (.ref f) = true) (hb : Binds X.K fd ps dvs) (hd : Vals dv dvs) (hdd : ∀ G, Reps T G dv dd) (tk : Takes X W)
    (ha : JA X T W (e :: es) g) (hn : (e :: es).length + dd.length = n) (hg : Gl X x := by rfl) (hdb : (x == ("__debug__" : Str)) = false := by decide) (he : starEach (e :: es) X.env = (false, eval e X.env) :: starEach es X.env := by rfl) (hpl : (backTo pos (starEach es X.env)).any (·.1) = false := by rfl) :
    JE X T W (.Call (.Name x p) (e :: es) [] pos) (eCall F dd g) :=
  ⟨ha.k, pe_imp (pe_callSD Fo hr hg hm hk hb hd (passAt tk) ha.run hdb he hpl) fun σ H Q q => call_red (fun ρ as ρ' h => by rw [ha.len _ _ _ h]; exact hn) hdd q⟩
/-- f() -/
theorem j_call0 {F : FV} {dd : List D} {dv : List V} {dvs : List Value} (Fo : FnOk X.prog X.w X.K X.mg X.base (L2.CX X.prog X.w) k f fd ps (spV T n F)) (hr : Room k X.A) (hm : X.mg x = some (.ref f)) (hk : PySem.W.keepIn X.K (.ref f) = true) (hb : Binds X.K fd ps dvs) (hd : Vals dv dvs) (hdd : ∀ G, Reps T G dv dd) (tk : Takes X W)
    (hK : X.K = T.K) (hn : dd.length = n) (hg : Gl X x := by rfl) (hdb : (x == ("__debug__" : Str)) = false := by decide) : JE X T W (.Call (.Name x p) [] [] pos) (eCall F dd aNil) := by
  refine ⟨hK, ⟨fun pins s σ H Q I q => ?_⟩⟩
  have q2 := call_red (n := n) (dv := dv) (fun ρ as ρ' h => by cases h; simpa using hn) hdd q
  obtain ⟨U, G, ρ, R, q3⟩ := q2
  refine wpAny_Call_Name_kw (ld_glob I hg hm ?_ hdb)
  refine PySem.W.callWith_K0 I.kIn hk ?_
  exact run_fnSD (us := []) (vs := []) Fo hr hb hd (passAt tk σ) I .nil (q3 G H R (L2.Same.refl _) [] True.intro)
/-- f(o, ..), o lent -/
def eCallL (F : FL) (g : AF) : EF := fun ρ => (g ρ).bnd fun as ρ' => match as with
  | .s i :: r => (match ρ'[i]?, vals r with
    | some (.ow d0), some ds => (match F d0 ds with
      | some (d, d1) => .ok d (ρ'.set i (.ow d1))
      | none => .bad)
    | _, _ => .bad)
  | _ => .bad
theorem j_callL {F : FL} {g : AF} (Fo : FnOk X.prog X.w X.K X.mg X.base (L2.CX X.prog X.w) k f fd ps (spL T n F)) (hr : Room k X.A) (hm : X.mg x = some (.ref f)) (hk : PySem.W.keepIn X.K (.ref f) = true) (hb : Binds X.K fd ps []) (tk : Takes X W)
    (ha : JA X T W (e :: es) g) (hn : (e :: es).length = n + 1) (hg : Gl X x := by rfl) (hdb : (x == ("__debug__" : Str)) = false := by decide) (he : starEach (e :: es) X.env = (false, eval e X.env) :: starEach es X.env := by rfl) (hpl : (backTo pos (starEach es X.env)).any (·.1) = false := by rfl) :
    JE X T W (.Call (.Name x p) (e :: es) [] pos) (eCallL F g) := by
  refine ⟨ha.k, pe_imp (pe_callS (E := WE W) Fo hr hg hm hk hb (passAt tk) ha.run hdb he hpl) fun σ H Q ⟨U, G, ρ, R, q⟩ => ⟨U, G, ρ, R, ?_⟩⟩
  have q' := Pst.bnd q
  cases hf : g ρ with
  | ok as ρ' =>
    rw [hf] at q'
    intro G1 H1 R1 s1 vs avs
    obtain ⟨_, _, p⟩ := q' G1 H1 R1 s1
    have hl := ha.len _ _ _ hf
    match as, vs, avs, p, hl with
    | .v _ :: _, _, _, p, _ => exact p.elim
    | [], _, _, p, _ => exact p.elim
    | .s i :: r, [], avs, p, _ => exact avs.elim
    | .s i :: r, v :: vs', avs, p, hl =>
      dsimp only at p
      split at p
      · rename_i d0 ds e1 e2
        split at p
        · rename_i d d1 e3
          obtain ⟨q1, e4, RL⟩ := R1.lend e1
          have e5 : σ[i]? = some (some v) := avs.1
          rw [e4] at e5
          cases e5
          refine ⟨?_, _, G1, d0, ds, q1, vs', rfl, RL, vals_ok avs.2 e2, ?_⟩
          · rw [List.length_cons, ars_len avs.2]
            exact hl.trans hn
          · rw [e3]
            exact fun G2 H2 R2 s2 v r => p G2 H2 (R1.overL e1 e4 R2 s2) s2 v r
        · exact p.elim
      · exact p.elim
  | ex c ns vs ρ' => rw [hf] at q'; exact q'
  | bad => rw [hf] at q'; exact q'
end
end J

set_option Elab.async false
set_option linter.all false
set_option maxRecDepth 100000
set_option maxHeartbeats 4000000
namespace J
open PySem PySem.Spec PyProof.Rows L2 NdefX

/-! ### the __init__ of an exception -/
def spXi (C : Addr) (fs : List Str) : Sp := fun vs H Q _ => vs.length = fs.length + 1 ∧ ∃ a ys, vs = .ref a :: ys ∧ H a = some (exo a C none) ∧
  ∀ dx, H dx = none → dx ≠ a → Q .non (upd (upd H dx (exd dx (fs.zip ys).reverse)) a (exo a C (some dx)))
abbrev supCall (p0 p1 p2 p3 p4 : Pos) (es : List Expr) : Stmt := .Expr (.Call (.Attribute (.Call (.Name "super" p0) [] [] p1) "__init__" p2) es [] p3) p4
section
variable {P : Program} {w : World} {K : PySem.W.Frag} {mg : Str → Option Value} {base : Heap} {k : Nat} {f cc cda C : Addr} {name qual : Str} {params : Arguments} {scope : Scope} {dV kV doc pm ct oc : Value} {an od : Option Addr}
    {osl : Array (Option Value)} {p0 p1 p2 p3 p4 q1 q2 q3 q4 q5 q6 q7 q8 q9 r1 : Pos} {a1 a2 f1 f2 : Str} {pl : Env → Sem Bool}
theorem fn_x1 (lk : K.lookup f = some ⟨oc, od, .func (PySem.W.ksFn name qual params [supCall p0 p1 p2 p3 p4 [.Name a1 q1], .Assign [.Attribute (.Name "self" q2) f1 q3] (.Name a1 q4) q5] scope dV kV doc pm an (.ref cda) ct cc), osl⟩)
    (hcd : PySem.W.codeIn K (.ref cda) qual = true) (S : NScope ["self", a1, "__class__"] ["self", a1] ["__class__"] scope) (T : SupC K P C cc cda) (TO : OexC K C) (har : ∃ ar, (params.posonlyargs ++ params.args).head? = some ar ∧ ar.arg = "self")
    (hsup : scope.names.lookup ("super" : Str) = some .globalImplicit) (hms : mg "super" = none) (hf1 : PySem.W.findIn K (.ref C) f1 = some none) (hd1 : (a1 == ("__debug__" : Str)) = false) (hc1 : (a1 == ("__classdict__" : Str)) = false)
    (hev : ∀ env, eval (.Call (.Attribute (.Call (.Name "super" p0) [] [] p1) "__init__" p2) [.Name a1 q1] [] p3) env = (do
      let ov ← attributeBase (.Call (.Name "super" p0) [] [] p1) "__init__" env (eval (.Call (.Name "super" p0) [] [] p1) env)
      standAt p2.atName
      let (f, first) ← holding [ov] (getMethod ov "__init__" (pl env))
      callWith p3 f first (backTo p3 (starEach [.Name a1 q1] env)) []) := by intro _; rfl) :
    FnOk P w K mg base C8.CX0 (k + 1) f (PySem.W.ksFn name qual params [supCall p0 p1 p2 p3 p4 [.Name a1 q1], .Assign [.Attribute (.Name "self" q2) f1 q3] (.Name a1 q4) q5] scope dV kV doc pm an (.ref cda) ct cc) ["self", a1] (spXi C [f1]) := by
  obtain ⟨ar, har1, har2⟩ := har
  have hs : scope.names.lookup ("self" : Str) = some .local := S.par _ (by simp)
  have h1 : scope.names.lookup a1 = some .local := S.par _ (by simp)
  refine fnok_super (pl := pl) lk hcd S T TO rfl har1 (by rw [har2]; rfl) (by rw [har2]; exact hs) hsup hms (fun vs H Q E h => h.1) (fun A outer s H vs Q E h => ?_) hev
  obtain ⟨hl, a, ys, rfl, ha, q⟩ := h
  match ys, hl with
  | [y], _ =>
  refine ⟨a, _, _, rfl, ha, pa_cons (pe_var (i := 1) rfl (.inl h1) hd1 hc1) pa_nil, pss_one (ps_ost (pe_var (i := 0) rfl (.inl hs)) (pe_var (i := 1) rfl (.inl h1) hd1 hc1)), ?_⟩
  refine ⟨y, rfl, by simp, ha, y, rfl, _, rfl, a, C, rfl, TO, hf1, .inl ⟨ha, fun dx hx hne => q dx hx hne⟩⟩
theorem fn_x2 (lk : K.lookup f = some ⟨oc, od, .func (PySem.W.ksFn name qual params [supCall p0 p1 p2 p3 p4 [.Name a1 q1, .Name a2 q2], .Assign [.Attribute (.Name "self" q3) f1 q4] (.Name a1 q5) q6, .Assign [.Attribute (.Name "self" q7) f2 q8] (.Name a2 q9) r1] scope dV kV doc pm an (.ref cda) ct cc), osl⟩)
    (hcd : PySem.W.codeIn K (.ref cda) qual = true) (S : NScope ["self", a1, a2, "__class__"] ["self", a1, a2] ["__class__"] scope) (T : SupC K P C cc cda) (TO : OexC K C) (har : ∃ ar, (params.posonlyargs ++ params.args).head? = some ar ∧ ar.arg = "self")
    (hsup : scope.names.lookup ("super" : Str) = some .globalImplicit) (hms : mg "super" = none) (hf1 : PySem.W.findIn K (.ref C) f1 = some none) (hf2 : PySem.W.findIn K (.ref C) f2 = some none) (hd1 : (a1 == ("__debug__" : Str)) = false) (hc1 : (a1 == ("__classdict__" : Str)) = false) (hd2 : (a2 == ("__debug__" : Str)) = false) (hc2 : (a2 == ("__classdict__" : Str)) = false)
    (hev : ∀ env, eval (.Call (.Attribute (.Call (.Name "super" p0) [] [] p1) "__init__" p2) [.Name a1 q1, .Name a2 q2] [] p3) env = (do
      let ov ← attributeBase (.Call (.Name "super" p0) [] [] p1) "__init__" env (eval (.Call (.Name "super" p0) [] [] p1) env)
      standAt p2.atName
      let (f, first) ← holding [ov] (getMethod ov "__init__" (pl env))
      callWith p3 f first (backTo p3 (starEach [.Name a1 q1, .Name a2 q2] env)) []) := by intro _; rfl) :
    FnOk P w K mg base C8.CX0 (k + 1) f (PySem.W.ksFn name qual params [supCall p0 p1 p2 p3 p4 [.Name a1 q1, .Name a2 q2], .Assign [.Attribute (.Name "self" q3) f1 q4] (.Name a1 q5) q6, .Assign [.Attribute (.Name "self" q7) f2 q8] (.Name a2 q9) r1] scope dV kV doc pm an (.ref cda) ct cc) ["self", a1, a2] (spXi C [f1, f2]) := by
  obtain ⟨ar, har1, har2⟩ := har
  have hs : scope.names.lookup ("self" : Str) = some .local := S.par _ (by simp)
  have h1 : scope.names.lookup a1 = some .local := S.par _ (by simp)
  have h2 : scope.names.lookup a2 = some .local := S.par _ (by simp)
  refine fnok_super (pl := pl) lk hcd S T TO rfl har1 (by rw [har2]; rfl) (by rw [har2]; exact hs) hsup hms (fun vs H Q E h => h.1) (fun A outer s H vs Q E h => ?_) hev
  obtain ⟨hl, a, ys, rfl, ha, q⟩ := h
  match ys, hl with
  | [y, z], _ =>
  refine ⟨a, _, _, rfl, ha, pa_cons (pe_var (i := 1) rfl (.inl h1) hd1 hc1) (pa_cons (pe_var (i := 2) rfl (.inl h2) hd2 hc2) pa_nil), pss_cons (ps_ost (pe_var (i := 0) rfl (.inl hs)) (pe_var (i := 1) rfl (.inl h1) hd1 hc1)) (pss_one (ps_ost (pe_var (i := 0) rfl (.inl hs)) (pe_var (i := 2) rfl (.inl h2) hd2 hc2))), ?_⟩
  refine ⟨y, rfl, z, rfl, by simp, ha, y, rfl, _, rfl, a, C, rfl, TO, hf1, .inl ⟨ha, fun dx hx hne => ?_⟩⟩
  refine ⟨z, rfl, _, rfl, a, C, rfl, TO, hf2, .inr ⟨dx, _, upd_same, by rw [upd_ne hne, upd_same], by simp, ?_⟩⟩
  have e : upd (upd (upd H dx (exd dx [(f1, y)])) a (exo a C (some dx))) dx (exd dx [(f2, z), (f1, y)]) = upd (upd H dx (exd dx ([f1, f2].zip [y, z]).reverse)) a (exo a C (some dx)) := by
    funext b
    by_cases hb : b = dx
    · subst hb; rw [upd_same, upd_ne hne, upd_same]; rfl
    · rw [upd_ne hb]
      by_cases hb2 : b = a
      · subst hb2; rw [upd_same, upd_same]
      · rw [upd_ne hb2, upd_ne hb2, upd_ne hb, upd_ne hb]
  rw [e]
  exact q dx hx hne
end

/-! ### raise -/
/-- an own exception class whose __init__ keeps its arguments in the fields fs -/
structure ExK (P : Program) (w : World) (K : PySem.W.Frag) (mg : Str → Option Value) (base : Heap) (x : Str) (C : Addr) (fs : List Str) (k : Nat) : Prop where
  ox : OexC K C
  ini : ∃ fI fd ps, PySem.W.findIn K (.ref C) "__init__" = some (some (.ref fI)) ∧ PySem.W.typeIn K (.ref fI) = some (.type "function") ∧ FnOk P w K mg base C8.CX0 k fI fd ps (spXi C fs) ∧ Binds K fd ps []
  mgC : mg x = some (.ref C)
theorem Reps.rev {T : Tab} {G : Hp} : ∀ {ds : List D} {xs : List V}, Reps T G xs ds → Reps T G xs.reverse ds.reverse
  | [], _, r => by cases r; rfl
  | d :: ds, _, ⟨x, r, e, a, b⟩ => by
    subst e
    rw [List.reverse_cons, List.reverse_cons]
    exact (Reps.rev b).app (.one a)
section
variable {X : Cx} {T : Tab} {W : WX} {k : Nat} {C : Addr} {x : Str} {fs : List Str} {p pos pos' : Pos} {e : Expr} {es : List Expr}
def sRaise (c : Nat) (ns : List Nat) (g : AF) : SF := fun ρ => (g ρ).bnd fun as ρ' => match vals as with
  | some ds => .ex c ns ds.reverse ρ'
  | none => .bad
theorem zip_fst {α β : Type} : ∀ {a : List α} {b : List β}, a.length = b.length → (a.zip b).map (·.1) = a
  | [], _, _ => rfl
  | _ :: _, [], h => by simp at h
  | a :: as, b :: bs, h => by simp [zip_fst (by simpa using h : as.length = bs.length)]
theorem zip_snd {α β : Type} : ∀ {a : List α} {b : List β}, a.length = b.length → (a.zip b).map (·.2) = b
  | [], [], _ => rfl
  | [], _ :: _, h => by simp at h
  | _ :: _, [], h => by simp at h
  | a :: as, b :: bs, h => by simp [zip_snd (by simpa using h : as.length = bs.length)]
theorem j_raise {c : Nat} {ns : List Nat} {g : AF} (ek : ExK X.prog X.w X.K X.mg X.base x C fs k) (hr : Room (k + 1) X.A) (tk : Takes X W) (hC : T.exc c = C) (hns : fs.reverse = ns.map T.fnm) (ha : JA X T W (e :: es) g) (hl : (e :: es).length = fs.length) (hc : X.calm = true := by rfl) (hl2 : (e :: es).length ≤ 1000 := by decide)
    (hg : Gl X x := by rfl) (hdb : (x == ("__debug__" : Str)) = false := by decide) (he : starEach (e :: es) X.env = (false, eval e X.env) :: starEach es X.env := by rfl) (hpl : (backTo pos (starEach es X.env)).any (·.1) = false := by rfl) :
    JS X T W [] (.Raise (some (.Call (.Name x p) (e :: es) [] pos)) none pos') (sRaise c ns g) := by
  obtain ⟨fI, fd, ps, iC, tI, F1, hb⟩ := ek.ini
  refine ⟨ha.k, ps_imp (ps_raise hc tk (pmk_oex ek.ox iC tI F1 hr hb .nil C8.pass0 hg ek.mgC ha.run hdb he hpl)) fun D σ H ⟨U, G, ρ, R, q⟩ => ⟨U, G, ρ, R, ?_⟩⟩
  have q' := PstS.bndE q
  cases hf : g ρ with
  | ok as ρ' =>
    rw [hf] at q'
    intro G1 H1 R1 s1 vs avs
    obtain ⟨_, _, p⟩ := q' G1 H1 R1 s1
    cases e2 : vals as with
    | none => rw [e2] at p; exact p.elim
    | some ds =>
      rw [e2] at p
      have rs := vals_ok avs e2
      have hvl : vs.length = fs.length := by rw [ars_len avs, ha.len _ _ _ hf, hl]
      refine ⟨by omega, fun a hfa => ⟨by simp [hvl], a, vs ++ [], rfl, upd_same, fun dx hx hne => ⟨rfl, dx, (fs.zip (vs ++ [])).reverse, upd_same, by rw [upd_ne hne, upd_same], by rw [upd_ne hne] at hx; exact hx, ?_⟩⟩⟩
      rw [upd_ne hne] at hx
      rw [List.append_nil]
      have e3 : upd (del (upd (upd (upd H1 a (exo a C none)) dx (exd dx (fs.zip vs).reverse)) a (exo a C (some dx))) a) dx (.xd (fs.zip vs).reverse) = upd H1 dx (.xd (fs.zip vs).reverse) := by
        funext b
        by_cases hb : b = dx
        · subst hb; rw [upd_same, upd_same]
        · rw [upd_ne hb, upd_ne hb]
          by_cases hb2 : b = a
          · subst hb2; rw [del_same, hfa]
          · rw [del_ne hb2, upd_ne hb2, upd_ne hb, upd_ne hb2]
      rw [e3]
      have s2 := same_upd (o := .xd (fs.zip vs).reverse) (R1.gfree hx)
      refine p (.ref C) (some dx) σ _ _ (R1.alloc hx) s2 (Keeps.refl _ _) ⟨by rw [hC], (fs.zip vs).reverse, upd_same, ?_, ?_⟩
      · rw [List.map_reverse, zip_fst hvl.symm, hns]
      · rw [List.map_reverse, zip_snd hvl.symm]
        exact (rs.mono s2).rev
  | ex c ns vs ρ' => rw [hf] at q'; exact q'
  | bad => rw [hf] at q'; exact q'
end

/-! ### try -/
section
variable {T : Tab} {x : Option (Addr × Value × Option Addr)}
def eaT (T : Tab) (x : Option (Addr × Value × Option Addr)) : Tab := { T with ea := x }
mutual
theorem Rep.ea {G : Hp} : ∀ {d : D} {v : V}, Rep T G v d → Rep (eaT T x) G v d
  | .non, _, r => r
  | .bl _, _, r => r
  | .int _, _, r => r
  | .str _, _, r => r
  | .tup _, _, ⟨a, xs, e, q, r⟩ => ⟨a, xs, e, q, Reps.ea r⟩
  | .lst _, _, ⟨a, xs, e, q, r⟩ => ⟨a, xs, e, q, Reps.ea r⟩
  | .scr _, _, ⟨a, xs, e, q, r⟩ => ⟨a, xs, e, q, Reps.ea r⟩
  | .dct _ _, _, ⟨a, kk, e, q, k, n, r⟩ => ⟨a, kk, e, q, k, n, Reps.ea r⟩
  | .obj _ _ _, _, ⟨a, dx, fs, e, q, k, r⟩ => ⟨a, dx, fs, e, q, k, Reps.ea r⟩
  | .fn _, _, r => r
theorem Reps.ea {G : Hp} : ∀ {ds : List D} {xs : List V}, Reps T G xs ds → Reps (eaT T x) G xs ds
  | [], _, r => r
  | _ :: _, _, ⟨y, r, e, a, b⟩ => ⟨y, r, e, Rep.ea a, Reps.ea b⟩
end
theorem RepO.ea {G : Hp} {o : HO} {d : D} (r : RepO T G o d) : RepO (eaT T x) G o d := by
  cases d with
  | lst ds => obtain ⟨xs, e, r⟩ := r; exact ⟨xs, e, r.ea⟩
  | dct ks vs => obtain ⟨kk, e, k, n, r⟩ := r; exact ⟨kk, e, k, n, r.ea⟩
  | obj c ns vs => obtain ⟨dx, fs, e, k, r⟩ := r; exact ⟨dx, fs, e, k, r.ea⟩
  | _ => exact r.elim
theorem XRep.ea {G : Hp} {c : Nat} {ns : List Nat} {vs : List D} {cls : Value} {dx : Option Addr} (r : XRep T G c ns vs cls dx) : XRep (eaT T x) G c ns vs cls dx := by
  obtain ⟨e, r⟩ := r
  refine ⟨e, ?_⟩
  cases dx with
  | none => exact r
  | some d =>
    obtain ⟨fs, h1, h2, h3⟩ := r
    exact ⟨fs, h1, h2, h3.ea⟩
def isEx : Sl → Bool
  | .ex _ _ _ => true
  | _ => false
def noEx (ρ : En) : Bool := ρ.all fun s => !isEx s
theorem noEx_at {ρ : En} (h : noEx ρ = true) {i c : Nat} {ns : List Nat} {vs : List D} : ρ[i]? ≠ some (.ex c ns vs) := fun e => by
  have q := List.all_eq_true.mp h _ (List.mem_of_getElem? e)
  cases q
theorem Rel.ea {U G H : Hp} {σ : L2.St} {ρ : En} (R : Rel T U G H σ ρ) (h : noEx ρ = true) : Rel (eaT T x) U G H σ ρ := by
  refine ⟨R.same, R.len, fun i d e => ?_, fun i d e => ?_, R.dist, R.out, fun i c ns vs e => absurd e (noEx_at h)⟩
  · obtain ⟨v, e1, r⟩ := R.sh i d e
    exact ⟨v, e1, r.ea⟩
  · obtain ⟨a, o, e1, g, u, hh, r⟩ := R.ow i d e
    exact ⟨a, o, e1, g, u, hh, r.ea⟩
theorem eaT_back : eaT (eaT T x) T.ea = T := rfl
theorem Rel.aeN {U G H : Hp} {σ : L2.St} {ρ : En} {i : Nat} (R : Rel (eaT T x) U G H σ ρ) (h : noEx (ρ.set i .no) = true) : Rel T U G H (σ.set i none) (ρ.set i .no) := by
  have q := Rel.ea (x := T.ea) (R.setNo (i := i)) h
  rw [eaT_back] at q
  refine ⟨q.same, by rw [List.length_set]; exact q.len, fun j d e => ?_, fun j d e => ?_, fun j k dj dk a h1 h2 h3 h4 => ?_, q.out, fun j c ns vs e => absurd e (noEx_at h)⟩
  · rcases get_set e with ⟨_, z⟩ | ⟨hj, _⟩
    · cases z
    · rw [set_get_ne hj]; exact q.sh j d e
  · rcases get_set e with ⟨_, z⟩ | ⟨hj, _⟩
    · cases z
    · rw [set_get_ne hj]; exact q.ow j d e
  · rcases get_set h1 with ⟨_, z⟩ | ⟨hj, _⟩
    · cases z
    · rcases get_set h2 with ⟨_, z⟩ | ⟨hk, _⟩
      · cases z
      · rw [set_get_ne hj] at h3
        rw [set_get_ne hk] at h4
        exact q.dist j k dj dk a h1 h2 h3 h4
theorem Rel.ae {U G H : Hp} {σ : L2.St} {ρ : En} (R : Rel (eaT T x) U G H σ ρ) (h : noEx ρ = true) : Rel T U G H σ ρ := by
  have q := Rel.ea (x := T.ea) R h
  rwa [eaT_back] at q
/-- the caught exception stands in slot i -/
theorem Rel.setEx {U G H : Hp} {σ : L2.St} {ρ : En} {i c : Nat} {ns : List Nat} {vs : List D} {a : Addr} {cls : Value} {dx : Option Addr} (R : Rel T U G H σ ρ) (h : noEx ρ = true) (xr : XRep T G c ns vs cls dx) :
    Rel (eaT T (some (a, cls, dx))) U G H (σ.set i (some (.ref a))) (ρ.set i (.ex c ns vs)) := by
  have q := Rel.ea (x := some (a, cls, dx)) R h
  refine ⟨q.same, by simp [q.len], fun j d e => ?_, fun j d e => ?_, fun j k dj dk a h1 h2 h3 h4 => ?_, q.out, fun j c ns vs e => ?_⟩
  · rcases get_set e with ⟨_, z⟩ | ⟨hj, e⟩
    · cases z
    · rw [set_get_ne hj]; exact q.sh j d e
  · rcases get_set e with ⟨_, z⟩ | ⟨hj, e⟩
    · cases z
    · rw [set_get_ne hj]; exact q.ow j d e
  · rcases get_set h1 with ⟨_, z⟩ | ⟨hj, h1⟩
    · cases z
    · rcases get_set h2 with ⟨_, z⟩ | ⟨hk, h2⟩
      · cases z
      · rw [set_get_ne hj] at h3
        rw [set_get_ne hk] at h4
        exact q.dist j k dj dk a h1 h2 h3 h4
  · have hl := (List.getElem?_eq_some_iff.mp e).1
    rcases get_set e with ⟨hj, z⟩ | ⟨hj, e⟩
    · cases z
      subst hj
      refine ⟨a, cls, dx, set_get_same (by rw [q.len]; simpa using hl), rfl, xr.ea⟩
    · exact absurd e (noEx_at h)
end
section
variable {X : Cx} {T : Tab} {W : WX}
/-- behind a suite -/
def Rs.out (i : Nat) (r : Rs Fl) : Rs Fl := match r with
  | .ok fl ρ => if noEx (ρ.set i .no) = true then .ok fl (ρ.set i .no) else .bad
  | _ => .bad
@[simp] theorem Rs.out_ok (i : Nat) (fl : Fl) (ρ : En) : (Rs.ok fl ρ).out i = if noEx (ρ.set i .no) = true then .ok fl (ρ.set i .no) else .bad := rfl
/-- try: f except x as <slot i>: g; hm: which exceptions the clause catches -/
def sTryAs (i : Nat) (hm : Nat → Option Bool) (f g : SF) : SF := fun ρ => match f ρ with
  | .ok fl ρ' => .ok fl ρ'
  | .bad => .bad
  | .ex c ns vs ρ' => (match hm c with
    | some true => if noEx ρ' = true then (g (ρ'.set i (.ex c ns vs))).out i else .bad
    | some false => .ex c ns vs ρ'
    | none => .bad)
theorem j_try_as {x n : Str} {cl : Value} {i : Nat} {hm : Nat → Option Bool} {body suite : List Stmt} {b₀ : Stmt} {np pos pos' : Pos} {f g : SF} {wb ws : List Nat} (hK : X.K = T.K) (hN : X.N.Nodup) (hi : X.N[i]? = some n) (hln : X.env.kindOf n = some .local) (hc : Names X x cl) (tk : Takes X W)
    (hx : ∀ c b, hm c = some b → PySem.W.exmOne X.K (.ref (T.exc c)) cl = some b)
    (hb : ∀ (W : WX) (pn : List (Addr × Obj)) (xe : Value → Shared → Prop), Takes (X.tr pn xe) W → PassesOwn (model X.prog X.w) X.A X.env xe → JSs (X.tr pn xe) T W wb body f)
    (hsu : ∀ (a : Addr) (oe : Obj) (cls : Value) (d : Option Addr) (pn : List (Addr × Obj)), Zc cls d oe → (∃ vs, oe.data = .fields vs) → JSs (X.suite a ((a, oe) :: pn)) (eaT T (some (a, cls, d))) WF ws (b₀ :: suite) g)
    (hs : X.stack = X.env :: X.outer := by rfl) (hf : X.env.frame = some X.env.locals := by rfl) :
    JS X T W (wb ++ (i :: ws)) (.Try body [.ExceptHandler (some (.Name x np)) (some n) (b₀ :: suite) pos'] [] [] pos) (sTryAs i hm f g) := by
  refine ⟨hK, ps_imp (ps_try_as (tb := fun W => tS T W wb f) (ts := fun a cls d => tS (eaT T (some (a, cls, d))) WF ws g) hs hf hN hi hln hc tk (fun W pn xe t p => (hb W pn xe t p).run) (fun a oe cls d pn z v => (hsu a oe cls d pn z v).run)) fun D σ H ⟨U, G, ρ, R, q⟩ => ⟨U, G, ρ, R, ?_⟩⟩
  unfold sTryAs at q
  have wl : ∀ j, j ∈ wb → j ∈ wb ++ (i :: ws) := fun j hj => List.mem_append_left _ hj
  cases e : f ρ with
  | bad => rw [e] at q; exact q.elim
  | ok fl ρ' =>
    rw [e] at q
    cases fl with
    | nx => exact fun σ' G' H' R' s k => q σ' G' H' R' s (k.mono wl)
    | rt d => exact fun v σ' G' H' R' s k => q v σ' G' H' R' s (k.mono wl)
  | ex c ns vs ρ' =>
    rw [e] at q
    dsimp only at q
    intro cls dx σ' G' H' R' s k xr
    have hcls : cls = .ref (T.exc c) := xr.1
    cases eb : hm c with
    | none => rw [eb] at q; exact q.elim
    | some b =>
      refine ⟨b, by rw [hcls]; exact hx c b eb, fun ht a hfa => ?_, fun ht => ?_⟩
      · subst ht
        rw [eb] at q
        dsimp only at q
        split at q
        · rename_i hne
          refine ⟨U, G', _, R'.setEx hne xr, ?_⟩
          have kk : ∀ {σ2 : L2.St}, Keeps ws (σ'.set i (some (.ref a))) σ2 → Keeps (wb ++ (i :: ws)) σ (σ2.set i none) := fun {σ2} k2 => by
            refine ⟨by rw [List.length_set, k2.1, List.length_set, k.1], fun j hj => ?_⟩
            have h1 : j ≠ i := fun z => hj (List.mem_append_right _ (by rw [z]; exact List.mem_cons_self))
            have h2 : j ∉ ws := fun z => hj (List.mem_append_right _ (List.mem_cons_of_mem _ z))
            have h3 : j ∉ wb := fun z => hj (wl j z)
            rw [set_get_ne h1, k2.2 j h2, set_get_ne h1, k.2 j h3]
          cases e2 : g (ρ'.set i (.ex c ns vs)) with
          | bad => rw [e2] at q; exact q.elim
          | ex _ _ _ _ => rw [e2] at q; exact q.elim
          | ok fl ρ2 =>
            rw [e2] at q
            simp only [Rs.out_ok] at q
            split at q
            · rename_i hn2
              cases fl with
              | nx => exact fun σ2 G2 H2 R2 s2 k2 => q _ G2 H2 (R2.aeN hn2) (s.trans s2) (kk k2)
              | rt d => exact fun v σ2 G2 H2 R2 s2 k2 r2 => q v _ G2 H2 (R2.aeN hn2) (s.trans s2) (kk k2) (by have r3 := Rep.ea (x := T.ea) r2; rwa [eaT_back] at r3)
            · exact q.elim
        · exact q.elim
      · subst ht
        rw [eb] at q
        exact q cls dx σ' G' H' R' s (k.mono wl) xr
/-- try: f except x: g -/
def Rs.out0 (r : Rs Fl) : Rs Fl := match r with
  | .ok fl ρ => if noEx ρ = true then .ok fl ρ else .bad
  | _ => .bad
@[simp] theorem Rs.out0_ok (fl : Fl) (ρ : En) : (Rs.ok fl ρ).out0 = if noEx ρ = true then .ok fl ρ else .bad := rfl
def sTry (hm : Nat → Option Bool) (f g : SF) : SF := fun ρ => match f ρ with
  | .ok fl ρ' => .ok fl ρ'
  | .bad => .bad
  | .ex c ns vs ρ' => (match hm c with
    | some true => g ρ'
    | some false => .ex c ns vs ρ'
    | none => .bad)
theorem j_try {x : Str} {cl : Value} {hm : Nat → Option Bool} {body suite : List Stmt} {b₀ : Stmt} {np pos pos' : Pos} {f g : SF} {wb ws : List Nat} (hK : X.K = T.K) (hc : Names X x cl) (tk : Takes X W)
    (hx : ∀ c b, hm c = some b → PySem.W.exmOne X.K (.ref (T.exc c)) cl = some b)
    (hb : ∀ (W : WX) (pn : List (Addr × Obj)) (xe : Value → Shared → Prop), Takes (X.tr pn xe) W → PassesOwn (model X.prog X.w) X.A X.env xe → JSs (X.tr pn xe) T W wb body f)
    (hsu : ∀ (a : Addr) (oe : Obj) (pn : List (Addr × Obj)), JSs (X.suite a ((a, oe) :: pn)) T WF ws (b₀ :: suite) g)
    (hg : ∀ ρ c ns vs ρ', g ρ ≠ .ex c ns vs ρ')
    (hs : X.stack = X.env :: X.outer := by rfl) (hf : X.env.frame = some X.env.locals := by rfl) :
    JS X T W (wb ++ ws) (.Try body [.ExceptHandler (some (.Name x np)) none (b₀ :: suite) pos'] [] [] pos) (sTry hm f g) := by
  refine ⟨hK, ps_imp (ps_try_only (tb := fun W => tS T W wb f) (ts := fun a cls d => tS T WF ws g) hs hf hc tk (fun W pn xe t p => (hb W pn xe t p).run) (fun a oe cls d pn z v => (hsu a oe pn).run)) fun D σ H ⟨U, G, ρ, R, q⟩ => ⟨U, G, ρ, R, ?_⟩⟩
  unfold sTry at q
  have wl : ∀ j, j ∈ wb → j ∈ wb ++ ws := fun j hj => List.mem_append_left _ hj
  cases e : f ρ with
  | bad => rw [e] at q; exact q.elim
  | ok fl ρ' =>
    rw [e] at q
    cases fl with
    | nx => exact fun σ' G' H' R' s k => q σ' G' H' R' s (k.mono wl)
    | rt d => exact fun v σ' G' H' R' s k => q v σ' G' H' R' s (k.mono wl)
  | ex c ns vs ρ' =>
    rw [e] at q
    dsimp only at q
    intro cls dx σ' G' H' R' s k xr
    have hcls : cls = .ref (T.exc c) := xr.1
    cases eb : hm c with
    | none => rw [eb] at q; exact q.elim
    | some b =>
      refine ⟨b, by rw [hcls]; exact hx c b eb, fun ht a hfa => ?_, fun ht => ?_⟩
      · subst ht
        rw [eb] at q
        dsimp only at q
        refine ⟨U, G', _, R', ?_⟩
        have kk : ∀ {σ2 : L2.St}, Keeps ws σ' σ2 → Keeps (wb ++ ws) σ σ2 := fun {σ2} k2 => (k.mono wl).trans (k2.mono fun j hj => List.mem_append_right _ hj)
        cases e2 : g ρ' with
        | bad => rw [e2] at q; exact q.elim
        | ex _ _ _ _ => exact absurd e2 (hg _ _ _ _ _)
        | ok fl ρ2 =>
          rw [e2] at q
          cases fl with
          | nx => exact fun σ2 G2 H2 R2 s2 k2 => q _ G2 H2 R2 (s.trans s2) (kk k2)
          | rt d => exact fun v σ2 G2 H2 R2 s2 k2 r2 => q v _ G2 H2 R2 (s.trans s2) (kk k2) r2
      · subst ht
        rw [eb] at q
        exact q cls dx σ' G' H' R' s (k.mono wl) xr

/-! ### the caught exception's fields -/
def fget (n : Nat) : List Nat → List D → Option D
  | m :: ms, d :: ds => if m = n then some d else fget n ms ds
  | _, _ => none
theorem fget_ok {T : Tab} {G : Hp} (hinj : ∀ a b, T.fnm a = T.fnm b → a = b) {n : Nat} : ∀ {ns : List Nat} {ds : List D} {fs : List (Str × V)} {d : D}, fs.map (·.1) = ns.map T.fnm → Reps T G (fs.map (·.2)) ds → fget n ns ds = some d → ∃ v, fs.lookup (T.fnm n) = some v ∧ Rep T G v d
  | [], _, _, _, _, _, h => by cases h
  | m :: ms, [], _, _, _, _, h => by cases h
  | m :: ms, d' :: ds, [], _, h1, _, _ => by cases h1
  | m :: ms, d' :: ds, (k, v) :: fs, d, h1, h2, h3 => by
    simp only [List.map_cons, List.cons.injEq] at h1
    obtain ⟨y, r, e, a, b⟩ := h2
    simp only [List.map_cons, List.cons.injEq] at e
    obtain ⟨rfl, rfl⟩ := e
    simp only [fget] at h3
    split at h3
    · rename_i hm
      cases h3
      subst hm
      refine ⟨v, ?_, a⟩
      rw [← h1.1]
      simp [List.lookup]
    · rename_i hm
      obtain ⟨u, l, r⟩ := fget_ok hinj h1.2 b h3
      refine ⟨u, ?_, r⟩
      have hne : (T.fnm n == k) = false := by
        rw [h1.1]
        exact beq_false_of_ne fun z => hm (hinj _ _ z).symm
      simp only [List.lookup, hne]
      exact l
def eXf (i n : Nat) (ok : Nat → Bool) : EF := fun ρ => match ρ[i]? with
  | some (.ex c ns vs) => if ok c = true then opt (fget n ns vs) ρ else .bad
  | _ => .bad
theorem j_xf {i n : Nat} {ok : Nat → Bool} {a : Addr} {oe : Obj} {cls : Value} {d : Option Addr} {pn : List (Addr × Obj)} {x f : Str} {p pos : Pos} (hk : X.K = T.K) (hinj : ∀ a b, T.fnm a = T.fnm b → a = b) (hfn : T.fnm n = f)
    (hok : ∀ c, ok c = true → XfC X.K (T.exc c) ∧ PySem.W.findIn X.K (.ref (T.exc c)) f = some none) (hz : Zc cls d oe) (hf : ∃ vs, oe.data = .fields vs) (hN : X.N[i]? = some x := by rfl) (hv : Vis X.env.scope x := by first | exact Or.inl rfl | exact Or.inr (Or.inl rfl) | exact Or.inr (Or.inr rfl)) (hd : (x == ("__debug__" : Str)) = false := by decide)
    (hcd : (x == ("__classdict__" : Str)) = false := by decide) (hb : attributeBase (.Name x p) f X.env (eval (.Name x p) X.env) = eval (.Name x p) X.env := by rfl) :
    JE (X.suite a ((a, oe) :: pn)) (eaT T (some (a, cls, d))) W (.Attribute (.Name x p) f pos) (eXf i n ok) := by
  refine ⟨hk, ⟨fun pins s σ H Q I q => ?_⟩⟩
  obtain ⟨U, G, ρ, R, q⟩ := q
  unfold eXf at q
  split at q
  · rename_i c ns vs e
    split at q
    · rename_i hc
      obtain ⟨d1, e1, q⟩ := Pst.opt q
      obtain ⟨a1, cls1, dx1, h1, h2, h3⟩ := R.exn i c ns vs e
      cases h2
      obtain ⟨h3, h4⟩ := h3
      obtain ⟨g1, g2⟩ := hok c hc
      refine (pe_xf (X := X) (C := T.exc c) (te := tVar i) g1 g2 hz hf (pe_var hN hv hd hcd) hb).run pins s σ H Q I ?_
      cases d with
      | none => obtain ⟨rfl, rfl⟩ := h4; cases e1
      | some dd =>
        obtain ⟨fs, h5, h6, h7⟩ := h4
        obtain ⟨v, l, r⟩ := fget_ok (T := eaT T (some (a, cls, some dd))) hinj h6 h7 e1
        exact ⟨_, h1, rfl, h3, dd, fs, v, rfl, R.same _ _ h5, by rw [← hfn]; exact l, q G H R (L2.Same.refl _) v r⟩
    · exact q.elim
  · exact q.elim
end
end J

set_option Elab.async false
set_option linter.all false
set_option maxRecDepth 100000
set_option maxHeartbeats 4000000
namespace J
open PySem PySem.Spec PyProof.Rows L2

section
variable {X : Cx} {T : Tab} {W : WX} {tg : Expr}
/-! ### an owned slot is hidden while its list is walked -/
theorem Rel.hide {U G H : Hp} {σ : L2.St} {ρ : En} {i : Nat} {d : D} (R : Rel T U G H σ ρ) (h : ρ[i]? = some (.ow d)) : ∃ p o, σ[i]? = some (some (.ref p)) ∧ H p = some o ∧ RepO T G o d ∧ U p = none ∧ Rel T (upd U p o) G H σ (ρ.set i .no) := by
  obtain ⟨p, o, e, g, u, hh, r⟩ := R.ow i d h
  refine ⟨p, o, e, hh, r, u, ?_⟩
  have R1 := R.setNo (i := i)
  refine ⟨R1.same, R1.len, R1.sh, fun j e' h' => ?_, R1.dist, fun a q z => ?_, R1.exn⟩
  · obtain ⟨a, q, e1, g1, u1, h1, r1⟩ := R1.ow j e' h'
    refine ⟨a, q, e1, g1, ?_, h1, r1⟩
    have ne : a ≠ p := fun z => by
      subst z
      rcases get_set h' with ⟨_, z⟩ | ⟨hj, h'⟩
      · cases z
      · exact hj (R.dist j i e' d a h' h e1 e)
    rw [upd_ne ne]; exact u1
  · by_cases ha : a = p
    · subst ha; rw [upd_same] at z; cases z; exact ⟨hh, g⟩
    · rw [upd_ne ha] at z; exact R1.out a q z
theorem Rel.unhide {U G H : Hp} {σ : L2.St} {ρ : En} {i : Nat} {d : D} {p : Addr} {o : HO} (R : Rel T (upd U p o) G H σ ρ) (hU : U p = none) (hσ : σ[i]? = some (some (.ref p))) (r : RepO T G o d) (hl : i < ρ.length) : Rel T U G H σ (ρ.set i (.ow d)) := by
  obtain ⟨hh, g⟩ := R.out p o upd_same
  have eU : unheld (upd U p o) p = U := by
    funext b
    by_cases hb : b = p
    · subst hb; rw [unheld_same, hU]
    · rw [unheld_ne hb, upd_ne hb]
  have R1 : Rel T U G H σ ρ := eU ▸ R.unhold (p := p)
  have R2 := R1.setOw (i := i) hU g hh r fun j e h1 h2 => by
    obtain ⟨a, q, e1, _, u, _⟩ := R.ow j e h1
    rw [h2] at e1
    cases e1
    rw [upd_same] at u
    cases u
  have es : σ.set i (some (.ref p)) = σ := by
    apply List.ext_getElem?
    intro j
    by_cases hj : j = i
    · subst hj
      rw [set_get_same (by exact (List.getElem?_eq_some_iff.mp hσ).1), hσ]
    · rw [set_get_ne hj]
  rwa [es] at R2
def ownL (ρ : En) (i : Nat) : Option (List D) := match (ρ[i]? : Option Sl) with
  | some (Sl.ow (D.lst ds)) => some ds
  | _ => none
theorem ownL_ok {ρ : En} {i : Nat} {ds : List D} (h : ownL ρ i = some ds) : ρ[i]? = some (.ow (.lst ds)) := by
  unfold ownL at h
  split at h
  · rename_i e; cases h; exact e
  · cases h
/-- [elt for tg in xs if t], xs an owned list -/
def eLcOwn (i : Nat) (b : BF) (vs : List Nat) (t : TF) (f : EF) : EF := fun ρ => match ownL ρ i with
  | some ds => if noOw (ρ.set i .no) vs = true then (lcS b vs t f ds [] (ρ.set i .no)).bnd fun d ρ' => .ok d (ρ'.set i (.ow (.lst ds))) else .bad
  | none => .bad
theorem lcOwn_red {i : Nat} {own : List (Str × Nat)} {b : BF} {wb : List Nat} {t : TF} {f : EF} {σ : L2.St} {H : Hp} {Q : VK} (hwb : ∀ j, j ∈ wb → j ∈ own.map (·.2))
    (q : tO T W (eLcOwn i b (own.map (·.2)) t f) σ H Q) : tLc (iSeqJ T.K (tVar i)) (tG T wb b) (tT T WF t) (tE T WF f) (own.map (·.2)) σ H Q := by
  obtain ⟨U, G, ρ, R, q⟩ := q
  unfold eLcOwn at q
  cases e : ownL ρ i with
  | none => rw [e] at q; exact q.elim
  | some ds =>
    rw [e] at q
    dsimp only at q
    obtain ⟨p, o, eσ, hh, r, hU, R1⟩ := R.hide (ownL_ok e)
    obtain ⟨xs, rfl, rs⟩ := r
    refine ⟨_, eσ, .inl ⟨p, xs, rfl, .of hh, fun hl => ?_⟩⟩
    cases e2 : noOw (ρ.set i .no) (own.map (·.2)) with
    | false => rw [e2] at q; exact q.elim
    | true =>
      rw [e2, if_pos rfl] at q
      have key : Pst T (upd U p (.lst xs)) σ G (lcS b (own.map (·.2)) t f ds [] (ρ.set i .no)) (fun d G' H' ρ' => ∀ p2 o2, G' p2 = none → (upd U p (.lst xs)) p2 = none → H' p2 = some o2 → RepO T G' o2 d → (∀ (j : Nat) (d : D), ρ'[j]? = some (.ow d) → σ[j]? ≠ some (some (.ref p2))) → Q (.ref p2) H') WF := by
        cases e3 : lcS b (own.map (·.2)) t f ds [] (ρ.set i .no) with
        | ok d ρ' =>
          rw [e3] at q
          intro G' H' R' s p2 o2 g2 u2 h2 r2 n2
          have hne : p2 ≠ p := fun z => by subst z; rw [upd_same] at u2; cases u2
          have hlt : i < ρ'.length := by
            rw [← R'.len]; exact (List.getElem?_eq_some_iff.mp eσ).1
          have R2 := R'.unhide hU eσ (d := .lst ds) ⟨xs, rfl, rs.mono s⟩ hlt
          refine q G' H' R2 s p2 o2 g2 (by rw [upd_ne hne] at u2; exact u2) h2 r2 fun j d' h3 => ?_
          rcases get_set h3 with ⟨rfl, z⟩ | ⟨hj, h3⟩
          · rw [eσ]; intro z2; cases z2; exact hne rfl
          · exact n2 j d' h3
        | ex c ns vs ρ' => exact absurd e3 (lcS_nox _ _ _ _ _ _ _)
        | bad => rw [e3] at q; exact q.elim
      exact lc_coreJ (P := fun U' => U' p = some (.lst xs)) (U := upd U p (.lst xs)) (fun U' h hP => hP _ _ upd_same) upd_same (yl_own (rs.length ▸ hl) rs) R1 e2 hwb key

theorem j_lcOwn {elt : Expr} {x : Str} {p : Pos} {ifs : List Expr} {scope : Scope} {own : List (Str × Nat)} {pos : Pos} {i : Nat} {b : BF} {wb : List Nat} {t : TF} {f : EF} (hK : X.K = T.K) (hc : X.calm = true) (hN : X.N.Nodup) (hx : X.N[i]? = some x) (ok : BlkOk X.N X.env.scope scope own) (hwb : ∀ j, j ∈ wb → j ∈ own.map (·.2))
    (hg : ∀ (s : Shared) (H : Hp) (C : Addr) (cl : List (Str × Addr)) (fp : List Addr), JG (X.blk s H scope (compEnvC scope cl C X.env) fp) T wb tg b)
    (ht : ∀ (s : Shared) (H : Hp) (C : Addr) (cl : List (Str × Addr)) (fp : List Addr), PTs (X.blk s H scope (compEnvC scope cl C X.env) fp) ifs (tT T WF t))
    (he : ∀ (s : Shared) (H : Hp) (C : Addr) (cl : List (Str × Addr)) (fp : List Addr), JE (X.blk s H scope (compEnvC scope cl C X.env) fp) T WF elt f) (hv : Vis X.env.scope x := by first | exact Or.inl rfl | exact Or.inr (Or.inl rfl) | exact Or.inr (Or.inr rfl)) (hd : (x == ("__debug__" : Str)) = false := by decide)
    (hcd : (x == ("__classdict__" : Str)) = false := by decide) (hs : ∀ y, foldedSetIterable (.Name x p) X.env y = pure y := by intro _; rfl) :
    JO X T W (.ListComp elt [⟨tg, .Name x p, ifs, 0⟩] scope pos) (eLcOwn i b (own.map (·.2)) t f) :=
  ⟨hK, pe_imp (pe_lc hc hN (pi_seqJ (pe_var hx hv hd hcd)) ok (fun s H C cl fp => (hg s H C cl fp).run) ht (fun s H C cl fp => (he s H C cl fp).run) hs) fun σ H Q q => hK ▸ lcOwn_red hwb q⟩
/-- for tg in xs: .., xs an owned list that the body leaves alone -/
def sForOwn (i : Nat) (b : BF) (body : SF) : SF := fun ρ => match ownL ρ i with
  | some ds => (match forS b body ds (ρ.set i .no) with
    | .ok .nx ρ' => .ok .nx (ρ'.set i (.ow (.lst ds)))
    | .ok (.rt d) ρ' => .ok (.rt d) (ρ'.set i (.ow (.lst ds)))
    | .ex c ns vs ρ' => .ex c ns vs (ρ'.set i (.ow (.lst ds)))
    | .bad => .bad)
  | none => .bad
theorem j_forOwn {x : Str} {p : Pos} {i : Nat} {body : List Stmt} {pos : Pos} {b : BF} {g : SF} {wb ws : List Nat} (hK : X.K = T.K) (hp : PassesOwn (model X.prog X.w) X.A X.env X.xe) (hc : X.calm = true) (hx : X.N[i]? = some x) (hg : JG X T wb tg b) (hb : JSs X T W ws body g) (hi : i ∉ wb ++ ws)
    (hv : Vis X.env.scope x := by first | exact Or.inl rfl | exact Or.inr (Or.inl rfl) | exact Or.inr (Or.inr rfl)) (hd : (x == ("__debug__" : Str)) = false := by decide)
    (hcd : (x == ("__classdict__" : Str)) = false := by decide) (hs : ∀ y, foldedSetIterable (.Name x p) X.env y = pure y := by intro _; rfl) : JS X T W (wb ++ ws) (.For tg (.Name x p) body [] pos) (sForOwn i b g) := by
  refine ⟨hK, ps_imp (ps_for hp hc (pi_seqJ (pe_var hx hv hd hcd)) hg.run hb.run hs) fun D σ H ⟨U, G, ρ, R, q⟩ => ?_⟩
  unfold sForOwn at q
  cases e : ownL ρ i with
  | none => rw [e] at q; exact q.elim
  | some ds =>
    rw [e] at q
    dsimp only at q
    obtain ⟨p, o, eσ, hh, r, hU, R1⟩ := R.hide (ownL_ok e)
    obtain ⟨xs, rfl, rs⟩ := r
    refine ⟨_, eσ, .inl ⟨p, xs, rfl, .of hh, fun hl => ?_⟩⟩
    have key : PstS T W (wb ++ ws) D (upd U p (.lst xs)) σ G (forS b g ds (ρ.set i .no)) := by
      have back : ∀ {σ' : L2.St} {G' H' : Hp} {ρ' : En}, Rel T (upd U p (.lst xs)) G' H' σ' ρ' → L2.Same G G' → Keeps (wb ++ ws) σ σ' → Rel T U G' H' σ' (ρ'.set i (.ow (.lst ds))) := fun {σ' G' H' ρ'} R' s k => by
        have e2 : σ'[i]? = some (some (.ref p)) := by rw [k.2 i hi, eσ]
        exact R'.unhide hU e2 (d := .lst ds) ⟨xs, rfl, rs.mono s⟩ (by rw [← R'.len]; exact (List.getElem?_eq_some_iff.mp e2).1)
      cases e3 : forS b g ds (ρ.set i .no) with
      | ok a ρ' =>
        rw [e3] at q
        cases a with
        | nx => exact fun σ' G' H' R' s k => q σ' G' H' (back R' s k) s k
        | rt d => exact fun v σ' G' H' R' s k r => q v σ' G' H' (back R' s k) s k r
      | ex c ns vs ρ' => rw [e3] at q; exact fun cls dx σ' G' H' R' s k x => q cls dx σ' G' H' (back R' s k) s k x
      | bad => rw [e3] at q; exact q.elim
    rw [hK]
    exact for_core (P := fun U' => U' p = some (.lst xs)) upd_same (yl_own (rs.length ▸ hl) rs) R1 key

/-! ### methods that change an owned list -/
/-- x.m(..), x an owned list: g gives the value and the new list -/
def MOk (X : Cx) (T : Tab) (id : String) (g : List D → List D → Option (D × List D)) : Prop :=
  ∃ r : V → List V → Hp → VK → Prop, MtR X id r ∧ ∀ (U G H : Hp) (σ : L2.St) (ρ : En) (p : Addr) (xs vs : List V) (ds as : List D) (d : D) (ds' : List D) (Q : VK), Rel T U G H σ ρ → H p = some (.lst xs) → G p = none → Reps T G xs ds → Reps T G vs as → g ds as = some (d, ds') →
    (∀ v xs', Rep T G v d → Reps T G xs' ds' → Q v (upd H p (.lst xs'))) → r (.ref p) vs H Q
def eMeth (i : Nat) (g : List D → List D → Option (D × List D)) (f : AF) : EF := fun ρ => match ownL ρ i with
  | some _ => (f ρ).bnd fun as ρ' => (match ownL ρ' i, vals as with
    | some ds, some ys => (match g ds ys with
      | some (d, ds') => .ok d (ρ'.set i (.ow (.lst ds')))
      | none => .bad)
    | _, _ => .bad)
  | none => .bad
theorem j_meth {i : Nat} {x m : Str} {id : String} {g : List D → List D → Option (D × List D)} {f : AF} {e : Expr} {es : List Expr} {p apos cpos : Pos} (hM : MOk X T id g) (slot : Slot "list" m id) (hty : typeOf (.builtin id) = pure (.type "method_descriptor")) (ha : JA X T W (e :: es) f) (hN : X.N[i]? = some x)
    (hv : Vis X.env.scope x := by first | exact Or.inl rfl | exact Or.inr (Or.inl rfl) | exact Or.inr (Or.inr rfl)) (hd : (x == ("__debug__" : Str)) = false := by decide)
    (hcd : (x == ("__classdict__" : Str)) = false := by decide) (hbase : attributeBase (.Name x p) m X.env (eval (.Name x p) X.env) = eval (.Name x p) X.env := by rfl)
    (hfew : ((backTo cpos (starEach (e :: es) X.env)).all (fun x => !x.1) && (backToKw cpos (keywordEach [] X.env)).all (fun x => x.1.isSome)
      && decide ((e :: es).length + ([] : List Keyword).length + (if ([] : List Keyword).isEmpty then 0 else 1) < 30)) = true := by rfl)
    (hline : (apos.endLine == cpos.line) = true := by rfl) (hs : starEach (e :: es) X.env = (false, eval e X.env) :: starEach es X.env := by rfl) (hplain : (backTo cpos (starEach es X.env)).any (·.1) = false := by rfl) :
    JE X T W (.Call (.Attribute (.Name x p) m apos) (e :: es) [] cpos) (eMeth i g f) := by
  obtain ⟨r, hr, hM⟩ := hM
  refine ⟨ha.k, pe_imp (pe_bm PySem.F.plainAttrs_list slot hty hr (pe_var hN hv hd hcd) ha.run hbase hfew hline hs hplain) fun σ H Q ⟨U, G, ρ, R, q⟩ => ?_⟩
  unfold eMeth at q
  cases e1 : ownL ρ i with
  | none => rw [e1] at q; exact q.elim
  | some ds0 =>
    rw [e1] at q
    dsimp only at q
    obtain ⟨p, o, eσ, g0, u0, hh, r0⟩ := R.ow i _ (ownL_ok e1)
    obtain ⟨xs0, rfl, _⟩ := r0
    refine ⟨_, eσ, .inl ⟨rfl, xs0, .of hh⟩, U, G, ρ, R, (Pst.bnd q).mono (L2.Same.refl _) fun as G1 H1 ρ1 _ ⟨R1, s1, p1⟩ vs avs => ?_⟩
    split at p1
    · rename_i ds ys e2 e3
      split at p1
      · rename_i d ds' e4
        obtain ⟨p', o', eσ', g1, u1, hh1, r1⟩ := R1.ow i _ (ownL_ok e2)
        rw [eσ] at eσ'
        cases eσ'
        obtain ⟨xs, rfl, rs⟩ := r1
        refine hM U G1 H1 σ ρ1 p xs vs ds ys d ds' Q R1 hh1 g1 rs (vals_ok avs e3) e4 fun v xs' rv rx => ?_
        exact p1 G1 _ (R1.put (ownL_ok e2) eσ (d' := .lst ds') ⟨xs', rfl, rx⟩) (L2.Same.refl _) v rv
      · exact p1.elim
    · exact p1.elim
/-- x.m() -/
theorem j_meth0 {i : Nat} {x m : Str} {id : String} {g : List D → List D → Option (D × List D)} {p apos cpos : Pos} (hK : X.K = T.K) (hM : MOk X T id g) (slot : Slot "list" m id) (hty : typeOf (.builtin id) = pure (.type "method_descriptor")) (hN : X.N[i]? = some x)
    (hv : Vis X.env.scope x := by first | exact Or.inl rfl | exact Or.inr (Or.inl rfl) | exact Or.inr (Or.inr rfl)) (hd : (x == ("__debug__" : Str)) = false := by decide)
    (hcd : (x == ("__classdict__" : Str)) = false := by decide) (hbase : attributeBase (.Name x p) m X.env (eval (.Name x p) X.env) = eval (.Name x p) X.env := by rfl)
    (hline : (apos.endLine == cpos.line) = true := by rfl) :
    JE X T W (.Call (.Attribute (.Name x p) m apos) [] [] cpos) (eMeth i g aNil) := by
  obtain ⟨r, hr, hM⟩ := hM
  refine ⟨hK, pe_imp (pe_bm0 PySem.F.plainAttrs_list slot hty hr (pe_var hN hv hd hcd) hbase hline) fun σ H Q ⟨U, G, ρ, R, q⟩ => ?_⟩
  unfold eMeth at q
  cases e1 : ownL ρ i with
  | none => rw [e1] at q; exact q.elim
  | some ds0 =>
    rw [e1] at q
    simp only [aNil, Rs.bnd_ok, e1, vals_nil] at q
    split at q
    · rename_i d ds' e4
      obtain ⟨p', o', eσ, g1, u1, hh1, r1⟩ := R.ow i _ (ownL_ok e1)
      obtain ⟨xs, rfl, rs⟩ := r1
      refine ⟨_, eσ, .inl ⟨rfl, xs, .of hh1⟩, hM U G H σ ρ p' xs [] ds0 [] d ds' Q R hh1 g1 rs rfl e4 fun v xs' rv rx => ?_⟩
      exact q G _ (R.put (ownL_ok e1) eσ (d' := .lst ds') ⟨xs', rfl, rx⟩) (L2.Same.refl _) v rv
    · exact q.elim
def appD (ds as : List D) : Option (D × List D) := match as with
  | [y] => if ds.length < sizeLine then some (.non, ds ++ [y]) else none
  | _ => none
theorem append_J : MOk X T "list.append" appD := by
  refine ⟨_, mt_append, fun U G H σ ρ p xs vs ds as d ds' Q R hh hg rx ra e q => ?_⟩
  unfold appD at e
  split at e
  · rename_i y
    split at e
    · rename_i hl
      cases e
      obtain ⟨v, r, rfl, rv, hr⟩ := ra
      cases hr
      exact ⟨p, xs, v, rfl, rfl, hh, by rw [rx.length]; exact hl, q _ _ rfl (rx.app (.one rv))⟩
    · cases e
  · cases e
def extD (ds as : List D) : Option (D × List D) := match as with
  | [.lst ys] => if ds.length + ys.length ≤ sizeLine then some (.non, ds ++ ys) else none
  | _ => none
theorem extend_J : MOk X T "list.extend" extD := by
  refine ⟨_, mt_extend, fun U G H σ ρ p xs vs ds as d ds' Q R hh hg rx ra e q => ?_⟩
  unfold extD at e
  split at e
  · rename_i ys
    split at e
    · rename_i hl
      cases e
      obtain ⟨v, r, rfl, rv, hr⟩ := ra
      cases hr
      obtain ⟨b, zs, rfl, hb, rz⟩ := rv
      exact ⟨p, b, xs, zs, rfl, rfl, hh, R.same _ _ hb, by rw [rx.length, rz.length]; exact hl, q _ _ rfl (rx.app rz)⟩
    · cases e
  · cases e
def insD (ds as : List D) : Option (D × List D) := match as with
  | [.int i, y] => if ds.length < sizeLine ∧ 0 ≤ i ∧ i < 2 ^ 63 then some (.non, ds.take i.toNat ++ [y] ++ ds.drop i.toNat) else none
  | _ => none
theorem insert_J : MOk X T "list.insert" insD := by
  refine ⟨_, mt_insert, fun U G H σ ρ p xs vs ds as d ds' Q R hh hg rx ra e q => ?_⟩
  unfold insD at e
  split at e
  · rename_i i y
    split at e
    · rename_i hl
      cases e
      obtain ⟨v, r, rfl, rv, v2, r2, rfl, rv2, hr⟩ := ra
      cases hr
      exact ⟨p, xs, i, v2, rfl, by rw [show v = V.int i from rv], hh, by rw [rx.length]; exact hl.1, hl.2.1, hl.2.2, q _ _ rfl (((rx.take _).app (.one rv2)).app (rx.drop _))⟩
    · cases e
  · cases e
def popD (ds as : List D) : Option (D × List D) := match as with
  | [] => (ds[ds.length - 1]?).map fun y => (y, ds.dropLast)
  | _ => none
theorem Reps.dropLast {G : Hp} {xs : List V} {ds : List D} (r : Reps T G xs ds) : Reps T G xs.dropLast ds.dropLast := by
  rw [List.dropLast_eq_take, List.dropLast_eq_take, r.length]
  exact r.take _
theorem pop_J : MOk X T "list.pop" popD := by
  refine ⟨_, mt_pop, fun U G H σ ρ p xs vs ds as d ds' Q R hh hg rx ra e q => ?_⟩
  unfold popD at e
  split at e
  · cases ra
    cases e2 : ds[ds.length - 1]? with
    | none => rw [e2] at e; cases e
    | some y =>
      rw [e2] at e
      cases e
      obtain ⟨v, h1, rv⟩ := rx.getD e2
      rw [← rx.length] at h1
      exact ⟨p, xs, v, rfl, rfl, hh, h1, q _ _ rv rx.dropLast⟩
  · cases e

/-! ### xs[k] = e -/
def sSub (i : Nat) (f : EF) (h : En → Rs Ar) : SF := fun ρ => (f ρ).bnd fun d ρ1 => match ownL ρ1 i with
  | some _ => (h ρ1).bnd fun a ρ2 => (match ownL ρ2 i, look ρ2 a with
    | some ds, some (.int k) => (match ixN ds.length k with
      | some j => .ok .nx (ρ2.set i (.ow (.lst (ds.set j d))))
      | none => .bad)
    | _, _ => .bad)
  | none => .bad
theorem j_sub_store {i : Nat} {x : Str} {e k : Expr} {f : EF} {h : En → Rs Ar} {p pos pos' : Pos} (he : JE X T W e f) (hk : JR X T W k h) (hN : X.N[i]? = some x) (hs : swapsWithSole [.Subscript (.Name x p) k pos'] e pos.line X.env = pure false := by rfl) (hw : swappedStores [.Subscript (.Name x p) k pos'] e X.env = pure none := by rfl)
    (hv : Vis X.env.scope x := by first | exact Or.inl rfl | exact Or.inr (Or.inl rfl) | exact Or.inr (Or.inr rfl)) (hd : (x == ("__debug__" : Str)) = false := by decide)
    (hcd : (x == ("__classdict__" : Str)) = false := by decide) (h1 : (assignEach [.Subscript (.Name x p) k pos'] X.env).map (·.2) = [assign (.Subscript (.Name x p) k pos') X.env] := by rfl)
    (ha : ∀ v, assign (.Subscript (.Name x p) k pos') X.env v = (do
      let ov ← holding [v] (eval (.Name x p) X.env)
      let iv ← holding [v, ov] (eval k X.env)
      standAt pos'
      holding [v, ov, iv] (setItem ov iv v)
      release [v, ov, iv] []) := by intro _; rfl) : JS X T W [] (.Assign [.Subscript (.Name x p) k pos'] e pos) (sSub i f h) := by
  refine ⟨he.k, ps_imp (ps_asg he.run (pg_sub (pe_var hN hv hd hcd) hk.run set_list ha) hs hw h1) fun D σ H ⟨U, G, ρ, R, q⟩ => ⟨U, G, ρ, R, ?_⟩⟩
  refine (PstS.bndE q).mono (L2.Same.refl _) fun d G1 H1 ρ1 _ ⟨R1, s1, p1⟩ v rv => ?_
  cases e1 : ownL ρ1 i with
  | none => rw [e1] at p1; exact p1.elim
  | some ds0 =>
    rw [e1] at p1
    dsimp only at p1
    obtain ⟨p, o, eσ, g0, u0, hh, r0⟩ := R1.ow i _ (ownL_ok e1)
    refine ⟨_, eσ, U, G1, ρ1, R1, (PstS.bndE p1).mono (L2.Same.refl _) fun a G2 H2 ρ2 _ ⟨R2, s2, p2⟩ u au => ?_⟩
    split at p2
    · rename_i ds k e2 e3
      split at p2
      · rename_i j e4
        obtain ⟨p', o', eσ', g1, u1, hh1, r1⟩ := R2.ow i _ (ownL_ok e2)
        rw [eσ] at eσ'
        cases eσ'
        obtain ⟨xs, rfl, rs⟩ := r1
        have hu : u = .int k := (look_ok R2 au e3).int
        refine ⟨p, xs, k, j, rfl, hu, hh1, by rw [rs.length]; exact e4, ?_⟩
        exact p2 σ G2 _ (R2.put (ownL_ok e2) eσ (d' := .lst (ds.set j d)) ⟨_, rfl, rs.set (rv.mono s2) j⟩) (L2.Same.refl _) (Keeps.refl _ _)
      · exact p2.elim
    · exact p2.elim
end

/-! ### a, b = x, y -/
section
variable {X : Cx} {T : Tab} {W : WX}
def sPar (i j : Nat) (f : AF) : SF := fun ρ => (f ρ).bnd fun as ρ' => match vals as with
  | some [x, y] => .ok .nx ((ρ'.set i (.sh x)).set j (.sh y))
  | _ => .bad
theorem j_par {i j : Nat} {x y : Str} {a b : Expr} {f : AF} {px py pt pos : Pos} {kt k2 pt2} (hc : X.calm = true) (hN : X.N.Nodup) (ha : JA X T W [a, b] f) (hij : i ≠ j := by decide) (hi : X.N[i]? = some x := by rfl) (hj : X.N[j]? = some y := by rfl)
    (hx : X.env.scope.names.lookup x = some .local := by rfl) (hy : X.env.scope.names.lookup y = some .local := by rfl)
    (hw : swappedStores [.Tuple [.Name x px, .Name y py] kt pt] (.Tuple [a, b] k2 pt2) X.env = pure (some [x, y]) := by rfl)
    (hs : swapsWithSole [.Tuple [.Name x px, .Name y py] kt pt] (.Tuple [a, b] k2 pt2) pos.line X.env = pure false := by rfl) :
    JS X T W [i, j] (.Assign [.Tuple [.Name x px, .Name y py] kt pt] (.Tuple [a, b] k2 pt2) pos) (sPar i j f) := by
  refine ⟨ha.k, ps_imp (ps_par hc hN hi hj hij hx hy ha.run hw hs) fun D σ H ⟨U, G, ρ, R, q⟩ => ⟨U, G, ρ, R, ?_⟩⟩
  refine (PstS.bndE q).mono (L2.Same.refl _) fun as G1 H1 ρ1 _ ⟨R1, s1, p1⟩ vs avs => ?_
  split at p1
  · rename_i d1 d2 e
    obtain ⟨v1, r, rfl, r1, v2, r', rfl, r2, hr⟩ := vals_ok avs e
    cases hr
    exact ⟨v1, v2, rfl, p1 _ G1 H1 ((R1.setSh r1).setSh r2) (L2.Same.refl _) ((Keeps.set.mono (by simp)).trans (Keeps.set.mono (by simp)))⟩
  · exact p1.elim
end
end J

set_option Elab.async false
set_option linter.all false
set_option maxRecDepth 100000
set_option maxHeartbeats 4000000
namespace J
open PySem PySem.Spec PyProof.Rows L2

/-- the built-in names that the text leaves alone -/
structure NoB (mg : Str → Option Value) : Prop where
  len : mg "len" = none
  abs : mg "abs" = none
  int : mg "int" = none
  tuple : mg "tuple" = none
  list : mg "list" = none
  sum : mg "sum" = none
  max : mg "max" = none
  min : mg "min" = none
  any : mg "any" = none
  all : mg "all" = none
  range : mg "range" = none
  isi : mg "isinstance" = none
  str : mg "str" = none
  bool : mg "bool" = none
  sorted : mg "sorted" = none
  set : mg "set" = none
  dict : mg "dict" = none
  enumerate : mg "enumerate" = none
  zip : mg "zip" = none
  repr : mg "repr" = none
theorem Room.u {k : Nat} {A : Around} (r : Room k A) : A.units + 65 < cLine := by have := r.un; omega
theorem Room.u4 {k : Nat} {A : Around} (r : Room k A) : A.units + 64 < cLine := by have := r.un; omega
theorem u4 {A : Around} (r : A.units + 65 < cLine) : A.units + 64 < cLine := by omega

section
variable {X : Cx} {T : Tab} {W : WX} {e : Expr} {es : List Expr} {f : AF} {p pos : Pos}
theorem jAbs (ha : JA X T W [e] f) (B : NoB X.mg) (hgl : Gl X "abs" := by rfl) (he : starEach [e] X.env = (false, eval e X.env) :: starEach [] X.env := by rfl) : JE X T W (.Call (.Name "abs" p) [e] [] pos) (eCallB (on1 absD) f) := j_callB call_abs abs_J ha B.abs (by decide +kernel) hgl (by decide) (by decide) he (by rfl)
theorem jInt (ha : JA X T W [e] f) (B : NoB X.mg) (hgl : Gl X "int" := by rfl) (he : starEach [e] X.env = (false, eval e X.env) :: starEach [] X.env := by rfl) : JE X T W (.Call (.Name "int" p) [e] [] pos) (eCallB (on1 intD) f) := j_callT call_int1 int_J ha B.int (by decide +kernel) hgl (by decide) (by decide) he (by rfl)
theorem jTuple (ha : JA X T W [e] f) (B : NoB X.mg) (hgl : Gl X "tuple" := by rfl) (he : starEach [e] X.env = (false, eval e X.env) :: starEach [] X.env := by rfl) : JE X T W (.Call (.Name "tuple" p) [e] [] pos) (eCallB (on1 tupD) f) := j_callT call_tuple_of (tup_J ha.k) ha B.tuple (by decide +kernel) hgl (by decide) (by decide) he (by rfl)
theorem jListO (ha : JA X T W [e] f) (B : NoB X.mg) (hgl : Gl X "list" := by rfl) (he : starEach [e] X.env = (false, eval e X.env) :: starEach [] X.env := by rfl) : JO X T W (.Call (.Name "list" p) [e] [] pos) (eCallB (on1 lstD) f) := j_callTO call_list_of (lst_J ha.k) ha B.list (by decide +kernel) hgl (by decide) (by decide) he (by rfl)
theorem jLen (ha : JA X T W [e] f) (B : NoB X.mg) (hgl : Gl X "len" := by rfl) (he : starEach [e] X.env = (false, eval e X.env) :: starEach [] X.env := by rfl) : JE X T W (.Call (.Name "len" p) [e] [] pos) (eCallB (on1 lenD) f) := j_callB (CallR.or call_len call_lenD) (len_J ha.k) ha B.len (by decide +kernel) hgl (by decide) (by decide) he (by rfl)
theorem jSum (hc : X.calm = true) (ha : JA X T W [e] f) (B : NoB X.mg) (hgl : Gl X "sum" := by rfl) (he : starEach [e] X.env = (false, eval e X.env) :: starEach [] X.env := by rfl) : JE X T W (.Call (.Name "sum" p) [e] [] pos) (eCallB (on1 sumD) f) := j_callB (cr_sum hc) (sum_J ha.k) ha B.sum (by decide +kernel) hgl (by decide) (by decide) he (by rfl)
theorem jMax (hc : X.calm = true) (ha : JA X T W [e] f) (B : NoB X.mg) (hgl : Gl X "max" := by rfl) (he : starEach [e] X.env = (false, eval e X.env) :: starEach [] X.env := by rfl) : JE X T W (.Call (.Name "max" p) [e] [] pos) (eCallB (on1 maxD) f) := j_callB (cr_max hc) (max_J ha.k) ha B.max (by decide +kernel) hgl (by decide) (by decide) he (by rfl)
theorem jMin (hc : X.calm = true) (ha : JA X T W [e] f) (B : NoB X.mg) (hgl : Gl X "min" := by rfl) (he : starEach [e] X.env = (false, eval e X.env) :: starEach [] X.env := by rfl) : JE X T W (.Call (.Name "min" p) [e] [] pos) (eCallB (on1 minD) f) := j_callB (cr_min hc) (min_J ha.k) ha B.min (by decide +kernel) hgl (by decide) (by decide) he (by rfl)
theorem jAny (hc : X.calm = true) (ha : JA X T W [e] f) (B : NoB X.mg) (hgl : Gl X "any" := by rfl) (he : starEach [e] X.env = (false, eval e X.env) :: starEach [] X.env := by rfl) : JE X T W (.Call (.Name "any" p) [e] [] pos) (eCallB (on1 anyD) f) := j_callB (cr_any hc) (any_J ha.k) ha B.any (by decide +kernel) hgl (by decide) (by decide) he (by rfl)
theorem jAll (hc : X.calm = true) (ha : JA X T W [e] f) (B : NoB X.mg) (hgl : Gl X "all" := by rfl) (he : starEach [e] X.env = (false, eval e X.env) :: starEach [] X.env := by rfl) : JE X T W (.Call (.Name "all" p) [e] [] pos) (eCallB (on1 allD) f) := j_callB (cr_all hc) (all_J ha.k) ha B.all (by decide +kernel) hgl (by decide) (by decide) he (by rfl)
theorem jMax2 {e2 : Expr} (hc : X.calm = true) (ha : JA X T W [e, e2] f) (B : NoB X.mg) (hgl : Gl X "max" := by rfl) (he : starEach [e, e2] X.env = (false, eval e X.env) :: starEach [e2] X.env := by rfl) (hpl : (backTo pos (starEach [e2] X.env)).any (·.1) = false := by rfl) : JE X T W (.Call (.Name "max" p) [e, e2] [] pos) (eCallB (on2 max2D) f) := j_callB (call_max2 hc) max2_J ha B.max (by decide +kernel) hgl (by decide) (by decide) he hpl
theorem jMin2 {e2 : Expr} (hc : X.calm = true) (ha : JA X T W [e, e2] f) (B : NoB X.mg) (hgl : Gl X "min" := by rfl) (he : starEach [e, e2] X.env = (false, eval e X.env) :: starEach [e2] X.env := by rfl) (hpl : (backTo pos (starEach [e2] X.env)).any (·.1) = false := by rfl) : JE X T W (.Call (.Name "min" p) [e, e2] [] pos) (eCallB (on2 min2D) f) := j_callB (call_min2 hc) min2_J ha B.min (by decide +kernel) hgl (by decide) (by decide) he hpl
end
section
variable {X : Cx} {T : Tab} {W : WX} {a b : Expr} {fa fb : En → Rs Ar} {pos : Pos}
theorem jtEq (hu : X.A.units + 65 < cLine) (ha : JR X T W a fa) (hb : JR X T W b fb) (hm : behindInMarks .Eq b = false := by first | exact nomark _ | rfl) : JT X T W (.Compare a [.Eq] [b] pos) (tB (f2 eqD fa fb)) := j_cmp (op := .Eq) (pos := pos) (op_eqD (u4 hu)) (eq_J ha.k) ha hb hm
theorem jtNe (hu : X.A.units + 65 < cLine) (ha : JR X T W a fa) (hb : JR X T W b fb) (hm : behindInMarks .NotEq b = false := by first | exact nomark _ | rfl) : JT X T W (.Compare a [.NotEq] [b] pos) (tB (f2 neD fa fb)) := j_cmp (op := .NotEq) (pos := pos) (op_neD (u4 hu)) (ne_J ha.k) ha hb hm
theorem jtIn (hu : X.A.units + 65 < cLine) (ha : JR X T W a fa) (hb : JR X T W b fb) (hm : behindInMarks .In b = false := by first | exact nomark _ | rfl) : JT X T W (.Compare a [.In] [b] pos) (tB (f2 (inD false) fa fb)) := j_cmp (op := .In) (pos := pos) (op_inD hu) (in_J ha.k) ha hb hm
theorem jtNotIn (hu : X.A.units + 65 < cLine) (ha : JR X T W a fa) (hb : JR X T W b fb) (hm : behindInMarks .NotIn b = false := by first | exact nomark _ | rfl) : JT X T W (.Compare a [.NotIn] [b] pos) (tB (f2 (inD true) fa fb)) := j_cmp (op := .NotIn) (pos := pos) (op_notInD hu) (notIn_J ha.k) ha hb hm
theorem jtLt (ha : JR X T W a fa) (hb : JR X T W b fb) (hm : behindInMarks .Lt b = false := by first | exact nomark _ | rfl) : JT X T W (.Compare a [.Lt] [b] pos) (tB (f2 ltD fa fb)) := j_cmp (op := .Lt) (pos := pos) op_lt icmp_J ha hb hm
theorem jtLe (ha : JR X T W a fa) (hb : JR X T W b fb) (hm : behindInMarks .LtE b = false := by first | exact nomark _ | rfl) : JT X T W (.Compare a [.LtE] [b] pos) (tB (f2 leD fa fb)) := j_cmp (op := .LtE) (pos := pos) op_le icmp_J ha hb hm
theorem jtGt (ha : JR X T W a fa) (hb : JR X T W b fb) (hm : behindInMarks .Gt b = false := by first | exact nomark _ | rfl) : JT X T W (.Compare a [.Gt] [b] pos) (tB (f2 gtD fa fb)) := j_cmp (op := .Gt) (pos := pos) op_gt icmp_J ha hb hm
theorem jtGe (ha : JR X T W a fa) (hb : JR X T W b fb) (hm : behindInMarks .GtE b = false := by first | exact nomark _ | rfl) : JT X T W (.Compare a [.GtE] [b] pos) (tB (f2 geD fa fb)) := j_cmp (op := .GtE) (pos := pos) op_ge icmp_J ha hb hm
theorem jtIsN (ha : JR X T W a fa) (hb : JR X T W b fb) (hm : behindInMarks .Is b = false := by first | exact nomark _ | rfl) : JT X T W (.Compare a [.Is] [b] pos) (tB (f2 isNonD fa fb)) := j_cmp (op := .Is) (pos := pos) op_isN isNon_J ha hb hm
theorem jtNotN (ha : JR X T W a fa) (hb : JR X T W b fb) (hm : behindInMarks .IsNot b = false := by first | exact nomark _ | rfl) : JT X T W (.Compare a [.IsNot] [b] pos) (tB (f2 notNonD fa fb)) := j_cmp (op := .IsNot) (pos := pos) op_notN notNon_J ha hb hm
theorem jeEq (hu : X.A.units + 65 < cLine) (ha : JR X T W a fa) (hb : JR X T W b fb) (hm : behindInMarks .Eq b = false := by first | exact nomark _ | rfl) : JE X T W (.Compare a [.Eq] [b] pos) (f2 eqD fa fb) := j_cmpE (op := .Eq) (pos := pos) (op_eqD (u4 hu)) (eq_J ha.k) ha hb hm
theorem jeNe (hu : X.A.units + 65 < cLine) (ha : JR X T W a fa) (hb : JR X T W b fb) (hm : behindInMarks .NotEq b = false := by first | exact nomark _ | rfl) : JE X T W (.Compare a [.NotEq] [b] pos) (f2 neD fa fb) := j_cmpE (op := .NotEq) (pos := pos) (op_neD (u4 hu)) (ne_J ha.k) ha hb hm
theorem jeIn (hu : X.A.units + 65 < cLine) (ha : JR X T W a fa) (hb : JR X T W b fb) (hm : behindInMarks .In b = false := by first | exact nomark _ | rfl) : JE X T W (.Compare a [.In] [b] pos) (f2 (inD false) fa fb) := j_cmpE (op := .In) (pos := pos) (op_inD hu) (in_J ha.k) ha hb hm
theorem jeNotIn (hu : X.A.units + 65 < cLine) (ha : JR X T W a fa) (hb : JR X T W b fb) (hm : behindInMarks .NotIn b = false := by first | exact nomark _ | rfl) : JE X T W (.Compare a [.NotIn] [b] pos) (f2 (inD true) fa fb) := j_cmpE (op := .NotIn) (pos := pos) (op_notInD hu) (notIn_J ha.k) ha hb hm
theorem jeLt (ha : JR X T W a fa) (hb : JR X T W b fb) (hm : behindInMarks .Lt b = false := by first | exact nomark _ | rfl) : JE X T W (.Compare a [.Lt] [b] pos) (f2 ltD fa fb) := j_cmpE (op := .Lt) (pos := pos) op_lt icmp_J ha hb hm
theorem jeLe (ha : JR X T W a fa) (hb : JR X T W b fb) (hm : behindInMarks .LtE b = false := by first | exact nomark _ | rfl) : JE X T W (.Compare a [.LtE] [b] pos) (f2 leD fa fb) := j_cmpE (op := .LtE) (pos := pos) op_le icmp_J ha hb hm
theorem jeGt (ha : JR X T W a fa) (hb : JR X T W b fb) (hm : behindInMarks .Gt b = false := by first | exact nomark _ | rfl) : JE X T W (.Compare a [.Gt] [b] pos) (f2 gtD fa fb) := j_cmpE (op := .Gt) (pos := pos) op_gt icmp_J ha hb hm
theorem jeGe (ha : JR X T W a fa) (hb : JR X T W b fb) (hm : behindInMarks .GtE b = false := by first | exact nomark _ | rfl) : JE X T W (.Compare a [.GtE] [b] pos) (f2 geD fa fb) := j_cmpE (op := .GtE) (pos := pos) op_ge icmp_J ha hb hm
theorem jeIsN (ha : JR X T W a fa) (hb : JR X T W b fb) (hm : behindInMarks .Is b = false := by first | exact nomark _ | rfl) : JE X T W (.Compare a [.Is] [b] pos) (f2 isNonD fa fb) := j_cmpE (op := .Is) (pos := pos) op_isN isNon_J ha hb hm
theorem jeNotN (ha : JR X T W a fa) (hb : JR X T W b fb) (hm : behindInMarks .IsNot b = false := by first | exact nomark _ | rfl) : JE X T W (.Compare a [.IsNot] [b] pos) (f2 notNonD fa fb) := j_cmpE (op := .IsNot) (pos := pos) op_notN notNon_J ha hb hm
end

/-! ### list(range(..)) -/
section
variable {X : Cx} {T : Tab} {W : WX} {a b : Expr} {fa fb : En → Rs Ar} {p q pos pos' : Pos}
def rgOk (i j : Int) : Bool := decide (-(2 ^ 62) ≤ i ∧ i < 2 ^ 62 ∧ -(2 ^ 62) ≤ j ∧ j < 2 ^ 62 ∧ (j - i).toNat ≤ 2 ^ 24)
def rgD (d e : D) : Option D := match d, e with
  | .int i, .int j => if rgOk i j = true then some (.lst (rangeL i (j - i).toNat)) else none
  | _, _ => none
theorem rg_reps {G : Hp} {i j : Int} : Reps T G (rgV i j) (rangeL i (j - i).toNat) := by
  refine Reps.of_get (by unfold rgV rangeL; simp) fun n x d h1 h2 => ?_
  unfold rgV at h1
  unfold rangeL at h2
  rw [List.getElem?_map] at h1 h2
  cases e : (List.range (j - i).toNat)[n]? with
  | none => rw [e] at h1; cases h1
  | some m => rw [e] at h1 h2; cases h1; cases h2; rfl
theorem jListRg2 (hc : X.calm = true) (ha : JR X T W a fa) (hb : JR X T W b fb) (B : NoB X.mg) (hg : Gl X "list" := by rfl) (hg2 : Gl X "range" := by rfl) (na : starEach [a, b] X.env = (false, eval a X.env) :: starEach [b] X.env := by rfl)
    (nb : starEach [b] X.env = (false, eval b X.env) :: starEach [] X.env := by rfl) (hp : (backTo pos' (starEach [b] X.env)).any (·.1) = false := by rfl) (nc : starEach [.Call (.Name "range" q) [a, b] [] pos'] X.env = (false, eval (.Call (.Name "range" q) [a, b] [] pos') X.env) :: starEach [] X.env := by rfl) :
    JO X T W (.Call (.Name "list" p) [.Call (.Name "range" q) [a, b] [] pos'] [] pos) (f2 rgD fa fb) := by
  refine ⟨ha.k, pe_imp (pe_listRg hc hg B.list (prg_2 hg2 B.range ha.run hb.run na nb hp) nc) fun σ H Q ⟨U, G, ρ, R, h⟩ => ⟨U, G, ρ, R, ?_⟩⟩
  refine (Pst.bnd h).mono (L2.Same.refl _) fun x G1 H1 ρ1 _ ⟨R1, s1, p1⟩ v av => ⟨U, G1, ρ1, R1, ?_⟩
  refine (Pst.bnd p1).mono (L2.Same.refl _) fun y G2 H2 ρ2 _ ⟨R2, s2, p2⟩ u au => ?_
  unfold r2 at p2
  cases e1 : look ρ2 x with
  | none => rw [e1] at p2; exact p2.elim
  | some d =>
    cases e2 : look ρ2 y with
    | none => rw [e1, e2] at p2; exact p2.elim
    | some e =>
      rw [e1, e2] at p2
      obtain ⟨c, e3, p3⟩ := Pst.opt p2
      cases d <;> cases e <;> simp only [rgD] at e3 <;> first | (cases e3; done) | skip
      rename_i i j
      split at e3
      · rename_i hr
        cases e3
        have hr' := of_decide_eq_true hr
        refine ⟨i, j, (look_ok R2 (av.mono s2) e1).int, (look_ok R2 au e2).int, hr', fun q hq => ?_⟩
        obtain ⟨R3, hn⟩ := R2.fresh (o := .lst (rgV i j)) hq
        exact p3 G2 _ R3 (L2.Same.refl _) q _ (R2.gfree hq) (R2.ufree hq) upd_same ⟨_, rfl, rg_reps⟩ hn
      · cases e3
end

/-! ### defs that may be called -/
structure CalV (P : Program) (w : World) (K : PySem.W.Frag) (mg : Str → Option Value) (base : Heap) (T : Tab) (k : Nat) (x : Str) (n : Nat) (F : FV) : Prop where
  ex : ∃ (f : Addr) (fd : FuncData) (ps : List Str), FnOk P w K mg base (L2.CX P w) k f fd ps (spV T n F) ∧ mg x = some (.ref f) ∧ PySem.W.keepIn K (.ref f) = true ∧ Binds K fd ps []
structure CalL (P : Program) (w : World) (K : PySem.W.Frag) (mg : Str → Option Value) (base : Heap) (T : Tab) (k : Nat) (x : Str) (n : Nat) (F : FL) : Prop where
  ex : ∃ (f : Addr) (fd : FuncData) (ps : List Str), FnOk P w K mg base (L2.CX P w) k f fd ps (spL T n F) ∧ mg x = some (.ref f) ∧ PySem.W.keepIn K (.ref f) = true ∧ Binds K fd ps []
section
variable {X : Cx} {T : Tab} {W : WX} {k j n : Nat} {x : Str} {p pos : Pos} {e : Expr} {es : List Expr}
theorem jc {F : FV} {g : AF} (c : CalV X.prog X.w X.K X.mg X.base T k x n F) (hr : Room j X.A) (tk : Takes X W) (ha : JA X T W (e :: es) g) (hk : k ≤ j := by decide) (hn : (e :: es).length = n := by rfl) (hg : Gl X x := by rfl) (hdb : (x == ("__debug__" : Str)) = false := by decide)
    (he : starEach (e :: es) X.env = (false, eval e X.env) :: starEach es X.env := by rfl) (hpl : (backTo pos (starEach es X.env)).any (·.1) = false := by rfl) : JE X T W (.Call (.Name x p) (e :: es) [] pos) (eCall F [] g) := by
  obtain ⟨f, fd, ps, Fo, hm, kp, b⟩ := c.ex
  exact j_call (dv := []) Fo (hr.mono hk) hm kp b .nil (fun _ => rfl) tk ha hn hg hdb he hpl
theorem jc0 {F : FV} (c : CalV X.prog X.w X.K X.mg X.base T k x 0 F) (hr : Room j X.A) (tk : Takes X W) (hK : X.K = T.K) (hk : k ≤ j := by decide) (hg : Gl X x := by rfl) (hdb : (x == ("__debug__" : Str)) = false := by decide) : JE X T W (.Call (.Name x p) [] [] pos) (eCall F [] aNil) := by
  obtain ⟨f, fd, ps, Fo, hm, kp, b⟩ := c.ex
  exact j_call0 (dv := []) Fo (hr.mono hk) hm kp b .nil (fun _ => rfl) tk hK rfl hg hdb
theorem jcl {F : FL} {g : AF} (c : CalL X.prog X.w X.K X.mg X.base T k x n F) (hr : Room j X.A) (tk : Takes X W) (ha : JA X T W (e :: es) g) (hk : k ≤ j := by decide) (hn : (e :: es).length = n + 1 := by rfl) (hg : Gl X x := by rfl) (hdb : (x == ("__debug__" : Str)) = false := by decide)
    (he : starEach (e :: es) X.env = (false, eval e X.env) :: starEach es X.env := by rfl) (hpl : (backTo pos (starEach es X.env)).any (·.1) = false := by rfl) : JE X T W (.Call (.Name x p) (e :: es) [] pos) (eCallL F g) := by
  obtain ⟨f, fd, ps, Fo, hm, kp, b⟩ := c.ex
  exact j_callL Fo (hr.mono hk) hm kp b tk ha hn hg hdb he hpl
end
section
variable {P : Program} {w : World} {K : PySem.W.Frag} {mg : Str → Option Value} {base : Heap} {T : Tab} {x : Str} {st : Stmt} {f : Addr} {fd : FuncData} {N ps : List Str} {k m n : Nat} {ws : List Nat} {body : SF}
/-- what a body may use -/
structure Bo (X : Cx) (k : Nat) (E : XK) : Prop where
  hr : Room k X.A
  tk : Takes X (WO E)
  hp : PassesOwn (model X.prog X.w) X.A X.env X.xe
theorem calV (F : Fun K x x st f fd) (S : FnScope N ps (defScope st)) (hm : mg x = some (.ref f)) (hb : Binds K fd ps [])
    (hbody : ∀ (cdv : Value) (A : Around) (outer : List Env) (s : Shared) (H : Hp) (E : XK), Bo (cxOf (L2.CX P w) P w K mg base N x (defScope st) f cdv A outer s H E) k E →
      JSs (cxOf (L2.CX P w) P w K mg base N x (defScope st) f cdv A outer s H E) T (WO E) ws (defBody st) body) (hN : N.length = ps.length + m := by rfl) (hn : ps.length = n := by rfl) : CalV P w K mg base T (k + 1) x n (fnV m body) := by
  subst hn
  exact ⟨f, fd, ps, fnV_ok F S hN fun cdv A outer s H E hr => hbody cdv A outer s H E ⟨hr, takes_of rfl rfl rfl rfl, passes_of rfl⟩, hm, F.kp, hb⟩
theorem calL (F : Fun K x x st f fd) (S : FnScope N ps (defScope st)) (hm : mg x = some (.ref f)) (hb : Binds K fd ps [])
    (hbody : ∀ (cdv : Value) (A : Around) (outer : List Env) (s : Shared) (H : Hp) (E : XK), Bo (cxOf (L2.CX P w) P w K mg base N x (defScope st) f cdv A outer s H E) k E →
      JSs (cxOf (L2.CX P w) P w K mg base N x (defScope st) f cdv A outer s H E) T (WO E) ws (defBody st) body) (hw : 0 ∉ ws := by decide) (hN : N.length = ps.length + m := by rfl) (hn : ps.length = n + 1 := by rfl) : CalL P w K mg base T (k + 1) x n (fnL m body) :=
  ⟨f, fd, ps, fnL_ok F S hN hn hw fun cdv A outer s H E hr => hbody cdv A outer s H E ⟨hr, takes_of rfl rfl rfl rfl, passes_of rfl⟩, hm, F.kp, hb⟩
end

/-! ### short forms -/
def bigN : Nat := 1000000000000000000
/-- a def that is not walked -/
theorem calBad {P : Program} {w : World} {K : PySem.W.Frag} {mg : Str → Option Value} {base : Heap} {T : Tab} {x : Str} {st : Stmt} {f : Addr} {fd : FuncData} {ps : List Str} {k n : Nat} (F : Fun K x x st f fd) (hm : mg x = some (.ref f)) (hb : Binds K fd ps []) (hn : ps.length = n := by rfl) :
    CalV P w K mg base T k x n (fun _ => .bad) :=
  ⟨f, fd, ps, ⟨fun vs H Q E ⟨_, _, _, _, _, _, z⟩ => z.elim, fun A outer s H args us vs Q E _ _ _ _ ⟨_, _, _, _, _, _, z⟩ => z.elim⟩, hm, F.kp, hb⟩
/-- an own exception class: its number, its fields' numbers (the last one first), how many arguments -/
structure ExT (P : Program) (w : World) (K : PySem.W.Frag) (mg : Str → Option Value) (base : Heap) (T : Tab) (k : Nat) (x : Str) (c : Nat) (ns : List Nat) (n : Nat) : Prop where
  ex : ∃ C fs, ExK P w K mg base x C fs k ∧ T.exc c = C ∧ fs.reverse = ns.map T.fnm ∧ fs.length = n
/-- an except clause -/
structure HdT (K : PySem.W.Frag) (mg : Str → Option Value) (T : Tab) (x : Str) (hm : Nat → Option Bool) : Prop where
  ex : ∃ cl, mg x = some cl ∧ ∀ c b, hm c = some b → PySem.W.exmOne K (.ref (T.exc c)) cl = some b
/-- a field of a caught exception -/
structure XfT (K : PySem.W.Frag) (T : Tab) (n : Nat) (f : Str) (ok : Nat → Bool) : Prop where
  fn : T.fnm n = f
  ok : ∀ c, ok c = true → XfC K (T.exc c) ∧ PySem.W.findIn K (.ref (T.exc c)) f = some none
section
variable {X : Cx} {T : Tab} {W : WX} {k j n : Nat} {x : Str} {p pos pos' : Pos} {e : Expr} {es : List Expr}
theorem jRaise {c : Nat} {ns : List Nat} {g : AF} (et : ExT X.prog X.w X.K X.mg X.base T k x c ns n) (hr : Room j X.A) (tk : Takes X W) (ha : JA X T W (e :: es) g) (hk : k + 1 ≤ j := by decide) (hl : (e :: es).length = n := by rfl) (hc : X.calm = true := by rfl) (hl2 : (e :: es).length ≤ 1000 := by decide)
    (hg : Gl X x := by rfl) (hdb : (x == ("__debug__" : Str)) = false := by decide) (he : starEach (e :: es) X.env = (false, eval e X.env) :: starEach es X.env := by rfl) (hpl : (backTo pos (starEach es X.env)).any (·.1) = false := by rfl) :
    JS X T W [] (.Raise (some (.Call (.Name x p) (e :: es) [] pos)) none pos') (sRaise c ns g) := by
  obtain ⟨C, fs, ek, h1, h2, h3⟩ := et.ex
  exact j_raise ek (hr.mono hk) tk h1 h2 ha (hl.trans h3.symm) hc hl2 hg hdb he hpl
theorem jTryAs {y : Str} {i : Nat} {hm : Nat → Option Bool} {body suite : List Stmt} {b₀ : Stmt} {np : Pos} {f g : SF} {wb ws : List Nat} (hK : X.K = T.K) (hN : X.N.Nodup) (hd : HdT X.K X.mg T x hm) (tk : Takes X W)
    (hb : ∀ (W : WX) (pn : List (Addr × Obj)) (xe : Value → Shared → Prop), Takes (X.tr pn xe) W → PassesOwn (model X.prog X.w) X.A X.env xe → JSs (X.tr pn xe) T W wb body f)
    (hsu : ∀ (a : Addr) (oe : Obj) (cls : Value) (d : Option Addr) (pn : List (Addr × Obj)), Zc cls d oe → (∃ vs, oe.data = .fields vs) → JSs (X.suite a ((a, oe) :: pn)) (eaT T (some (a, cls, d))) WF ws (b₀ :: suite) g)
    (hi : X.N[i]? = some y := by rfl) (hln : X.env.kindOf y = some .local := by rfl) (hg : Gl X x := by rfl) (hdb : (x == ("__debug__" : Str)) = false := by decide)
    (hs : X.stack = X.env :: X.outer := by rfl) (hf : X.env.frame = some X.env.locals := by rfl) :
    JS X T W (wb ++ (i :: ws)) (.Try body [.ExceptHandler (some (.Name x np)) (some y) (b₀ :: suite) pos'] [] [] pos) (sTryAs i hm f g) := by
  obtain ⟨cl, h1, h2⟩ := hd.ex
  exact j_try_as hK hN hi hln ⟨hg, hdb, .inl h1⟩ tk h2 hb hsu hs hf
theorem jTry {hm : Nat → Option Bool} {body suite : List Stmt} {b₀ : Stmt} {np : Pos} {f g : SF} {wb ws : List Nat} (hK : X.K = T.K) (hd : HdT X.K X.mg T x hm) (tk : Takes X W)
    (hb : ∀ (W : WX) (pn : List (Addr × Obj)) (xe : Value → Shared → Prop), Takes (X.tr pn xe) W → PassesOwn (model X.prog X.w) X.A X.env xe → JSs (X.tr pn xe) T W wb body f)
    (hsu : ∀ (a : Addr) (oe : Obj) (pn : List (Addr × Obj)), JSs (X.suite a ((a, oe) :: pn)) T WF ws (b₀ :: suite) g)
    (hx : ∀ ρ c ns vs ρ', g ρ ≠ .ex c ns vs ρ') (hg : Gl X x := by rfl) (hdb : (x == ("__debug__" : Str)) = false := by decide)
    (hs : X.stack = X.env :: X.outer := by rfl) (hf : X.env.frame = some X.env.locals := by rfl) :
    JS X T W (wb ++ ws) (.Try body [.ExceptHandler (some (.Name x np)) none (b₀ :: suite) pos'] [] [] pos) (sTry hm f g) := by
  obtain ⟨cl, h1, h2⟩ := hd.ex
  exact j_try hK ⟨hg, hdb, .inl h1⟩ tk h2 hb hsu hx hs hf
theorem jXf {i n : Nat} {ok : Nat → Bool} {a : Addr} {oe : Obj} {cls : Value} {d : Option Addr} {pn : List (Addr × Obj)} {f : Str} (hk : X.K = T.K) (hinj : ∀ a b, T.fnm a = T.fnm b → a = b) (xf : XfT X.K T n f ok) (hz : Zc cls d oe) (hf : ∃ vs, oe.data = .fields vs)
    (hN : X.N[i]? = some x := by rfl) (hv : Vis X.env.scope x := by first | exact Or.inl rfl | exact Or.inr (Or.inl rfl) | exact Or.inr (Or.inr rfl)) (hd : (x == ("__debug__" : Str)) = false := by decide)
    (hcd : (x == ("__classdict__" : Str)) = false := by decide) (hb : attributeBase (.Name x p) f X.env (eval (.Name x p) X.env) = eval (.Name x p) X.env := by rfl) :
    JE (X.suite a ((a, oe) :: pn)) (eaT T (some (a, cls, d))) W (.Attribute (.Name x p) f pos) (eXf i n ok) := j_xf hk hinj xf.fn xf.ok hz hf hN hv hd hcd hb
end
end J

set_option Elab.async false
set_option linter.all false
set_option maxRecDepth 100000
set_option maxHeartbeats 4000000
namespace J
open PySem PySem.Spec PyProof.Rows L2

/-! ### repr -/
def reprOk (d : D) : Bool := okE 60 d && ((toPy d).showable && decide ((toPy d).shown.length ≤ sizeLine))
def rReprJ (T : Tab) : List V → Hp → VK → Prop := fun xs H Q => ∃ x G d, xs = [x] ∧ L2.Same G H ∧ Rep T G x d ∧ reprOk d = true ∧ Q (.str (toPy d).shown) H
theorem repr_J {X : Cx} {T : Tab} (hK : X.K = T.K) (hg : X.A.guards = some []) (hu : X.A.units + 65 < cLine) : CallR X (.builtin "repr") (rReprJ T) := by
  intro pins s σ H xs us Q I r h
  obtain ⟨x, G, d, rfl, sm, rd, ho, q⟩ := h
  obtain ⟨u, rfl, ru⟩ := r.one
  obtain ⟨o1, o2⟩ := Bool.and_eq_true_iff.mp ho
  obtain ⟨o2, o3⟩ := Bool.and_eq_true_iff.mp o2
  have o3 := of_decide_eq_true o3
  obtain ⟨a1, a2, a3⟩ := okE_dp o1 (rd.mono sm)
  rw [← hK] at a1
  obtain ⟨as, rr⟩ := Dp.reads I _ x u a1 ru
  have hnd := PyData.noDict_hsm (as := as) (PyData.hasDict_of_canLay _ a2)
  have fin : ∀ h' t, (∀ b o, s.heap.get? b = some o → h'.get? b = some o) → ∀ k, EP X pins σ Q (.str (toPy d).shown k) { s with heap := h', toks := t } := fun h' t hk k => ⟨.str _, H, I.kept hk, ⟨_, rfl⟩, q⟩
  cases d with
  | non => cases rd; cases ru; exact PySem.P.repr_of_none (fin s.heap _ (fun _ _ e => e) _)
  | bl b => cases rd; cases ru; exact PySem.P.repr_of_bool (by have z := fin s.heap (s.toks + 1) (fun _ _ e => e) s.toks; cases b <;> exact z)
  | int i => cases rd; obtain ⟨t, rfl⟩ := ru; exact PySem.P.repr_of_int (by simpa [toPy, PyData.showable] using o2) (fin s.heap _ (fun _ _ e => e) _)
  | str z => obtain ⟨rfl, _⟩ := rd; obtain ⟨t, rfl⟩ := ru; exact PySem.P.repr_of_str (fin s.heap _ (fun _ _ e => e) _) o3
  | tup ds =>
    obtain ⟨a, ys, rfl, _⟩ := rd
    cases ru
    exact repr_of_reads' rr o2 hnd hg (by omega) (fun _ _ e => e) (fun h' u tk hk => fin h' tk hk u) o3
  | lst ds =>
    obtain ⟨a, ys, rfl, _⟩ := rd
    cases ru
    exact repr_of_reads' rr o2 hnd hg (by omega) (fun _ _ e => e) (fun h' u tk hk => fin h' tk hk u) o3
  | scr ds => simp [okE] at o1
  | dct _ _ => simp [okE] at o1
  | obj _ _ _ => simp [okE] at o1
  | fn _ => simp [okE] at o1
/-- repr(a) != repr(b) -/
def tReprNe (f g : EF) : TF := fun ρ => (f ρ).bnd fun d ρ1 => if reprOk d = true then (g ρ1).bnd fun e ρ2 => (if reprOk e = true then .ok (!decide ((toPy d).shown = (toPy e).shown)) ρ2 else .bad) else .bad
section
variable {X : Cx} {T : Tab} {W : WX} {a b : Expr} {f g : EF} {p q pos1 pos2 pos : Pos}
theorem jReprNe (hg : X.A.guards = some []) (hu : X.A.units + 65 < cLine) (ha : JE X T W a f) (hb : JE X T W b g) (B : NoB X.mg) (hgl : Gl X "repr" := by rfl) (he : starEach [a] X.env = (false, eval a X.env) :: starEach [] X.env := by rfl) (he2 : starEach [b] X.env = (false, eval b X.env) :: starEach [] X.env := by rfl) :
    JT X T W (.Compare (.Call (.Name "repr" p) [a] [] pos1) [.NotEq] [.Call (.Name "repr" q) [b] [] pos2] pos) (tReprNe f g) := by
  have ra := pe_callB (pos := pos1) (p := p) (repr_J ha.k hg hu) hgl B.repr PyProof.Rows.bootS_repr (pa_cons ha.run pa_nil he) (by decide) (by decide) he rfl
  have rb := pe_callB (pos := pos2) (p := q) (repr_J ha.k hg hu) hgl B.repr PyProof.Rows.bootS_repr (pa_cons hb.run pa_nil he2) (by decide) (by decide) he2 rfl
  refine ⟨ha.k, pt_imp (pt_cmpR op_ne ra rb (nomark _)) fun σ H Q ⟨U, G, ρ, R, h⟩ => ⟨U, G, ρ, R, ?_⟩⟩
  refine (Pst.bnd h).mono (L2.Same.refl _) fun d G1 H1 ρ1 _ ⟨R1, s1, p1⟩ v rv => ?_
  split at p1
  · rename_i ho
    refine ⟨v, G1, d, rfl, R1.same, rv, ho, U, G1, ρ1, R1, (Pst.bnd p1).mono (L2.Same.refl _) fun e G2 H2 ρ2 _ ⟨R2, s2, p2⟩ u ru => ?_⟩
    split at p2
    · rename_i hh
      refine ⟨u, G2, e, rfl, R2.same, ru, hh, ?_⟩
      have z := p2 G2 H2 R2 (L2.Same.refl _)
      have e1 : decide (V.str (toPy d).shown = V.str (toPy e).shown) = decide ((toPy d).shown = (toPy e).shown) := by
        rw [Bool.eq_iff_iff]; simp
      exact ⟨rfl, _, rfl, by rw [e1]; exact z⟩
    · exact p2.elim
  · exact p1.elim
end

/-! ### a def that may ask where it stands -/
structure FnG (P : Program) (w : World) (K : PySem.W.Frag) (mg : Str → Option Value) (base : Heap) (CX : CXT) (k : Nat) (f : Addr) (fd : FuncData) (ps : List Str) (sp : Sp) : Prop where
  len : ∀ vs H Q E, sp vs H Q E → vs.length = ps.length
  run : ∀ (A : Around) (outer : List Env) (s : Shared) (H : Hp) (args : Args) (us : List Value) (vs : List V) (Q : VK) (E : XK), A.guards = some [] → Room k A → Env0 P w K mg base A outer s H → BindsTo s fd args (ps.zip us) → Vals vs us → sp vs H Q E →
    codeAny (model P w) A (.call (.ref f) args) (CR CX outer P w H s Q E) s
section
variable {P : Program} {w : World} {K : PySem.W.Frag} {mg : Str → Option Value} {base : Heap}
theorem deeper_guards {A : Around} {env : Env} (h : A.guards = some []) : (A.deeper env).guards = some [] := h
/-- by its body -/
theorem fnG_of {x qual : Str} {st : Stmt} {f : Addr} {fd : FuncData} {N ps : List Str} {k : Nat} {sp : Sp} {CX : CXT} (F : Fun K x qual st f fd) (S : FnScope N ps (defScope st)) (len : ∀ vs H Q E, sp vs H Q E → vs.length = ps.length)
    (hbody : ∀ (cdv : Value) (A : Around) (outer : List Env) (s : Shared) (H : Hp) (vs : List V) (Q : VK) (E : XK), A.guards = some [] → Room k (A.deeper (envOfC qual (defScope st) s.heap.objs.size f cdv)) → sp vs H Q E →
      ∃ t, PSs (cxOf CX P w K mg base N qual (defScope st) f cdv A outer s H E) (defBody st) t ∧ t { nx := fun _ H' => Q .non H', rt := Q } (L2.start N vs) H) : FnG P w K mg base CX (k + 1) f fd ps sp := by
  obtain ⟨oc, od, kV, doc, pm, an, cdv, ct, osl, rfl, lk, hcd⟩ := F.ex
  refine ⟨len, fun A outer s H args us vs Q E hg hr e0 hbind r hsp => ?_⟩
  have hl := len _ _ _ _ hsp
  have KX : K.In s.heap := e0.mod.kin.keeps fun b o e => (e0.bs b o e).1
  refine codeAny_call_function hr.depth (KX _ _ lk) rfl S.co S.gen rfl (PySem.W.codeRec_of KX hcd) (hbind _ _ _ _ ?_)
  refine wpAny_newFunctionEnv_cells S.kind (fun ⟨n, v⟩ hy => (S.par n (List.of_mem_zip hy).1).imp id fun q => ⟨q, PySem.W.cellsFrom_some _ _ _ (.inl q)⟩) fun env he s1 x => ?_
  subst he
  refine ⟨(e0.mod.nolimit.keeps fun b o e => (e0.bs b o e).1).keeps x.toInCall.keep, codeAny_func ?_⟩
  obtain ⟨t, ht, hq⟩ := hbody cdv A outer s H vs Q E hg (hr.deeper _) hsp
  have out : ∀ {σ' : L2.St} {H' : Hp} {v : V} {u : Value} {s' : Shared}, Inv (cxOf CX P w K mg base N qual (defScope st) f cdv A outer s H E) [] σ' H' s' → RelV v u → Q v H' → CE outer P w H s Q u s' :=
    fun J rv q => ⟨_, _, J.os, J.bare, J.base, J.hok, rv, q⟩
  refine wpAny_mono (ht.run [] s1 (L2.start N vs) H _ (inv_start S hr.hd e0 hl r x) hq) (fun fl s' hs => ?_) fun e s' hs => hs
  cases fl with
  | ret u => obtain ⟨v, σ', H', J, rv, q⟩ := hs; exact out J rv q
  | next => obtain ⟨σ', H', J, q⟩ := hs; exact out (v := V.non) (u := Value.none) J rfl q
  | brk => obtain ⟨_, _, _, q⟩ := hs; exact q.elim
  | cont => obtain ⟨_, _, _, q⟩ := hs; exact q.elim
theorem fnG_V {x qual : Str} {st : Stmt} {f : Addr} {fd : FuncData} {N ps : List Str} {k m : Nat} {ws : List Nat} {body : SF} {T : Tab} (F : Fun K x qual st f fd) (S : FnScope N ps (defScope st)) (hN : N.length = ps.length + m)
    (hbody : ∀ (cdv : Value) (A : Around) (outer : List Env) (s : Shared) (H : Hp) (E : XK), A.guards = some [] → Bo (cxOf (L2.CX P w) P w K mg base N qual (defScope st) f cdv A outer s H E) k E →
      JSs (cxOf (L2.CX P w) P w K mg base N qual (defScope st) f cdv A outer s H E) T (WO E) ws (defBody st) body) : FnG P w K mg base (L2.CX P w) (k + 1) f fd ps (spV T ps.length (fnV m body)) := by
  refine fnG_of F S (fun vs H Q E h => h.1) (fun cdv A outer s H vs Q E hg hr h => ?_)
  obtain ⟨hl, U, G, ds, R, r, p⟩ := h
  refine ⟨_, (hbody cdv A outer s H E hg ⟨hr, takes_of rfl rfl rfl rfl, passes_of rfl⟩).run, U, G, _, start_at hN hl ▸ R.entry r m, ?_⟩
  unfold fnV at p
  cases e : body (ds.map .sh ++ List.replicate m .no) with
  | ok a ρ' =>
    rw [e] at p
    cases a with
    | nx => exact fun σ' G' H' R' s' _ => p G' H' R'.nil s' _ rfl
    | rt d => exact fun v σ' G' H' R' s' _ r' => p G' H' R'.nil s' v r'
  | ex c ns vs ρ' => rw [e] at p; exact fun cls dx σ' G' H' R' s' _ x => p cls dx G' H' R'.nil s' x
  | bad => rw [e] at p; exact p.elim
/-- it is called by what stands at the top, H tracking at most the script -/
theorem topG_at {a fa : Addr} {fd : FuncData} {x : Str} {sp : Sp} {CX : CXT} {k : Nat} {s₁ : Shared} {H : Hp} {its : Array Value} {mb : Str → Option Value} (KX : K.In s₁.heap) (hns : s₁.heap.Ns mainGlobals mg) (hb : s₁.heap.Ns builtinsNs mb) (hbb : ∀ x : Str, x ≠ "__name__" → mb x = bootBuiltins x) (hlim : s₁.heap.NoLimit) (hg : s₁.gens = #[])
    (ha : s₁.heap.get? a = some { cls := .type "list", data := .seq its }) (hr : Room k callerA) (hO : Only H) (hok : HOk P w H s₁.heap) (h1 : ∀ b, b ≠ a → H b = none) (h2 : ∀ o, K.lookup a = some o → H a = none)
    (F : ∀ base : Heap, K.In base → base.Ns mainGlobals mg → FnG P w K mg base CX k fa fd [x] sp) (hbind : ∀ (s : Shared) (u : Value), BindsTo s fd ⟨[u], []⟩ [(x, u)])
    (hsp : sp [.ref a] H (fun v _ => v = .bl true) fun _ _ _ => False) (hCX : ∀ H e s', CX [] H s₁ (fun _ _ _ => False) e s' → False) :
    codeAny (model P w) callerA (.call (.ref fa) ⟨[.ref a], []⟩) (fun r s' => r = .ok (.ret (.bool true)) ∧ OldK s₁.heap s'.heap ∧ s'.os = s₁.os ∧ AllBare s'.gens) s₁ := by
  have stays : ∀ {b : Addr} {o : Obj}, s₁.heap.get? b = some o → H b = none → (hidT s₁.heap H).get? b = some o := fun e n => hidT_get e n
  have ns : ∀ {b : Addr} {m : Str → Option Value}, s₁.heap.Ns b m → (hidT s₁.heap H).Ns b m := fun {b m} ⟨o, es, ep, e, d, r⟩ => by
    refine ⟨o, es, ep, stays e (h1 b fun z => ?_), d, r⟩
    rw [z, ha] at e
    cases e
    cases d
  have hKb : K.In (hidT s₁.heap H) := fun b o e => stays (KX b o e) (by
    by_cases hba : b = a
    · rw [hba] at e ⊢; exact h2 o e
    · exact h1 b hba)
  have hlim' : (hidT s₁.heap H).NoLimit := let ⟨mc, l1, l2⟩ := hlim; ⟨mc, ns l1, l2⟩
  have e0 : Env0 P w K mg (hidT s₁.heap H) callerA [] s₁ H :=
    ⟨rfl, ⟨hKb, ns hns, ⟨mb, ns hb, hbb⟩, hlim'⟩, fun b o e => of_hidT e, Nat.le_of_eq (hidT_size _ _), trivial, fun b z => (List.not_mem_nil z).elim, hok, .of_eq hg⟩
  refine codeAny_mono ((F _ hKb (ns hns)).run callerA [] s₁ H ⟨[.ref a], []⟩ [.ref a] [.ref a] _ _ rfl hr e0 (hbind s₁ (.ref a)) (.cons rfl .nil) hsp) fun r s' q => ?_
  match r, q with
  | .error e, q => exact (hCX H e s' q).elim
  | .ok (.ret u), ⟨v, H', os, bare, un, hok', rv, hv⟩ =>
    have hv : v = .bl true := hv
    subst hv
    have hu : u = Value.bool true := rv
    subst hu
    refine ⟨rfl, OldK.of_keep fun b o e => ?_, os, bare⟩
    rcases hO b with z | ⟨ob, xs, z⟩
    · exact un.keep b o e z (fun m => (List.not_mem_nil m).elim) List.not_mem_nil
    · have o1 := (hok b _ z).1
      rw [e] at o1
      cases o1
      exact (hok' b _ (un.frzs b _ _ z)).1
/-- the end: what k_head leaves, from the law's function -/
theorem walkG {l : PySem.W.OpenLaw} {n k : Nat} {q : Program} {loose : List Str} {XP : (Str → Option Value) → Heap → Prop} {YP : World → Heap → Prop} {d : DefRec} {K : Params → PySem.W.Frag} {CX : World → CXT} {sp : World → Sp} {x : Str}
    (hn : l.most = some n) (hn2 : n ≤ sizeLine) (hdf : d.params.defaults = []) (hr : Room k callerA) (hY : ∀ (w : World) (h : Heap), YP w h → (K w.params).In h)
    (F : ∀ (w : World) (mg : Str → Option Value) (fa : Addr) (h : Heap), (K w.params).In h → h.Ns mainGlobals mg → mg d.name = some (.ref fa) →
      ∃ fd : FuncData, (∀ (s : Shared) (u : Value), BindsTo s fd ⟨[u], []⟩ [(x, u)]) ∧ ∀ base : Heap, (K w.params).In base → base.Ns mainGlobals mg → FnG l.prog w (K w.params) mg base (CX w) k fa fd [x] (sp w))
    (hsp : ∀ (w : World) (H : Hp) (a : Addr) (ns : List Int), ns.length ≤ n → SqL (K w.params) H a (ns.map V.int) → sp w [.ref a] H (fun v _ => v = .bl true) fun _ _ _ => False)
    (hCX : ∀ (w : World) (H : Hp) (s : Shared) (e : Value) (s' : Shared), CX w [] H s (fun _ _ _ => False) e s' → False) :
    PySem.W.WalkO q loose XP YP l.row.toRowW d [] (fun f vs => PySem.call f vs) := by
  refine Att.attach_call hn hdf fun w s₀ s₁ mg mb fa o pm cd doc a vs ns G Y ho hd hcd hmg hobj hints hlen hg => ?_
  have KX := hY w _ Y
  obtain ⟨fd, hb, hF⟩ := F w mg fa _ KX G.T.g hmg
  have rv := vals_ints hints
  have hz : (ns.map V.int).length ≤ sizeLine := by rw [List.length_map]; omega
  cases hk : (K w.params).lookup a with
  | some ob =>
    have e := KX a ob hk
    rw [hobj] at e
    cases e
    refine topG_at (H := fun _ => none) KX G.T.g G.T.b G.T.builtins G.T.nolimit hg hobj hr (fun _ => .inl rfl) (fun b u z => nomatch (show (none : Option HO) = some u from z)) (fun _ _ => rfl) (fun _ _ => rfl) hF hb (hsp w _ a ns hlen (.inr ⟨_, vs.toArray, _, hk, rfl, rfl, rfl, ?_, rv⟩)) fun H e s' => hCX w H s₁ e s'
    rw [List.size_toArray, hints.length]
    omega
  | none =>
    let o0 : HO := .frz { cls := .type "list", data := .seq vs.toArray } (.lst (ns.map V.int))
    have hat : (fun b => if b = a then some o0 else none : Hp) a = some o0 := if_pos rfl
    refine topG_at (H := fun b => if b = a then some o0 else none) KX G.T.g G.T.b G.T.builtins G.T.nolimit hg hobj hr (fun b => ?_) (fun b u z => ?_) (fun b hb => if_neg hb) (fun o e => by rw [hk] at e; cases e) hF hb (hsp w _ a ns hlen (.inl (.inr ⟨_, hat⟩))) fun H e s' => hCX w H s₁ e s'
    · by_cases hba : b = a
      · exact .inr ⟨_, _, if_pos hba⟩
      · exact .inl (if_neg hba)
    · by_cases hba : b = a
      · have z' := (if_pos hba).symm.trans z
        cases z'
        subst hba
        exact ⟨hobj, hz, vs, _, rv, hobj⟩
      · have z' := (if_neg hba).symm.trans z
        cases z'
end
end J

set_option Elab.async false
set_option linter.all false
set_option maxRecDepth 100000
set_option maxHeartbeats 4000000
namespace J
open PySem PySem.Spec PyProof.Rows L2 NdefX

/-! ### the table -/
def padF (n : Nat) : Str := ⟨Array.replicate (n + 1000) 97⟩
def mkF (names : List Str) (n : Nat) : Str := names.getD n (padF n)
theorem mkF_inj {names : List Str} (h1 : names.all (fun s => decide (s.cps.size < 1000)) = true) (h2 : names.Nodup) : ∀ a b, mkF names a = mkF names b → a = b := by
  intro a b h
  have gt : ∀ n (hn : n < names.length), mkF names n = names[n] := fun n hn => by
    unfold mkF; rw [List.getD_eq_getElem?_getD, List.getElem?_eq_getElem hn]; rfl
  have sz : ∀ n, names.length ≤ n → (mkF names n).cps.size = n + 1000 := fun n hn => by
    have e : mkF names n = padF n := by unfold mkF; rw [List.getD_eq_getElem?_getD, List.getElem?_eq_none hn]; rfl
    rw [e]
    simp [padF]
  have sm : ∀ n, n < names.length → (mkF names n).cps.size < 1000 := fun n hn => by
    rw [gt n hn]
    exact of_decide_eq_true (List.all_eq_true.mp h1 _ (List.getElem_mem hn))
  by_cases ha : a < names.length
  · by_cases hb : b < names.length
    · skip
      rw [gt a ha, gt b hb] at h
      exact (List.getElem_inj h2).mp h
    · have e1 := sm a ha
      have e2 := sz b (by omega)
      rw [h, e2] at e1
      omega
  · have e1 := sz a (by omega)
    by_cases hb : b < names.length
    · have e2 := sm b hb
      rw [← h, e1] at e2
      omega
    · have e2 := sz b (by omega)
      rw [h, e2] at e1
      omega
abbrev mkT (K : PySem.W.Frag) (ex cl fn : List Addr) (names : List Str) : Tab := { K := K, cls := fun n => cl.getD n 0, exc := fun n => ex.getD n 0, fnm := mkF names, fna := fun n => fn.getD n 0 }

/-! ### an exception class from the written part -/
section
variable {P : Program} {w : World} {K : PySem.W.Frag} {mg : Str → Option Value} {base : Heap} {T : Tab} {f cc cda C : Addr} {x qual : Str} {params : Arguments} {scope : Scope} {doc pm ct oc : Value} {an od : Option Addr}
    {osl : Array (Option Value)} {p0 p1 p2 p3 p4 q1 q2 q3 q4 q5 q6 q7 q8 q9 r1 : Pos} {a1 a2 f1 f2 : Str} {pl : Env → Sem Bool} {c n1 n2 : Nat}
theorem ext1 (lk : K.lookup f = some ⟨oc, od, .func (PySem.W.ksFn "__init__" qual params [supCall p0 p1 p2 p3 p4 [.Name a1 q1], .Assign [.Attribute (.Name "self" q2) f1 q3] (.Name a1 q4) q5] scope .none .none doc pm an (.ref cda) ct cc), osl⟩)
    (mgC : mg x = some (.ref C)) (hcd : PySem.W.codeIn K (.ref cda) qual = true) (T1 : SupC K P C cc cda) (TO : OexC K C) (iC : PySem.W.findIn K (.ref C) "__init__" = some (some (.ref f))) (tI : PySem.W.typeIn K (.ref f) = some (.type "function")) (hf1 : PySem.W.findIn K (.ref C) f1 = some none) (hms : mg "super" = none) (hC : T.exc c = C) (hn : T.fnm n1 = f1)
    (hS : nscB ["self", a1, "__class__"] ["self", a1] ["__class__"] scope = true) (har : ∃ ar, (params.posonlyargs ++ params.args).head? = some ar ∧ ar.arg = "self") (hsup : scope.names.lookup ("super" : Str) = some .globalImplicit) (hd1 : (a1 == ("__debug__" : Str)) = false) (hc1 : (a1 == ("__classdict__" : Str)) = false)
    (hb : ∀ us : List Value, us.length = 2 → bindArgs (PySem.W.ksFn "__init__" qual params [supCall p0 p1 p2 p3 p4 [.Name a1 q1], .Assign [.Attribute (.Name "self" q2) f1 q3] (.Name a1 q4) q5] scope .none .none doc pm an (.ref cda) ct cc) ⟨us, []⟩ = pure ((["self", a1] : List Str).zip us))
    (hev : ∀ env, eval (.Call (.Attribute (.Call (.Name "super" p0) [] [] p1) "__init__" p2) [.Name a1 q1] [] p3) env = (do
      let ov ← attributeBase (.Call (.Name "super" p0) [] [] p1) "__init__" env (eval (.Call (.Name "super" p0) [] [] p1) env)
      standAt p2.atName
      let (f, first) ← holding [ov] (getMethod ov "__init__" (pl env))
      callWith p3 f first (backTo p3 (starEach [.Name a1 q1] env)) [])) : ExT P w K mg base T 1 x c [n1] 1 :=
  ⟨C, [f1], ⟨TO, ⟨f, _, _, iC, tI, fn_x1 (pl := pl) lk hcd (nscope_by hS) T1 TO har hsup hms hf1 hd1 hc1 hev, .all hb⟩, mgC⟩, hC, by rw [List.map_cons, hn]; rfl, rfl⟩
theorem ext2 (lk : K.lookup f = some ⟨oc, od, .func (PySem.W.ksFn "__init__" qual params [supCall p0 p1 p2 p3 p4 [.Name a1 q1, .Name a2 q2], .Assign [.Attribute (.Name "self" q3) f1 q4] (.Name a1 q5) q6, .Assign [.Attribute (.Name "self" q7) f2 q8] (.Name a2 q9) r1] scope .none .none doc pm an (.ref cda) ct cc), osl⟩)
    (mgC : mg x = some (.ref C)) (hcd : PySem.W.codeIn K (.ref cda) qual = true) (T1 : SupC K P C cc cda) (TO : OexC K C) (iC : PySem.W.findIn K (.ref C) "__init__" = some (some (.ref f))) (tI : PySem.W.typeIn K (.ref f) = some (.type "function")) (hf1 : PySem.W.findIn K (.ref C) f1 = some none) (hf2 : PySem.W.findIn K (.ref C) f2 = some none) (hms : mg "super" = none) (hC : T.exc c = C) (hn : T.fnm n1 = f1) (hn2 : T.fnm n2 = f2)
    (hS : nscB ["self", a1, a2, "__class__"] ["self", a1, a2] ["__class__"] scope = true) (har : ∃ ar, (params.posonlyargs ++ params.args).head? = some ar ∧ ar.arg = "self") (hsup : scope.names.lookup ("super" : Str) = some .globalImplicit) (hd1 : (a1 == ("__debug__" : Str)) = false) (hc1 : (a1 == ("__classdict__" : Str)) = false) (hd2 : (a2 == ("__debug__" : Str)) = false) (hc2 : (a2 == ("__classdict__" : Str)) = false)
    (hb : ∀ us : List Value, us.length = 3 → bindArgs (PySem.W.ksFn "__init__" qual params [supCall p0 p1 p2 p3 p4 [.Name a1 q1, .Name a2 q2], .Assign [.Attribute (.Name "self" q3) f1 q4] (.Name a1 q5) q6, .Assign [.Attribute (.Name "self" q7) f2 q8] (.Name a2 q9) r1] scope .none .none doc pm an (.ref cda) ct cc) ⟨us, []⟩ = pure ((["self", a1, a2] : List Str).zip us))
    (hev : ∀ env, eval (.Call (.Attribute (.Call (.Name "super" p0) [] [] p1) "__init__" p2) [.Name a1 q1, .Name a2 q2] [] p3) env = (do
      let ov ← attributeBase (.Call (.Name "super" p0) [] [] p1) "__init__" env (eval (.Call (.Name "super" p0) [] [] p1) env)
      standAt p2.atName
      let (f, first) ← holding [ov] (getMethod ov "__init__" (pl env))
      callWith p3 f first (backTo p3 (starEach [.Name a1 q1, .Name a2 q2] env)) [])) : ExT P w K mg base T 1 x c [n2, n1] 2 :=
  ⟨C, [f1, f2], ⟨TO, ⟨f, _, _, iC, tI, fn_x2 (pl := pl) lk hcd (nscope_by hS) T1 TO har hsup hms hf1 hf2 hd1 hc1 hd2 hc2 hev, .all hb⟩, mgC⟩, hC, by rw [List.map_cons, List.map_cons, hn, hn2]; rfl, rfl⟩
end
/-- what an except clause of the class at S says of an exception of the class at C -/
theorem exm_of {K : PySem.W.Frag} {S C : Addr} {b : Bool} (h1 : PySem.W.subIn K (.ref S) (.type "BaseException") = some true) (h2 : PySem.W.isClsIn K S = true) (h3 : PySem.W.typeIn K (.ref S) = some (.type "type")) (h4 : PySem.W.subIn K (.ref C) (.ref S) = some b) :
    PySem.W.exmOne K (.ref C) (.ref S) = some b := by
  have h2' : (PySem.W.clsIn K S).isSome = true := h2
  have k : PySem.W.kitCls K (.ref C) (.ref S) = some b := by
    show (if ((PySem.W.clsIn K S).isSome && PySem.W.typeIn K (.ref S) == some (.type "type")) = true then PySem.W.subIn K (.ref C) (.ref S) else none) = some b
    rw [h2', h3]
    exact h4
  show (if (PySem.W.subIn K (.ref S) (.type "BaseException") == some true) = true then PySem.W.kitCls K (.ref C) (.ref S) else none) = some b
  rw [h1]
  exact k
/-- the law's promise from its def -/
def spTop (K : PySem.W.Frag) : Sp := fun vs H Q _ => ∃ (a : Addr) (ns : List Int), vs = [.ref a] ∧ SqL K H a (ns.map V.int) ∧ ns.length ≤ 63 ∧ ∀ H', Q (.bl true) H'
theorem top_of {K : PySem.W.Frag} {T : Tab} (hT : T.K = K) {F : FV} (h : ∀ ns : List Int, ns.length ≤ 63 → F [.scr (ns.map D.int)] = .ok (.bl true)) : ∀ vs H Q E, spTop K vs H Q E → spV T 1 F vs H Q E := by
  rintro vs H Q E ⟨a, ns, rfl, hs, hl, q⟩
  refine ⟨rfl, fun _ => none, H, [.scr (ns.map D.int)], ⟨L2.Same.refl _, rfl, fun i d e => by simp at e, fun i d e => by simp at e, fun i j d d' a e => by simp at e, fun a o e => (nomatch (show (none : Option HO) = some o from e)), fun i c ns vs e => by simp at e⟩, ?_, ?_⟩
  · refine .one ⟨a, ns.map V.int, rfl, hT ▸ hs, ?_⟩
    clear hs hl q
    induction ns with
    | nil => rfl
    | cons n r ih => exact ⟨_, _, rfl, rfl, ih⟩
  · rw [h ns hl]
    intro G' H' R s v r
    have r' : v = .bl true := r
    subst r'
    exact q H'
theorem FnG.imp {P : Program} {w : World} {K : PySem.W.Frag} {mg : Str → Option Value} {base : Heap} {CX : CXT} {k : Nat} {f : Addr} {fd : FuncData} {ps : List Str} {sp sp' : Sp} (F : FnG P w K mg base CX k f fd ps sp) (h : ∀ vs H Q E, sp' vs H Q E → sp vs H Q E) : FnG P w K mg base CX k f fd ps sp' :=
  ⟨fun vs H Q E q => F.len vs H Q E (h _ _ _ _ q), fun A outer s H args us vs Q E hg hr he hb hv hs => F.run A outer s H args us vs Q E hg hr he hb hv (h _ _ _ _ hs)⟩
end J

set_option Elab.async false
set_option linter.all false
set_option maxRecDepth 100000
namespace J
open PySem PySem.Spec PyProof.Rows L2
/-! ### equations for simp -/
variable {α : Type}
@[simp] theorem e_rVar (i : Nat) (ρ : En) : rVar i ρ = match ρ[i]? with | some (.sh _) => .ok (.s i) ρ | some (.ow _) => .ok (.s i) ρ | _ => .bad := rfl
@[simp] theorem e_rVal (f : EF) (ρ : En) : rVal f ρ = (f ρ).bnd fun d ρ' => .ok (.v d) ρ' := rfl
@[simp] theorem e_eVar (i : Nat) (ρ : En) : eVar i ρ = match ρ[i]? with
  | some (.sh d) => .ok d ρ
  | some (.ow d) => (match d with
    | .lst _ => .ok d (ρ.set i (.sh d))
    | .dct _ _ => .ok d (ρ.set i (.sh d))
    | _ => .bad)
  | _ => .bad := rfl
@[simp] theorem e_eC (d : D) (ρ : En) : eC d ρ = .ok d ρ := rfl
@[simp] theorem e_f2 (g : D → D → Option D) (fa fb : En → Rs Ar) (ρ : En) : f2 g fa fb ρ = (fa ρ).bnd fun a ρ1 => (fb ρ1).bnd fun b ρ2 => r2 g a b ρ2 := rfl
@[simp] theorem e_r2 (g : D → D → Option D) (a b : Ar) (ρ : En) : r2 g a b ρ = match look ρ a, look ρ b with
  | some d, some e => opt (g d e) ρ
  | _, _ => .bad := rfl
@[simp] theorem e_f1 (g : D → Option D) (fa : En → Rs Ar) (ρ : En) : f1 g fa ρ = (fa ρ).bnd fun a ρ1 => match look ρ1 a with
  | some d => opt (g d) ρ1
  | none => .bad := rfl
@[simp] theorem e_look_s (ρ : En) (i : Nat) : look ρ (.s i) = match ρ[i]? with
  | some (.sh d) => some d
  | some (.ow d) => some d
  | _ => none := rfl
@[simp] theorem e_looks_nil (ρ : En) : looks ρ [] = some [] := rfl
@[simp] theorem e_tB (f : EF) (ρ : En) : tB f ρ = (f ρ).bnd fun d ρ' => match d with
  | .bl b => .ok b ρ'
  | _ => .bad := rfl
@[simp] theorem e_tAnd (f g : TF) (ρ : En) : tAndJ f g ρ = (f ρ).bnd fun b ρ' => if b = true then g ρ' else .ok false ρ' := rfl
@[simp] theorem e_tOr (f g : TF) (ρ : En) : tOrJ f g ρ = (f ρ).bnd fun b ρ' => if b = true then .ok true ρ' else g ρ' := rfl
@[simp] theorem e_tNot (f : TF) (ρ : En) : tNotJ f ρ = (f ρ).bnd fun b ρ' => .ok (!b) ρ' := rfl
@[simp] theorem e_eIf (t : TF) (f g : EF) (ρ : En) : eIf t f g ρ = (t ρ).bnd fun b ρ' => if b = true then f ρ' else g ρ' := rfl
@[simp] theorem e_aNil (ρ : En) : aNil ρ = .ok [] ρ := rfl
@[simp] theorem e_aCons (f : En → Rs Ar) (g : AF) (ρ : En) : aCons f g ρ = (f ρ).bnd fun a ρ1 => (g ρ1).bnd fun as ρ2 => .ok (a :: as) ρ2 := rfl
@[simp] theorem e_eSeq (c : List D → D) (f : AF) (ρ : En) : eSeq c f ρ = (f ρ).bnd fun as ρ' => opt ((vals as).map c) ρ' := rfl
@[simp] theorem e_eCallB (g : List D → Option D) (f : AF) (ρ : En) : eCallB g f ρ = (f ρ).bnd fun as ρ' => match looks ρ' as with
  | some ds => opt (g ds) ρ'
  | none => .bad := rfl
@[simp] theorem e_eCall (F : FV) (dd : List D) (g : AF) (ρ : En) : eCall F dd g ρ = (g ρ).bnd fun as ρ' => match vals as with
  | some ds => (F (ds ++ dd)).at ρ'
  | none => .bad := rfl
@[simp] theorem e_sNil (ρ : En) : sNil ρ = .ok .nx ρ := rfl
@[simp] theorem e_sCons (f g : SF) (ρ : En) : sCons f g ρ = (f ρ).sq g := rfl
@[simp] theorem e_sExpr (f : EF) (ρ : En) : sExpr f ρ = (f ρ).bnd fun _ ρ' => .ok .nx ρ' := rfl
@[simp] theorem e_sRet (f : EF) (ρ : En) : sRet f ρ = (f ρ).bnd fun d ρ' => .ok (.rt d) ρ' := rfl
@[simp] theorem e_sIf (t : TF) (f g : SF) (ρ : En) : sIf t f g ρ = (t ρ).bnd fun b ρ' => if b = true then f ρ' else g ρ' := rfl
@[simp] theorem e_sSet (i : Nat) (f : EF) (ρ : En) : sSet i f ρ = (f ρ).bnd fun d ρ' => .ok .nx (ρ'.set i (.sh d)) := rfl
@[simp] theorem e_sSetO (i : Nat) (f : EF) (ρ : En) : sSetO i f ρ = (f ρ).bnd fun d ρ' => .ok .nx (ρ'.set i (.ow d)) := rfl
@[simp] theorem e_bName (i : Nat) (d : D) (ρ : En) : bName i d ρ = some (ρ.set i (.sh d)) := rfl
@[simp] theorem e_bNil (ρ : En) : bNil [] ρ = some ρ := rfl
@[simp] theorem e_bCons (b : BF) (c : BFs) (d : D) (r : List D) (ρ : En) : bCons b c (d :: r) ρ = (b d ρ).bind (c r) := rfl
@[simp] theorem e_bTup (n : Nat) (b : BFs) (ds : List D) (ρ : En) : bTup n b (.tup ds) ρ = if ds.length = n then b ds ρ else none := rfl
@[simp] theorem e_sAsg (f : EF) (b : BF) (ρ : En) : sAsg f b ρ = (f ρ).bnd fun d ρ' => match b d ρ' with
  | some ρ2 => .ok .nx ρ2
  | none => .bad := rfl
@[simp] theorem e_sPar (i j : Nat) (f : AF) (ρ : En) : sPar i j f ρ = (f ρ).bnd fun as ρ' => match vals as with
  | some [x, y] => .ok .nx ((ρ'.set i (.sh x)).set j (.sh y))
  | _ => .bad := rfl
@[simp] theorem e_iSeq (f : EF) (ρ : En) : iSeq f ρ = (f ρ).bnd fun d ρ' => opt (itemsD d) ρ' := rfl
@[simp] theorem e_iRng (g : List D → Option (List D)) (f : AF) (ρ : En) : iRng g f ρ = (f ρ).bnd fun as ρ' => match looks ρ' as with
  | some ds => opt (g ds) ρ'
  | none => .bad := rfl
@[simp] theorem e_sFor (f : LF) (b : BF) (body : SF) (ρ : En) : sFor f b body ρ = (f ρ).bnd fun ds ρ' => forS b body ds ρ' := rfl
@[simp] theorem e_eLc (i : LF) (b : BF) (vs : List Nat) (t : TF) (f : EF) (ρ : En) : eLc i b vs t f ρ = (i ρ).bnd fun ds ρ' => if noOw ρ' vs = true then lcS b vs t f ds [] ρ' else .bad := rfl
@[simp] theorem e_tYes (ρ : En) : tYesJ ρ = .ok true ρ := rfl
@[simp] theorem e_on1 (g : D → Option D) (d : D) : on1 g [d] = g d := rfl
@[simp] theorem e_on2 (g : D → D → Option D) (d e : D) : on2 g [d, e] = g d e := rfl
@[simp] theorem e_eIsT (t : String) (f : En → Rs Ar) (ρ : En) : eIsT t f ρ = (f ρ).bnd fun a ρ1 => match look ρ1 a with
  | some d => opt (isTD t d) ρ1
  | none => .bad := rfl
@[simp] theorem e_eIsTs (ts : List String) (f : En → Rs Ar) (ρ : En) : eIsTs ts f ρ = (f ρ).bnd fun a ρ1 => match look ρ1 a with
  | some d => opt (isTsD ts d) ρ1
  | none => .bad := rfl
@[simp] theorem e_sRaise (c : Nat) (ns : List Nat) (g : AF) (ρ : En) : sRaise c ns g ρ = (g ρ).bnd fun as ρ' => match vals as with
  | some ds => .ex c ns ds.reverse ρ'
  | none => .bad := rfl
@[simp] theorem e_eCut (fa : En → Rs Ar) (fl fh : En → Rs (Option Int)) (ρ : En) : eCut fa fl fh ρ = (fa ρ).bnd fun a ρ1 => (fl ρ1).bnd fun lo ρ2 => (fh ρ2).bnd fun hi ρ3 => match look ρ3 a with
  | some d => opt (cutD lo hi d) ρ3
  | none => .bad := rfl
@[simp] theorem e_sSub (i : Nat) (f : EF) (h : En → Rs Ar) (ρ : En) : sSub i f h ρ = (f ρ).bnd fun d ρ1 => match ownL ρ1 i with
  | some _ => (h ρ1).bnd fun a ρ2 => (match ownL ρ2 i, look ρ2 a with
    | some ds, some (.int k) => (match ixN ds.length k with
      | some j => .ok .nx (ρ2.set i (.ow (.lst (ds.set j d))))
      | none => .bad)
    | _, _ => .bad)
  | none => .bad := rfl
@[simp] theorem e_eCallL (F : FL) (g : AF) (ρ : En) : eCallL F g ρ = (g ρ).bnd fun as ρ' => match as with
  | .s i :: r => (match ρ'[i]?, vals r with
    | some (.ow d0), some ds => (match F d0 ds with
      | some (d, d1) => .ok d (ρ'.set i (.ow d1))
      | none => .bad)
    | _, _ => .bad)
  | _ => .bad := rfl
@[simp] theorem e_eMeth (i : Nat) (g : List D → List D → Option (D × List D)) (f : AF) (ρ : En) : eMeth i g f ρ = match ownL ρ i with
  | some _ => (f ρ).bnd fun as ρ' => (match ownL ρ' i, vals as with
    | some ds, some ys => (match g ds ys with
      | some (d, ds') => .ok d (ρ'.set i (.ow (.lst ds')))
      | none => .bad)
    | _, _ => .bad)
  | none => .bad := rfl
@[simp] theorem e_eLcOwn (i : Nat) (b : BF) (vs : List Nat) (t : TF) (f : EF) (ρ : En) : eLcOwn i b vs t f ρ = match ownL ρ i with
  | some ds => if noOw (ρ.set i .no) vs = true then (lcS b vs t f ds [] (ρ.set i .no)).bnd fun d ρ' => .ok d (ρ'.set i (.ow (.lst ds))) else .bad
  | none => .bad := rfl
@[simp] theorem e_sTryAs (i : Nat) (hm : Nat → Option Bool) (f g : SF) (ρ : En) : sTryAs i hm f g ρ = match f ρ with
  | .ok fl ρ' => .ok fl ρ'
  | .bad => .bad
  | .ex c ns vs ρ' => (match hm c with
    | some true => if noEx ρ' = true then (g (ρ'.set i (.ex c ns vs))).out i else .bad
    | some false => .ex c ns vs ρ'
    | none => .bad) := rfl
@[simp] theorem e_eXf (i n : Nat) (ok : Nat → Bool) (ρ : En) : eXf i n ok ρ = match ρ[i]? with
  | some (.ex c ns vs) => if ok c = true then opt (fget n ns vs) ρ else .bad
  | _ => .bad := rfl
@[simp] theorem e_tReprNe (f g : EF) (ρ : En) : tReprNe f g ρ = (f ρ).bnd fun d ρ1 => if reprOk d = true then (g ρ1).bnd fun e ρ2 => (if reprOk e = true then .ok (!decide ((toPy d).shown = (toPy e).shown)) ρ2 else .bad) else .bad := rfl
@[simp] theorem add_ii (a b : Int) : addD (.int a) (.int b) = some (.int (a + b)) := rfl
@[simp] theorem sub_ii (a b : Int) : subD (.int a) (.int b) = some (.int (a - b)) := rfl
@[simp] theorem mul_ii (a b : Int) : mulD (.int a) (.int b) = if CMul a b then some (.int (a * b)) else none := rfl
@[simp] theorem fdiv_ii (a b : Int) : fdivD (.int a) (.int b) = if CDivN a b then some (.int (a.fdiv b)) else none := rfl
@[simp] theorem mod_ii (a b : Int) : modD (.int a) (.int b) = if b ≠ 0 then some (.int (a.fmod b)) else none := rfl
@[simp] theorem neg_i (a : Int) : negD (.int a) = some (.int (-a)) := rfl
@[simp] theorem icmp_ii (p : Int → Int → Bool) (a b : Int) : icmp p (.int a) (.int b) = some (.bl (p a b)) := rfl
@[simp] theorem ixD_t (ds : List D) (i : Int) : ixD (.tup ds) (.int i) = L2.atI ds i := rfl
@[simp] theorem ixD_l (ds : List D) (i : Int) : ixD (.lst ds) (.int i) = L2.atI ds i := rfl
@[simp] theorem ixD_s (ds : List D) (i : Int) : ixD (.scr ds) (.int i) = L2.atI ds i := rfl
theorem ixN_nat (m n : Nat) : ixN m (n : Int) = if n < m then some n else none := by
  unfold ixN
  rw [if_pos (Int.natCast_nonneg n)]
  by_cases h : n < m
  · rw [if_pos h, if_pos (by omega)]; rfl
  · rw [if_neg h, if_neg (by omega)]
theorem atI_nat' {α : Type} (ds : List α) (n : Nat) : L2.atI ds (n : Int) = ds[n]? := by
  unfold L2.atI
  rw [ixN_nat]
  by_cases h : n < ds.length
  · rw [if_pos h]; rfl
  · rw [if_neg h, List.getElem?_eq_none (by omega)]; rfl
@[simp] theorem atI0 {α : Type} (ds : List α) : L2.atI ds 0 = ds[0]? := atI_nat' ds 0
@[simp] theorem atI1 {α : Type} (ds : List α) : L2.atI ds 1 = ds[1]? := atI_nat' ds 1
@[simp] theorem atI2 {α : Type} (ds : List α) : L2.atI ds 2 = ds[2]? := atI_nat' ds 2
@[simp] theorem atI3 {α : Type} (ds : List α) : L2.atI ds 3 = ds[3]? := atI_nat' ds 3
@[simp] theorem atI4 {α : Type} (ds : List α) : L2.atI ds 4 = ds[4]? := atI_nat' ds 4
@[simp] theorem atI5 {α : Type} (ds : List α) : L2.atI ds 5 = ds[5]? := atI_nat' ds 5
@[simp] theorem atI6 {α : Type} (ds : List α) : L2.atI ds 6 = ds[6]? := atI_nat' ds 6
@[simp] theorem atI7 {α : Type} (ds : List α) : L2.atI ds 7 = ds[7]? := atI_nat' ds 7
@[simp] theorem ixN0 (m : Nat) : ixN m 0 = if 0 < m then some 0 else none := ixN_nat m 0
@[simp] theorem ixN1 (m : Nat) : ixN m 1 = if 1 < m then some 1 else none := ixN_nat m 1
@[simp] theorem ixN2 (m : Nat) : ixN m 2 = if 2 < m then some 2 else none := ixN_nat m 2
@[simp] theorem ixN3 (m : Nat) : ixN m 3 = if 3 < m then some 3 else none := ixN_nat m 3
@[simp] theorem lenD_t (ds : List D) : lenD (.tup ds) = some (.int ds.length) := rfl
@[simp] theorem lenD_l (ds : List D) : lenD (.lst ds) = some (.int ds.length) := rfl
@[simp] theorem lenD_s (ds : List D) : lenD (.scr ds) = some (.int ds.length) := rfl
@[simp] theorem intD_i (i : Int) : intD (.int i) = some (.int i) := rfl
@[simp] theorem absD_i (i : Int) : absD (.int i) = some (.int (if i < 0 then -i else i)) := rfl
@[simp] theorem tupD_l (ds : List D) : tupD (.lst ds) = some (.tup ds) := rfl
@[simp] theorem tupD_t (ds : List D) : tupD (.tup ds) = some (.tup ds) := rfl
@[simp] theorem lstD_l (ds : List D) : lstD (.lst ds) = some (.lst ds) := rfl
@[simp] theorem lstD_t (ds : List D) : lstD (.tup ds) = some (.lst ds) := rfl
@[simp] theorem itemsD_l (ds : List D) : itemsD (.lst ds) = some ds := rfl
@[simp] theorem itemsD_t (ds : List D) : itemsD (.tup ds) = some ds := rfl
@[simp] theorem itemsD_s (ds : List D) : itemsD (.scr ds) = some ds := rfl
@[simp] theorem ownL_some (ρ : En) (i : Nat) : ownL ρ i = match (ρ[i]? : Option Sl) with
  | some (Sl.ow (D.lst ds)) => some ds
  | _ => none := rfl
@[simp] theorem e_eAnd (f g : EF) (ρ : En) : eAndJ f g ρ = (f ρ).bnd fun d ρ' => match d with
  | .bl true => g ρ'
  | .bl false => .ok (.bl false) ρ'
  | _ => .bad := rfl
@[simp] theorem e_eOr (f g : EF) (ρ : En) : eOrJ f g ρ = (f ρ).bnd fun d ρ' => match d with
  | .bl true => .ok (.bl true) ρ'
  | .bl false => g ρ'
  | _ => .bad := rfl
@[simp] theorem e_eNot (f : EF) (ρ : En) : eNotJ f ρ = (f ρ).bnd fun d ρ' => match d with
  | .bl b => .ok (.bl (!b)) ρ'
  | _ => .bad := rfl
@[simp] theorem e_pNo (ρ : En) : pNo ρ = .ok none ρ := rfl
@[simp] theorem e_pSome (f : EF) (ρ : En) : pSome f ρ = (f ρ).bnd fun d ρ' => match d with
  | .int i => .ok (some i) ρ'
  | _ => .bad := rfl
/-! ### a def's result -/
def toV : Rs Fl → Rv
  | .ok .nx _ => .ok .non
  | .ok (.rt d) _ => .ok d
  | .ex c ns vs _ => .ex c ns vs
  | .bad => .bad
@[simp] theorem e_fnV (m : Nat) (body : SF) (ds : List D) : fnV m body ds = toV (body (ds.map .sh ++ List.replicate m .no)) := by
  unfold fnV toV
  cases body (ds.map .sh ++ List.replicate m .no) with
  | ok a ρ => cases a <;> rfl
  | ex _ _ _ _ => rfl
  | bad => rfl
@[simp] theorem toV_nx (ρ : En) : toV (.ok .nx ρ) = .ok .non := rfl
@[simp] theorem toV_rt (d : D) (ρ : En) : toV (.ok (.rt d) ρ) = .ok d := rfl
@[simp] theorem toV_ex (c : Nat) (ns : List Nat) (vs : List D) (ρ : En) : toV (.ex c ns vs ρ) = .ex c ns vs := rfl
@[simp] theorem toV_at (r : Rv) (ρ : En) : toV ((r.at ρ).bnd fun d ρ' => .ok (.rt d) ρ') = r := by cases r <;> rfl
def toL : Rs Fl → Option (D × D)
  | .ok .nx ρ => ow0 ρ .non
  | .ok (.rt d) ρ => ow0 ρ d
  | _ => none
@[simp] theorem e_fnL (m : Nat) (body : SF) (d0 : D) (ds : List D) : fnL m body d0 ds = toL (body (.ow d0 :: (ds.map .sh ++ List.replicate m .no))) := by
  unfold fnL toL
  cases body (.ow d0 :: (ds.map .sh ++ List.replicate m .no)) with
  | ok a ρ => cases a <;> rfl
  | ex _ _ _ _ => rfl
  | bad => rfl
@[simp] theorem toL_rt (d d0 : D) (ρ : En) : toL (.ok (.rt d) (.ow d0 :: ρ)) = some (d, d0) := rfl
@[simp] theorem toL_nx (d0 : D) (ρ : En) : toL (.ok .nx (.ow d0 :: ρ)) = some (.non, d0) := rfl
@[simp] theorem pow_ii (a b : Int) : powD (.int a) (.int b) = if CPow a b then some (.int (a ^ b.toNat)) else none := rfl
@[simp] theorem isT_int_non : isTD "int" .non = some (.bl false) := by rfl
@[simp] theorem isT_int_bl (b : Bool) : isTD "int" (.bl b) = some (.bl true) := by rfl
@[simp] theorem isT_int_int (i : Int) : isTD "int" (.int i) = some (.bl true) := by rfl
@[simp] theorem isT_int_str (s : Str) : isTD "int" (.str s) = some (.bl false) := by rfl
@[simp] theorem isT_int_tup (ds : List D) : isTD "int" (.tup ds) = some (.bl false) := by rfl
@[simp] theorem isT_int_lst (ds : List D) : isTD "int" (.lst ds) = some (.bl false) := by rfl
@[simp] theorem isT_int_dct (ks ds : List D) : isTD "int" (.dct ks ds) = some (.bl false) := by rfl
@[simp] theorem isT_bool_non : isTD "bool" .non = some (.bl false) := by rfl
@[simp] theorem isT_bool_bl (b : Bool) : isTD "bool" (.bl b) = some (.bl true) := by rfl
@[simp] theorem isT_bool_int (i : Int) : isTD "bool" (.int i) = some (.bl false) := by rfl
@[simp] theorem isT_bool_str (s : Str) : isTD "bool" (.str s) = some (.bl false) := by rfl
@[simp] theorem isT_bool_tup (ds : List D) : isTD "bool" (.tup ds) = some (.bl false) := by rfl
@[simp] theorem isT_bool_lst (ds : List D) : isTD "bool" (.lst ds) = some (.bl false) := by rfl
@[simp] theorem isT_bool_dct (ks ds : List D) : isTD "bool" (.dct ks ds) = some (.bl false) := by rfl
@[simp] theorem isT_str_non : isTD "str" .non = some (.bl false) := by rfl
@[simp] theorem isT_str_bl (b : Bool) : isTD "str" (.bl b) = some (.bl false) := by rfl
@[simp] theorem isT_str_int (i : Int) : isTD "str" (.int i) = some (.bl false) := by rfl
@[simp] theorem isT_str_str (s : Str) : isTD "str" (.str s) = some (.bl true) := by rfl
@[simp] theorem isT_str_tup (ds : List D) : isTD "str" (.tup ds) = some (.bl false) := by rfl
@[simp] theorem isT_str_lst (ds : List D) : isTD "str" (.lst ds) = some (.bl false) := by rfl
@[simp] theorem isT_str_dct (ks ds : List D) : isTD "str" (.dct ks ds) = some (.bl false) := by rfl
@[simp] theorem isT_list_non : isTD "list" .non = some (.bl false) := by rfl
@[simp] theorem isT_list_bl (b : Bool) : isTD "list" (.bl b) = some (.bl false) := by rfl
@[simp] theorem isT_list_int (i : Int) : isTD "list" (.int i) = some (.bl false) := by rfl
@[simp] theorem isT_list_str (s : Str) : isTD "list" (.str s) = some (.bl false) := by rfl
@[simp] theorem isT_list_tup (ds : List D) : isTD "list" (.tup ds) = some (.bl false) := by rfl
@[simp] theorem isT_list_lst (ds : List D) : isTD "list" (.lst ds) = some (.bl true) := by rfl
@[simp] theorem isT_list_dct (ks ds : List D) : isTD "list" (.dct ks ds) = some (.bl false) := by rfl
@[simp] theorem isT_tuple_non : isTD "tuple" .non = some (.bl false) := by rfl
@[simp] theorem isT_tuple_bl (b : Bool) : isTD "tuple" (.bl b) = some (.bl false) := by rfl
@[simp] theorem isT_tuple_int (i : Int) : isTD "tuple" (.int i) = some (.bl false) := by rfl
@[simp] theorem isT_tuple_str (s : Str) : isTD "tuple" (.str s) = some (.bl false) := by rfl
@[simp] theorem isT_tuple_tup (ds : List D) : isTD "tuple" (.tup ds) = some (.bl true) := by rfl
@[simp] theorem isT_tuple_lst (ds : List D) : isTD "tuple" (.lst ds) = some (.bl false) := by rfl
@[simp] theorem isT_tuple_dct (ks ds : List D) : isTD "tuple" (.dct ks ds) = some (.bl false) := by rfl
@[simp] theorem isT_dict_non : isTD "dict" .non = some (.bl false) := by rfl
@[simp] theorem isT_dict_bl (b : Bool) : isTD "dict" (.bl b) = some (.bl false) := by rfl
@[simp] theorem isT_dict_int (i : Int) : isTD "dict" (.int i) = some (.bl false) := by rfl
@[simp] theorem isT_dict_str (s : Str) : isTD "dict" (.str s) = some (.bl false) := by rfl
@[simp] theorem isT_dict_tup (ds : List D) : isTD "dict" (.tup ds) = some (.bl false) := by rfl
@[simp] theorem isT_dict_lst (ds : List D) : isTD "dict" (.lst ds) = some (.bl false) := by rfl
@[simp] theorem isT_dict_dct (ks ds : List D) : isTD "dict" (.dct ks ds) = some (.bl true) := by rfl
@[simp] theorem isTs_tuple_list_non : isTsD ["tuple", "list"] .non = some (.bl false) := by rfl
@[simp] theorem isTs_tuple_list_bl (b : Bool) : isTsD ["tuple", "list"] (.bl b) = some (.bl false) := by rfl
@[simp] theorem isTs_tuple_list_int (i : Int) : isTsD ["tuple", "list"] (.int i) = some (.bl false) := by rfl
@[simp] theorem isTs_tuple_list_str (s : Str) : isTsD ["tuple", "list"] (.str s) = some (.bl false) := by rfl
@[simp] theorem isTs_tuple_list_tup (ds : List D) : isTsD ["tuple", "list"] (.tup ds) = some (.bl true) := by rfl
@[simp] theorem isTs_tuple_list_lst (ds : List D) : isTsD ["tuple", "list"] (.lst ds) = some (.bl true) := by rfl
@[simp] theorem isTs_tuple_list_dct (ks ds : List D) : isTsD ["tuple", "list"] (.dct ks ds) = some (.bl false) := by rfl
@[simp] theorem isTs_list_tuple_non : isTsD ["list", "tuple"] .non = some (.bl false) := by rfl
@[simp] theorem isTs_list_tuple_bl (b : Bool) : isTsD ["list", "tuple"] (.bl b) = some (.bl false) := by rfl
@[simp] theorem isTs_list_tuple_int (i : Int) : isTsD ["list", "tuple"] (.int i) = some (.bl false) := by rfl
@[simp] theorem isTs_list_tuple_str (s : Str) : isTsD ["list", "tuple"] (.str s) = some (.bl false) := by rfl
@[simp] theorem isTs_list_tuple_tup (ds : List D) : isTsD ["list", "tuple"] (.tup ds) = some (.bl true) := by rfl
@[simp] theorem isTs_list_tuple_lst (ds : List D) : isTsD ["list", "tuple"] (.lst ds) = some (.bl true) := by rfl
@[simp] theorem isTs_list_tuple_dct (ks ds : List D) : isTsD ["list", "tuple"] (.dct ks ds) = some (.bl false) := by rfl
/-! ### loops, one turn at a time -/
theorem lcS_cons (b : BF) (vs : List Nat) (t : TF) (f : EF) (d : D) (ds acc : List D) (ρ : En) : lcS b vs t f (d :: ds) acc ρ = match b d (wipeE ρ vs) with
    | none => .bad
    | some ρ1 => (t ρ1).calm.bnd fun ok ρ2 => if ok = true then (f ρ2).calm.bnd fun y ρ3 => lcS b vs t f ds (acc ++ [y]) (rst ρ ρ3 vs) else lcS b vs t f ds acc (rst ρ ρ2 vs) := rfl
theorem lcS_step {b : BF} {vs : List Nat} {t : TF} {f : EF} {d : D} {ds acc ys : List D} {ρ ρ' : En} (h : lcS b vs t f [d] [] ρ = .ok (.lst ys) ρ') : lcS b vs t f (d :: ds) acc ρ = lcS b vs t f ds (acc ++ ys) ρ' := by
  rw [lcS_cons] at h ⊢
  cases e : b d (wipeE ρ vs) with
  | none => rw [e] at h; cases h
  | some ρ1 =>
    rw [e] at h
    dsimp only at h ⊢
    cases e2 : t ρ1 with
    | bad => rw [e2] at h; cases h
    | ex _ _ _ _ => rw [e2] at h; cases h
    | ok c ρ2 =>
      rw [e2] at h
      simp only [Rs.calm_ok, Rs.bnd_ok] at h ⊢
      cases c with
      | false =>
        rw [if_neg Bool.false_ne_true] at h ⊢
        cases h
        rw [List.append_nil]
      | true =>
        rw [if_pos rfl] at h ⊢
        cases e3 : f ρ2 with
        | bad => rw [e3] at h; cases h
        | ex _ _ _ _ => rw [e3] at h; cases h
        | ok y ρ3 =>
          rw [e3] at h
          simp only [Rs.calm_ok, Rs.bnd_ok] at h ⊢
          cases h
          rfl
theorem lcS_all {α : Type} {b : BF} {vs : List Nat} {t : TF} {f : EF} {ρ : En} {e : α → D} {q : α → List D} : ∀ {l : List α} {acc : List D}, (∀ a ∈ l, lcS b vs t f [e a] [] ρ = .ok (.lst (q a)) ρ) → lcS b vs t f (l.map e) acc ρ = .ok (.lst (acc ++ l.flatMap q)) ρ
  | [], acc, _ => by simp [lcS]
  | a :: l, acc, h => by
    rw [List.map_cons, lcS_step (h a List.mem_cons_self), lcS_all fun c hc => h c (List.mem_cons_of_mem _ hc)]
    simp
/-- .. where the slots change -/
theorem lcS_run {α σ : Type} {b : BF} {vs : List Nat} {t : TF} {f : EF} {enc : σ → En} {e : α → D} (I : σ → Prop) (P : α → List D → Prop) : ∀ {l : List α} {acc : List D} {s : σ}, I s → (∀ a ∈ l, ∀ s, I s → ∃ (s' : σ) (y : List D), lcS b vs t f [e a] [] (enc s) = .ok (.lst y) (enc s') ∧ I s' ∧ P a y) →
    ∃ (s' : σ) (ys : List (List D)), lcS b vs t f (l.map e) acc (enc s) = .ok (.lst (acc ++ ys.flatten)) (enc s') ∧ I s' ∧ ys.length = l.length ∧ ∀ (i : Nat) (a : α) (y : List D), l[i]? = some a → ys[i]? = some y → P a y
  | [], acc, s, hs, _ => ⟨s, [], by simp [lcS], hs, rfl, fun i a y h => by simp at h⟩
  | a :: l, acc, s, hs, h => by
    obtain ⟨s1, y, e1, h1, p1⟩ := h a List.mem_cons_self s hs
    obtain ⟨s2, ys, e2, h2, l2, p2⟩ := lcS_run (acc := acc ++ y) I P h1 fun c hc => h c (List.mem_cons_of_mem _ hc)
    refine ⟨s2, y :: ys, ?_, h2, by simp [l2], fun i c z hc hz => ?_⟩
    · rw [List.map_cons, lcS_step e1, e2]
      simp
    · cases i with
      | zero => cases hc; cases hz; exact p1
      | succ i => exact p2 i c z hc hz
theorem forS_cons (b : BF) (body : SF) (d : D) (ds : List D) (ρ : En) : forS b body (d :: ds) ρ = match b d ρ with
    | some ρ1 => (body ρ1).sq (forS b body ds)
    | none => .bad := rfl
@[simp] theorem forS_nil (b : BF) (body : SF) (ρ : En) : forS b body [] ρ = .ok .nx ρ := rfl
theorem sq_nil (r : Rs Fl) : (r.sq fun ρ => .ok .nx ρ) = r := by
  cases r with
  | ok a ρ => cases a <;> rfl
  | ex _ _ _ _ => rfl
  | bad => rfl
theorem forS_step (b : BF) (body : SF) (d : D) (ds : List D) (ρ : En) : forS b body (d :: ds) ρ = (forS b body [d] ρ).sq (forS b body ds) := by
  rw [forS_cons, forS_cons]
  cases b d ρ with
  | none => rfl
  | some ρ1 =>
    show _ = ((body ρ1).sq fun ρ => .ok .nx ρ).sq _
    rw [sq_nil]
theorem forS_run {α σ : Type} {b : BF} {body : SF} {enc : σ → En} {e : α → D} (step : σ → α → σ) (I : σ → Prop) : ∀ {l : List α} {s : σ}, I s → (∀ a ∈ l, ∀ s, I s → forS b body [e a] (enc s) = .ok .nx (enc (step s a)) ∧ I (step s a)) →
    forS b body (l.map e) (enc s) = .ok .nx (enc (l.foldl step s)) ∧ I (l.foldl step s)
  | [], s, hs, _ => ⟨rfl, hs⟩
  | a :: l, s, hs, h => by
    obtain ⟨e1, h1⟩ := h a List.mem_cons_self s hs
    obtain ⟨e2, h2⟩ := forS_run step I (l := l) h1 fun c hc => h c (List.mem_cons_of_mem _ hc)
    exact ⟨by rw [List.map_cons, forS_step, e1, Rs.sq_nx, e2]; rfl, h2⟩
/-- .. an invariant by the turn -/
theorem forS_inv {α : Type} {b : BF} {body : SF} {e : α → D} (I : Nat → En → Prop) : ∀ {l : List α} {ρ : En} {k : Nat}, I k ρ → (∀ (i : Nat) (a : α) ρ, l[i]? = some a → I (k + i) ρ → ∃ ρ', forS b body [e a] ρ = .ok .nx ρ' ∧ I (k + i + 1) ρ') →
    ∃ ρ', forS b body (l.map e) ρ = .ok .nx ρ' ∧ I (k + l.length) ρ'
  | [], ρ, k, h, _ => ⟨ρ, rfl, h⟩
  | a :: l, ρ, k, h, hs => by
    obtain ⟨ρ1, e1, h1⟩ := hs 0 a ρ rfl h
    obtain ⟨ρ2, e2, h2⟩ := forS_inv I (l := l) (k := k + 1) h1 fun i c ρ hc hi => by
      have z := hs (i + 1) c ρ (by simpa using hc) (by rw [show k + (i + 1) = k + 1 + i by omega]; exact hi)
      rw [show k + (i + 1) + 1 = k + 1 + i + 1 by omega] at z
      exact z
    exact ⟨ρ2, by rw [List.map_cons, forS_step, e1, Rs.sq_nx, e2], by rw [List.length_cons, show k + (l.length + 1) = k + 1 + l.length by omega]; exact h2⟩
theorem whileS_succ (c : TF) (b : SF) (n : Nat) (ρ : En) : whileS c b (n + 1) ρ = (c ρ).bnd fun t ρ1 => if t = true then (b ρ1).sq (whileS c b n) else .ok .nx ρ1 := rfl
/-- a while, by what becomes smaller -/
theorem whileS_run {σ : Type} {c : TF} {b : SF} {enc : σ → En} (go : σ → Bool) (step : σ → σ) (m : σ → Nat) (I : σ → Prop) (hc : ∀ s, I s → c (enc s) = .ok (go s) (enc s)) (hb : ∀ s, I s → go s = true → b (enc s) = .ok .nx (enc (step s)) ∧ I (step s) ∧ m (step s) < m s) :
    ∀ {n : Nat} {s : σ}, I s → m s < n → ∃ s', whileS c b n (enc s) = .ok .nx (enc s') ∧ I s' ∧ go s' = false ∧ ∃ k, s' = Nat.repeat step k s
  | 0, s, _, h => by omega
  | n + 1, s, hs, h => by
    rw [whileS_succ, hc s hs]
    cases e : go s with
    | false => exact ⟨s, rfl, hs, e, 0, rfl⟩
    | true =>
      obtain ⟨e1, h1, h2⟩ := hb s hs e
      obtain ⟨s', e2, h3, h4, k, hk⟩ := whileS_run go step m I hc hb (n := n) h1 (by omega)
      refine ⟨s', ?_, h3, h4, k + 1, ?_⟩
      · simp only [Rs.bnd_ok, if_true]
        rw [e1, Rs.sq_nx, e2]
      · rw [hk]
        clear hk
        induction k with
        | zero => rfl
        | succ k ih => show step _ = step _; rw [ih]
end J

set_option Elab.async false
set_option linter.all false
set_option maxRecDepth 100000
set_option maxHeartbeats 4000000
namespace J
open PySem PySem.Spec PyProof.Rows L2
/-! ### the draws -/
def b_taken : SF :=
  (sCons (sIf (tB (f2 gtD (rVal (f2 ixD (rVar 0) (rVal (eC (.int 3))))) (rVal (eC (.int 0))))) (sCons (sSet 3 (f2 modD (rVal (eCallB (on1 intD) (aCons (rVal (f2 ixD (rVar 0) (rVal (eC (.int 3))))) aNil))) (rVar 1)))
  (sCons (sSub 0 (f2 fdivD (rVal (f2 ixD (rVar 0) (rVal (eC (.int 3))))) (rVar 1)) (rVal (eC (.int 3))))
  (sRet (eVar 3)))) sNil)
  (sCons (sSub 0 (f2 addD (rVal (f2 ixD (rVar 0) (rVal (eC (.int 1))))) (rVal (eC (.int 1)))) (rVal (eC (.int 1))))
  (sCons (sIf (tB (f2 gtD (rVal (f2 ixD (rVar 0) (rVal (eC (.int 1))))) (rVal (eCallB (on1 lenD) (aCons (rVal (f2 ixD (rVar 0) (rVal (eC (.int 0))))) aNil))))) (sCons (sSub 0 (f2 modD (rVal (eCallB (on1 intD) (aCons (rVal (f2 addD (rVal (f2 mulD (rVal (f2 ixD (rVar 0) (rVal (eC (.int 2))))) (rVal (eC (.int 48271))))) (rVal (eC (.int 11))))) aNil))) (rVal (eC (.int 2147483647)))) (rVal (eC (.int 2))))
  (sRet (f2 modD (rVal (eCallB (on1 intD) (aCons (rVal (f2 fdivD (rVal (f2 ixD (rVar 0) (rVal (eC (.int 2))))) (rVal (eC (.int 7))))) aNil))) (rVar 1)))) sNil)
  (sCons (sSet 2 (f2 ixD (rVal (f2 ixD (rVar 0) (rVal (eC (.int 0))))) (rVal (f2 subD (rVal (f2 ixD (rVar 0) (rVal (eC (.int 1))))) (rVal (eC (.int 1)))))))
  (sCons (sSub 0 (f2 modD (rVal (eCallB (on1 intD) (aCons (rVal (f2 addD (rVal (f2 addD (rVal (f2 mulD (rVal (f2 ixD (rVar 0) (rVal (eC (.int 2))))) (rVal (eC (.int 48271))))) (rVar 2))) (rVal (eC (.int 11))))) aNil))) (rVal (eC (.int 2147483647)))) (rVal (eC (.int 2))))
  (sCons (sIf (tB (f2 geD (rVar 2) (rVal (f2 powD (rVal (eC (.int 10))) (rVal (eC (.int 18))))))) (sSub 0 (f2 fdivD (rVar 2) (rVar 1)) (rVal (eC (.int 3)))) sNil)
  (sRet (f2 modD (rVal (eCallB (on1 intD) (aCons (rVar 2) aNil))) (rVar 1)))))))))
def takenF : FL := fnL 2 b_taken
structure Dr where
  i : Int
  mix : Int
  rest : Int
def Dr.ok (s : Dr) : Prop := 0 ≤ s.i ∧ 0 ≤ s.mix ∧ s.mix ≤ 2147483647 ∧ 0 ≤ s.rest
def encR (ns : List Int) (s : Dr) : D := .lst [.scr (ns.map D.int), .int s.i, .int s.mix, .int s.rest]
theorem taken_ok (ns : List Int) (s : Dr) (h : s.ok) (many : Int) (hm : 1 ≤ many) (hm2 : many < 1073741824) : ∃ v s', takenF (encR ns s) [.int many] = some (.int v, encR ns s') ∧ s'.ok ∧ 0 ≤ v ∧ v < many := by
  obtain ⟨i, mix, rest⟩ := s
  obtain ⟨h1, h2, h3, h4⟩ := h
  dsimp only at h1 h2 h3 h4
  have cm : CMul mix 48271 := .inr ⟨by decide, by decide⟩
  have cd : ∀ a, CDivN a many := fun a => ⟨by omega, by omega⟩
  have cd7 : ∀ a, CDivN a 7 := fun a => ⟨by decide, by decide⟩
  have cp : CPow 10 18 := ⟨by decide, by decide, by decide⟩
  have hne : many ≠ 0 := by omega
  by_cases hr : 0 < rest
  · refine ⟨rest.fmod many, ⟨i, mix, rest.fdiv many⟩, ?_, ⟨h1, h2, h3, ?_⟩, ?_, ?_⟩
    · simp [takenF, b_taken, encR, hr, hne, cd, h1]
    · exact Int.fdiv_nonneg (by omega) (by omega)
    · exact Int.fmod_nonneg (by omega) (by omega)
    · exact Int.fmod_lt_of_pos _ (by omega)
  · have hr' : rest = 0 := by omega
    subst hr'
    have mo : ∀ a : Int, 0 ≤ a.fmod 2147483647 ∧ a.fmod 2147483647 ≤ 2147483647 := fun a => ⟨Int.fmod_nonneg_of_pos _ (by decide), by have := Int.fmod_lt_of_pos a (b := 2147483647) (by decide); omega⟩
    have m7 : ∀ a : Int, 0 ≤ a.fmod many ∧ a.fmod many < many := fun a => ⟨Int.fmod_nonneg_of_pos _ (by omega), Int.fmod_lt_of_pos _ (by omega)⟩
    by_cases hl : (ns.length : Int) < i + 1
    · refine ⟨(((mix * 48271 + 11).fmod 2147483647).fdiv 7).fmod many, ⟨i + 1, (mix * 48271 + 11).fmod 2147483647, 0⟩, ?_, ⟨by show 0 ≤ i + 1; omega, (mo _).1, (mo _).2, Int.le_refl _⟩, m7 _⟩
      simp [takenF, b_taken, encR, hne, cd7, cm, hl]
    · have hi : i.toNat < ns.length := by omega
      have hat : L2.atI (ns.map D.int) (i + 1 - 1) = some (.int ns[i.toNat]) := by
        rw [show i + 1 - 1 = ((i.toNat : Nat) : Int) by omega, atI_nat', List.getElem?_map, List.getElem?_eq_getElem hi]
        rfl
      have hat' : L2.atI (ns.map D.int) i = some (.int ns[i.toNat]) := by
        rw [show i + 1 - 1 = i by omega] at hat; exact hat
      by_cases hc : (1000000000000000000 : Int) ≤ ns[i.toNat]
      · refine ⟨ns[i.toNat].fmod many, ⟨i + 1, (mix * 48271 + ns[i.toNat] + 11).fmod 2147483647, ns[i.toNat].fdiv many⟩, ?_, ⟨by show 0 ≤ i + 1; omega, (mo _).1, (mo _).2, Int.fdiv_nonneg (by omega) (by omega)⟩, m7 _⟩
        simp [takenF, b_taken, encR, hne, cm, cp, cd, hl, hat, hat', hc]
      · refine ⟨ns[i.toNat].fmod many, ⟨i + 1, (mix * 48271 + ns[i.toNat] + 11).fmod 2147483647, 0⟩, ?_, ⟨by show 0 ≤ i + 1; omega, (mo _).1, (mo _).2, Int.le_refl _⟩, m7 _⟩
        simp [takenF, b_taken, encR, hne, cm, cp, hl, hat, hat', hc]
/-! ### two answers alike -/
def b_alike (rec : FV) : SF :=
  (sCons (sIf (tB (eIsTs ["tuple", "list"] (rVar 1))) (sCons (sIf (tOrJ (tNotJ (tB (eIsTs ["tuple", "list"] (rVar 0)))) (tB (f2 neD (rVal (eIsT "list" (rVar 0))) (rVal (eIsT "list" (rVar 1)))))) (sRet (eC (.bl false))) sNil)
  (sCons (sIf (tB (f2 neD (rVal (eCallB (on1 lenD) (aCons (rVar 0) aNil))) (rVal (eCallB (on1 lenD) (aCons (rVar 1) aNil))))) (sRet (eC (.bl false))) sNil)
  (sRet (f2 eqD (rVal (eLc (iRng rng1 (aCons (rVal (eCallB (on1 lenD) (aCons (rVar 1) aNil))) aNil)) (bName 2) [2] (tNotJ (tB (eCall rec [] (aCons (rVal (f2 ixD (rVar 0) (rVar 2))) (aCons (rVal (f2 ixD (rVar 1) (rVar 2))) aNil))))) (eVar 2))) (rVal (eSeq .lst aNil)))))) sNil)
  (sCons (sIf (tOrJ (tB (f2 isNonD (rVar 1) (rVal (eC .non)))) (tB (eIsT "str" (rVar 1)))) (sRet (eAndJ (f2 eqD (rVar 0) (rVar 1)) (f2 eqD (rVal (eIsT "str" (rVar 0))) (rVal (eIsT "str" (rVar 1)))))) sNil)
  (sRet (eAndJ (eIsT "int" (rVar 0)) (eAndJ (f2 eqD (rVal (eIsT "bool" (rVar 0))) (rVal (eIsT "bool" (rVar 1)))) (f2 eqD (rVar 0) (rVar 1)))))))
def alikeF : Nat → FV
  | 0 => fun _ => .bad
  | n + 1 => fnV 1 (b_alike (alikeF n))
/-- plain data, short -/
def sz : Nat → D → Bool
  | 0, _ => false
  | n + 1, d => match d with
    | .tup ds => decide (ds.length ≤ 16777216) && ds.all (sz n)
    | .lst ds => decide (ds.length ≤ 16777216) && ds.all (sz n)
    | .non => true
    | .bl _ => true
    | .int _ => true
    | .str _ => true
    | _ => false
theorem rng1_nat (n : Nat) (h : n ≤ 16777216) : rng1 [.int (n : Int)] = some ((List.range n).map fun i => .int (i : Nat)) := by
  show (if -(2 ^ 62) ≤ (n : Int) ∧ (n : Int) ≤ 16777216 then some (rangeL 0 (n : Int).toNat) else none) = _
  rw [if_pos ⟨by omega, by omega⟩]
  unfold rangeL
  congr 1
  apply List.map_congr_left
  intro a _
  simp
@[simp] theorem looks_one (ρ : En) (d : D) : looks ρ [.v d] = some [d] := rfl
theorem alike_seq {n : Nat} {d : D} {ds : List D} (hd : d = .tup ds ∨ d = .lst ds) (hl : ds.length ≤ 16777216) (ih : ∀ e ∈ ds, alikeF n [e, e] = .ok (.bl true)) : alikeF (n + 1) [d, d] = .ok (.bl true) := by
  have key : ∀ (ρ : En), ρ = [.sh d, .sh d, .no] → lcS (bName 2) [2] (tNotJ (tB (eCall (alikeF n) [] (aCons (rVal (f2 ixD (rVar 0) (rVar 2))) (aCons (rVal (f2 ixD (rVar 1) (rVar 2))) aNil))))) (eVar 2) ((List.range ds.length).map fun i => D.int (i : Nat)) [] ρ = .ok (.lst []) ρ := by
    rintro ρ rfl
    rw [lcS_all (q := fun _ => []) fun a ha => ?_]
    · simp
    · have ha := List.mem_range.mp ha
      have e1 := ih ds[a] (List.getElem_mem ha)
      rcases hd with rfl | rfl <;> simp [lcS, wipeE, rst, atI_nat', ha, e1]
  have r1 := rng1_nat ds.length hl
  rcases hd with rfl | rfl
  · simp [alikeF, b_alike, r1, noOw, key, neD, eqD, okE, okEs, eqv, eqvs]
  · simp [alikeF, b_alike, r1, noOw, key, neD, eqD, okE, okEs, eqv, eqvs]
theorem alike_refl : ∀ (n : Nat) (d : D), sz n d = true → alikeF n [d, d] = .ok (.bl true)
  | 0, d, h => by cases h
  | n + 1, .tup ds, h => by
    have h : (decide (ds.length ≤ 16777216) && ds.all (sz n)) = true := h
    rw [Bool.and_eq_true] at h
    exact alike_seq (.inl rfl) (of_decide_eq_true h.1) fun e he => alike_refl n e (List.all_eq_true.mp h.2 e he)
  | n + 1, .lst ds, h => by
    have h : (decide (ds.length ≤ 16777216) && ds.all (sz n)) = true := h
    rw [Bool.and_eq_true] at h
    exact alike_seq (.inr rfl) (of_decide_eq_true h.1) fun e he => alike_refl n e (List.all_eq_true.mp h.2 e he)
  | n + 1, .non, h => by simp [alikeF, b_alike, isNonD, neD, eqD, okE, eqv]
  | n + 1, .bl b, h => by simp [alikeF, b_alike, isNonD, neD, eqD, okE, eqv]
  | n + 1, .int b, h => by simp [alikeF, b_alike, isNonD, neD, eqD, okE, eqv]
  | n + 1, .str b, h => by simp [alikeF, b_alike, isNonD, neD, eqD, okE, eqv]
  | n + 1, .dct _ _, h => by cases h
  | n + 1, .obj _ _ _, h => by cases h
  | n + 1, .fn _, h => by cases h
  | n + 1, .scr _, h => by cases h
def b_truth : SF :=
  (sRet (eAndJ (eIsT "bool" (rVar 0)) (f2 eqD (rVar 0) (rVar 1))))
def truthF : FV := fnV 0 b_truth
theorem truth_ok (b : Bool) : truthF [.bl b, .bl b] = .ok (.bl true) := by simp [truthF, b_truth, eqD, okE, eqv]
/-! ### lists -/
theorem insD_ok (ds : List D) (y : D) (k : Nat) (hk : k ≤ 1000000) (hl : ds.length ≤ 1000000) : insD ds [.int (k : Int), y] = some (.non, ds.take k ++ [y] ++ ds.drop k) := by
  have h : ds.length < sizeLine ∧ 0 ≤ (k : Int) ∧ (k : Int) < 2 ^ 63 := ⟨by rw [sizeLine_eq]; omega, by omega, by omega⟩
  show (if ds.length < sizeLine ∧ 0 ≤ (k : Int) ∧ (k : Int) < 2 ^ 63 then some (D.non, ds.take (k : Int).toNat ++ [y] ++ ds.drop (k : Int).toNat) else none) = _
  rw [if_pos h]
  rfl
theorem appD_ok (ds : List D) (y : D) (hl : ds.length ≤ 1000000) : appD ds [y] = some (.non, ds ++ [y]) := by
  show (if ds.length < sizeLine then some (D.non, ds ++ [y]) else none) = _
  rw [if_pos (by rw [sizeLine_eq]; omega)]
theorem extD_ok (ds es : List D) (hl : ds.length + es.length ≤ 1000000) : extD ds [.lst es] = some (.non, ds ++ es) := by
  show (if ds.length + es.length ≤ sizeLine then some (D.non, ds ++ es) else none) = _
  rw [if_pos (by rw [sizeLine_eq]; omega)]
theorem add_ll (a b : List D) (hl : a.length + b.length ≤ 1000000) : addD (.lst a) (.lst b) = some (.lst (a ++ b)) := by
  show (if a.length + b.length ≤ sizeLine then some (D.lst (a ++ b)) else none) = _
  rw [if_pos (by rw [sizeLine_eq]; omega)]
theorem add_tt (a b : List D) (hl : a.length + b.length ≤ 1000000) : addD (.tup a) (.tup b) = some (.tup (a ++ b)) := by
  show (if a.length + b.length ≤ sizeLine then some (D.tup (a ++ b)) else none) = _
  rw [if_pos (by rw [sizeLine_eq]; omega)]
theorem cut_from {α : Type} (ds : List α) (k : Nat) : cutL ds (some (k : Int)) none = ds.drop k := by
  unfold cutL
  rw [HT.sIx_nat, HT.sIx_none]
  by_cases h : k ≤ ds.length
  · rw [Nat.min_eq_left h, List.take_of_length_le (by simp)]
  · rw [Nat.min_eq_right (by omega), List.drop_eq_nil_of_le (by omega : ds.length ≤ k), List.drop_eq_nil_of_le (Nat.le_refl _), List.take_nil]
theorem cut_to {α : Type} (ds : List α) (k : Nat) : cutL ds none (some (k : Int)) = ds.take k := by
  unfold cutL
  rw [HT.sIx_nat, HT.sIx_none]
  simp
theorem flat_len {α : Type} (p : α → Bool) (g : α → D) : ∀ l : List α, (l.flatMap fun o => if p o = true then ([] : List D) else [g o]).length = (l.filter fun o => !p o).length
  | [] => rfl
  | a :: l => by
    have ih := flat_len p g l
    cases e : p a <;> simp [List.flatMap_cons, e, ih]
theorem flat_len2 {α : Type} (p : α → Bool) (g : α → D) : ∀ l : List α, (l.flatMap fun o => if p o = true then [g o] else ([] : List D)).length = l.countP p
  | [] => rfl
  | a :: l => by
    have ih := flat_len2 p g l
    cases e : p a <;> simp [List.flatMap_cons, e, ih]
@[simp] theorem cutD_l (lo hi : Option Int) (ds : List D) : cutD lo hi (.lst ds) = some (.lst (cutL ds lo hi)) := rfl
@[simp] theorem cutD_t (lo hi : Option Int) (ds : List D) : cutD lo hi (.tup ds) = some (.tup (cutL ds lo hi)) := rfl
@[simp] theorem cutD_s (lo hi : Option Int) (z : Str) : cutD lo hi (.str z) = some (.str (cutS z lo hi)) := rfl
theorem foldl_minL (r : List Int) : ∀ a : Int, (r.foldl min a ≤ a ∧ ∀ y ∈ r, r.foldl min a ≤ y) ∧ (r.foldl min a = a ∨ r.foldl min a ∈ r) := by
  induction r with
  | nil => intro a; simp
  | cons b r ih =>
    intro a
    obtain ⟨⟨h1, h2⟩, h3⟩ := ih (min a b)
    refine ⟨⟨by simp only [List.foldl_cons]; omega, fun y hy => ?_⟩, ?_⟩
    · rcases List.mem_cons.mp hy with rfl | hy
      · simp only [List.foldl_cons]; omega
      · exact h2 y hy
    · simp only [List.foldl_cons]
      rcases h3 with h3 | h3
      · rw [h3]
        by_cases hab : a ≤ b
        · exact .inl (by omega)
        · exact .inr (by rw [show min a b = b by omega]; exact List.mem_cons_self)
      · exact .inr (List.mem_cons_of_mem _ h3)
theorem maxL_is {l : List Int} {m : Int} (h1 : m ∈ l) (h2 : ∀ x ∈ l, x ≤ m) : maxL l = some m := by
  cases l with
  | nil => cases h1
  | cons a r =>
    obtain ⟨⟨k1, k2⟩, k3⟩ := foldl_max r a
    have up : r.foldl max a ≤ m := by
      rcases k3 with k3 | k3
      · rw [k3]; exact h2 a List.mem_cons_self
      · exact h2 _ (List.mem_cons_of_mem _ k3)
    have dn : m ≤ r.foldl max a := by
      rcases List.mem_cons.mp h1 with rfl | h
      · exact k1
      · exact k2 m h
    show some (r.foldl max a) = some m
    rw [show r.foldl max a = m by omega]
theorem minL_is {l : List Int} {m : Int} (h1 : m ∈ l) (h2 : ∀ x ∈ l, m ≤ x) : minL l = some m := by
  cases l with
  | nil => cases h1
  | cons a r =>
    obtain ⟨⟨k1, k2⟩, k3⟩ := foldl_minL r a
    have up : m ≤ r.foldl min a := by
      rcases k3 with k3 | k3
      · rw [k3]; exact h2 a List.mem_cons_self
      · exact h2 _ (List.mem_cons_of_mem _ k3)
    have dn : r.foldl min a ≤ m := by
      rcases List.mem_cons.mp h1 with rfl | h
      · exact k1
      · exact k2 m h
    show some (r.foldl min a) = some m
    rw [show r.foldl min a = m by omega]
theorem maxD_ints (l : List Int) : maxD (.lst (l.map D.int)) = (maxL l).map D.int := by
  show (intsD (l.map D.int)).bind _ = _
  rw [intsD_map]; rfl
theorem minD_ints (l : List Int) : minD (.lst (l.map D.int)) = (minL l).map D.int := by
  show (intsD (l.map D.int)).bind _ = _
  rw [intsD_map]; rfl
theorem sumD_ints (l : List Int) : sumD (.lst (l.map D.int)) = some (.int l.sum) := by
  show (intsD (l.map D.int)).bind _ = _
  rw [intsD_map]; rfl
theorem flat_filter {α : Type} (p : α → Bool) (g : α → D) : ∀ l : List α, (l.flatMap fun o => if p o = true then [g o] else ([] : List D)) = (l.filter p).map g
  | [] => rfl
  | a :: l => by
    have ih := flat_filter p g l
    cases e : p a <;> simp [List.flatMap_cons, e, ih]
theorem countP_le {α : Type} (p : α → Bool) (l : List α) (k : Nat) (h : ∀ (i : Nat) (x : α), l[i]? = some x → k ≤ i → p x = false) : l.countP p ≤ k := by
  induction l generalizing k with
  | nil => simp
  | cons a l ih =>
    cases k with
    | zero =>
      have z : (a :: l).countP p = 0 := List.countP_eq_zero.mpr fun x hx => by
        obtain ⟨i, hi⟩ := List.mem_iff_getElem?.mp hx
        rw [h i x hi (Nat.zero_le _)]; decide
      omega
    | succ k =>
      have h1 := ih k fun i x hi hk => h (i + 1) x (by simpa using hi) (by omega)
      have h2 : (a :: l).countP p ≤ l.countP p + 1 := by
        rw [List.countP_cons]; split <;> omega
      omega
theorem countP_ge {α : Type} (p : α → Bool) (l : List α) (k : Nat) (h : ∀ (i : Nat) (x : α), l[i]? = some x → i < k → p x = false) : l.countP p ≤ l.length - k := by
  induction l generalizing k with
  | nil => simp
  | cons a l ih =>
    cases k with
    | zero => exact List.countP_le_length
    | succ k =>
      have h1 := ih k fun i x hi hk => h (i + 1) x (by simpa using hi) (by omega)
      have h2 : p a = false := h 0 a rfl (by omega)
      rw [List.countP_cons_of_neg (by rw [h2]; decide), List.length_cons]
      omega
/-- a comprehension whose slots change, one value a turn -/
theorem lcS_run1 {α σ : Type} {b : BF} {vs : List Nat} {t : TF} {f : EF} {enc : σ → En} {e : α → D} (I : σ → Prop) (P : α → D → Prop) : ∀ {l : List α} {acc : List D} {s : σ}, I s → (∀ a ∈ l, ∀ s, I s → ∃ (s' : σ) (y : D), lcS b vs t f [e a] [] (enc s) = .ok (.lst [y]) (enc s') ∧ I s' ∧ P a y) →
    ∃ (s' : σ) (ys : List D), lcS b vs t f (l.map e) acc (enc s) = .ok (.lst (acc ++ ys)) (enc s') ∧ I s' ∧ ys.length = l.length ∧ ∀ y ∈ ys, ∃ a ∈ l, P a y
  | [], acc, s, hs, _ => ⟨s, [], by simp [lcS], hs, rfl, fun y h => by simp at h⟩
  | a :: l, acc, s, hs, h => by
    obtain ⟨s1, y, e1, h1, p1⟩ := h a List.mem_cons_self s hs
    obtain ⟨s2, ys, e2, h2, l2, p2⟩ := lcS_run1 (acc := acc ++ [y]) I P h1 fun c hc => h c (List.mem_cons_of_mem _ hc)
    refine ⟨s2, y :: ys, ?_, h2, by simp [l2], fun z hz => ?_⟩
    · rw [List.map_cons, lcS_step e1, e2]
      simp
    · rcases List.mem_cons.mp hz with rfl | hz
      · exact ⟨a, List.mem_cons_self, p1⟩
      · obtain ⟨c, hc, q⟩ := p2 z hz
        exact ⟨c, List.mem_cons_of_mem _ hc, q⟩
theorem all_map {β : Type} {g : β → D} {Q : β → Prop} : ∀ {ys : List D}, (∀ y ∈ ys, ∃ x, y = g x ∧ Q x) → ∃ xs : List β, ys = xs.map g ∧ ∀ x ∈ xs, Q x
  | [], _ => ⟨[], rfl, fun x h => by simp at h⟩
  | y :: ys, h => by
    obtain ⟨x, rfl, q⟩ := h y List.mem_cons_self
    obtain ⟨xs, rfl, qs⟩ := all_map fun z hz => h z (List.mem_cons_of_mem _ hz)
    refine ⟨x :: xs, rfl, fun z hz => ?_⟩
    rcases List.mem_cons.mp hz with rfl | hz
    · exact q
    · exact qs z hz
end J

set_option Elab.async false
set_option linter.all false
set_option maxRecDepth 100000
set_option maxHeartbeats 4000000
namespace K10
open PySem PySem.Spec PyProof.Rows L2 J
abbrev prog : Program := PySem.Challenge.pw_coachstages_k10_whole_fractions
def top (i : Nat) : Stmt := prog.main.body.getD i (.Pass ⟨0, 0, 0, 0⟩)
def hd_BadNumber : Nat → Option Bool := fun c => if c = 0 then some true else none
def okX : Nat → Bool := fun c => decide (c = 0)
def reduced_s1 : SF :=
  (sPar 2 3 (aCons (rVal (eCallB (on1 absD) (aCons (rVar 0) aNil))) (aCons (rVal (eVar 1)) aNil)))
def reduced_w1 : TF :=
  (tB (f2 gtD (rVar 3) (rVal (eC (.int 0)))))
def reduced_b1 : SF :=
  (sPar 2 3 (aCons (rVal (eVar 3)) (aCons (rVal (f2 modD (rVar 2) (rVar 3))) aNil)))
def reduced_s2 : SF :=
  (whileS reduced_w1 reduced_b1 bigN)
def reduced_s3 : SF :=
  (sRet (eIf (tB (f2 gtD (rVar 2) (rVal (eC (.int 0))))) (eSeq .tup (aCons (rVal (f2 fdivD (rVar 0) (rVar 2))) (aCons (rVal (f2 fdivD (rVar 1) (rVar 2))) aNil))) (eSeq .tup (aCons (rVal (eC (.int 0))) (aCons (rVal (eC (.int 1))) aNil)))))
abbrev s_reduced : Stmt := (top 7)
theorem sc_reduced : FnScope ["top", "bottom", "one", "other"] ["top", "bottom"] (defScope s_reduced) := C8.fnScope_by (by decide +kernel)
def b_reduced : SF :=
  (sCons reduced_s1
  (sCons reduced_s2
  reduced_s3))
def F_reduced : FV := fnV 2 b_reduced
theorem cal_reduced {P : Program} {w : World} {K : PySem.W.Frag} {mg : Str → Option Value} {base : Heap} {T : Tab} (hT : T.K = K) (B : NoB mg) {f : Addr} {fd : FuncData} (F : Fun K "reduced" "reduced" s_reduced f fd) (hm : mg "reduced" = some (.ref f)) : CalV P w K mg base T 1 "reduced" 2 F_reduced :=
  calV F sc_reduced hm (F.binds (ps := ["top", "bottom"]) fun _ _ _ _ _ _ us hl => match us, hl with | [_, _], _ => rfl) fun cdv A outer s H E b => have hu := Room.u b.hr;
  (js_cons (j_par (i := 2) (j := 3) rfl sc_reduced.nd (ja_cons (j_rval (jAbs (ja_cons (j_rvar hT.symm 0) (ja_nil hT.symm)) B)) (ja_cons (j_rval (j_var hT.symm 1)) (ja_nil hT.symm))))
  (js_cons (j_while bigN b.hp (jtGt (j_rvar hT.symm 3) (j_rval (j_int hT.symm))) (js_one (j_par (i := 2) (j := 3) rfl sc_reduced.nd (ja_cons (j_rval (j_var hT.symm 3)) (ja_cons (j_rval (j_mod (j_rvar hT.symm 2) (j_rvar hT.symm 3))) (ja_nil hT.symm))))))
  (js_one (j_ret (j_if (jtGt (j_rvar hT.symm 2) (j_rval (j_int hT.symm))) (j_tup (ja_cons (j_rval (j_fdiv (j_rvar hT.symm 0) (j_rvar hT.symm 2))) (ja_cons (j_rval (j_fdiv (j_rvar hT.symm 1) (j_rvar hT.symm 2))) (ja_nil hT.symm)))) (j_tup (ja_cons (j_rval (j_int hT.symm)) (ja_cons (j_rval (j_int hT.symm)) (ja_nil hT.symm)))))))))
abbrev s_times : Stmt := (top 12)
theorem sc_times : FnScope ["one", "other"] ["one", "other"] (defScope s_times) := C8.fnScope_by (by decide +kernel)
def b_times : SF :=
  (sRet (eCall F_reduced [] (aCons (rVal (f2 mulD (rVal (f2 ixD (rVar 0) (rVal (eC (.int 0))))) (rVal (f2 ixD (rVar 1) (rVal (eC (.int 0))))))) (aCons (rVal (f2 mulD (rVal (f2 ixD (rVar 0) (rVal (eC (.int 1))))) (rVal (f2 ixD (rVar 1) (rVal (eC (.int 1))))))) aNil))))
def F_times : FV := fnV 0 b_times
theorem cal_times {P : Program} {w : World} {K : PySem.W.Frag} {mg : Str → Option Value} {base : Heap} {T : Tab} (hT : T.K = K) (B : NoB mg) {f : Addr} {fd : FuncData} (F : Fun K "times" "times" s_times f fd) (hm : mg "times" = some (.ref f)) (c_reduced : CalV P w K mg base T 1 "reduced" 2 F_reduced) : CalV P w K mg base T 2 "times" 2 F_times :=
  calV F sc_times hm (F.binds (ps := ["one", "other"]) fun _ _ _ _ _ _ us hl => match us, hl with | [_, _], _ => rfl) fun cdv A outer s H E b => have hu := Room.u b.hr;
  (js_one (j_ret (jc c_reduced b.hr b.tk (ja_cons (j_rval (j_mul (j_rval (j_ix (j_rvar hT.symm 0) (j_rval (j_int hT.symm)))) (j_rval (j_ix (j_rvar hT.symm 1) (j_rval (j_int hT.symm)))))) (ja_cons (j_rval (j_mul (j_rval (j_ix (j_rvar hT.symm 0) (j_rval (j_int hT.symm)))) (j_rval (j_ix (j_rvar hT.symm 1) (j_rval (j_int hT.symm)))))) (ja_nil hT.symm))))))
abbrev s_plus : Stmt := (top 10)
theorem sc_plus : FnScope ["one", "other"] ["one", "other"] (defScope s_plus) := C8.fnScope_by (by decide +kernel)
def b_plus : SF :=
  (sRet (eCall F_reduced [] (aCons (rVal (f2 addD (rVal (f2 mulD (rVal (f2 ixD (rVar 0) (rVal (eC (.int 0))))) (rVal (f2 ixD (rVar 1) (rVal (eC (.int 1))))))) (rVal (f2 mulD (rVal (f2 ixD (rVar 1) (rVal (eC (.int 0))))) (rVal (f2 ixD (rVar 0) (rVal (eC (.int 1))))))))) (aCons (rVal (f2 mulD (rVal (f2 ixD (rVar 0) (rVal (eC (.int 1))))) (rVal (f2 ixD (rVar 1) (rVal (eC (.int 1))))))) aNil))))
def F_plus : FV := fnV 0 b_plus
theorem cal_plus {P : Program} {w : World} {K : PySem.W.Frag} {mg : Str → Option Value} {base : Heap} {T : Tab} (hT : T.K = K) (B : NoB mg) {f : Addr} {fd : FuncData} (F : Fun K "plus" "plus" s_plus f fd) (hm : mg "plus" = some (.ref f)) (c_reduced : CalV P w K mg base T 1 "reduced" 2 F_reduced) : CalV P w K mg base T 2 "plus" 2 F_plus :=
  calV F sc_plus hm (F.binds (ps := ["one", "other"]) fun _ _ _ _ _ _ us hl => match us, hl with | [_, _], _ => rfl) fun cdv A outer s H E b => have hu := Room.u b.hr;
  (js_one (j_ret (jc c_reduced b.hr b.tk (ja_cons (j_rval (j_add (j_rval (j_mul (j_rval (j_ix (j_rvar hT.symm 0) (j_rval (j_int hT.symm)))) (j_rval (j_ix (j_rvar hT.symm 1) (j_rval (j_int hT.symm)))))) (j_rval (j_mul (j_rval (j_ix (j_rvar hT.symm 1) (j_rval (j_int hT.symm)))) (j_rval (j_ix (j_rvar hT.symm 0) (j_rval (j_int hT.symm)))))))) (ja_cons (j_rval (j_mul (j_rval (j_ix (j_rvar hT.symm 0) (j_rval (j_int hT.symm)))) (j_rval (j_ix (j_rvar hT.symm 1) (j_rval (j_int hT.symm)))))) (ja_nil hT.symm))))))
abbrev s_is_less : Stmt := (top 14)
theorem sc_is_less : FnScope ["one", "other"] ["one", "other"] (defScope s_is_less) := C8.fnScope_by (by decide +kernel)
def b_is_less : SF :=
  (sRet (f2 ltD (rVal (f2 mulD (rVal (f2 ixD (rVar 0) (rVal (eC (.int 0))))) (rVal (f2 ixD (rVar 1) (rVal (eC (.int 1))))))) (rVal (f2 mulD (rVal (f2 ixD (rVar 1) (rVal (eC (.int 0))))) (rVal (f2 ixD (rVar 0) (rVal (eC (.int 1)))))))))
def F_is_less : FV := fnV 0 b_is_less
theorem cal_is_less {P : Program} {w : World} {K : PySem.W.Frag} {mg : Str → Option Value} {base : Heap} {T : Tab} (hT : T.K = K) (B : NoB mg) {f : Addr} {fd : FuncData} (F : Fun K "is_less" "is_less" s_is_less f fd) (hm : mg "is_less" = some (.ref f)) : CalV P w K mg base T 1 "is_less" 2 F_is_less :=
  calV F sc_is_less hm (F.binds (ps := ["one", "other"]) fun _ _ _ _ _ _ us hl => match us, hl with | [_, _], _ => rfl) fun cdv A outer s H E b => have hu := Room.u b.hr;
  (js_one (j_ret (jeLt (j_rval (j_mul (j_rval (j_ix (j_rvar hT.symm 0) (j_rval (j_int hT.symm)))) (j_rval (j_ix (j_rvar hT.symm 1) (j_rval (j_int hT.symm)))))) (j_rval (j_mul (j_rval (j_ix (j_rvar hT.symm 1) (j_rval (j_int hT.symm)))) (j_rval (j_ix (j_rvar hT.symm 0) (j_rval (j_int hT.symm)))))))))
def median_s1 : SF :=
  (sSetO 1 (eSeq .lst (aCons (rVal (f2 ixD (rVar 0) (rVal (eC (.int 0))))) aNil)))
def median_e1 : EF :=
  (eVar 6)
def median_t1 : TF :=
  (tNotJ (tB (eCall F_is_less [] (aCons (rVal (eVar 2)) (aCons (rVal (eVar 6)) aNil)))))
def median_b1 : SF :=
  (sCons (sSet 3 (eCallB (on1 lenD) (aCons (rVal (eLcOwn 1 (bName 6) [6] median_t1 median_e1)) aNil)))
  (sExpr (eMeth 1 insD (aCons (rVal (eVar 3)) (aCons (rVal (eVar 2)) aNil)))))
def median_s2 : SF :=
  (sFor (iSeq (eCut (rVar 0) (pSome (eC (.int 1))) pNo)) (bName 2)
  median_b1)
def median_s3 : SF :=
  (sPar 4 5 (aCons (rVal (f2 ixD (rVar 1) (rVal (f2 fdivD (rVal (f2 subD (rVal (eCallB (on1 lenD) (aCons (rVar 1) aNil))) (rVal (eC (.int 1))))) (rVal (eC (.int 2))))))) (aCons (rVal (f2 ixD (rVar 1) (rVal (f2 fdivD (rVal (eCallB (on1 lenD) (aCons (rVar 1) aNil))) (rVal (eC (.int 2))))))) aNil)))
def median_s4 : SF :=
  (sRet (eCall F_times [] (aCons (rVal (eCall F_plus [] (aCons (rVal (eVar 4)) (aCons (rVal (eVar 5)) aNil)))) (aCons (rVal (eSeq .tup (aCons (rVal (eC (.int 1))) (aCons (rVal (eC (.int 2))) aNil)))) aNil))))
abbrev s_median : Stmt := (top 19)
theorem sc_median : FnScope ["rows", "row", "one", "place", "first", "second", "other"] ["rows"] (defScope s_median) := C8.fnScope_by (by decide +kernel)
def b_median : SF :=
  (sCons median_s1
  (sCons median_s2
  (sCons median_s3
  median_s4)))
def F_median : FV := fnV 6 b_median
theorem cal_median {P : Program} {w : World} {K : PySem.W.Frag} {mg : Str → Option Value} {base : Heap} {T : Tab} (hT : T.K = K) (B : NoB mg) {f : Addr} {fd : FuncData} (F : Fun K "median" "median" s_median f fd) (hm : mg "median" = some (.ref f)) (c_is_less : CalV P w K mg base T 1 "is_less" 2 F_is_less) (c_times : CalV P w K mg base T 2 "times" 2 F_times) (c_plus : CalV P w K mg base T 2 "plus" 2 F_plus) : CalV P w K mg base T 3 "median" 1 F_median :=
  calV F sc_median hm (F.binds (ps := ["rows"]) fun _ _ _ _ _ _ us hl => match us, hl with | [_], _ => rfl) fun cdv A outer s H E b => have hu := Room.u b.hr;
  (js_cons (j_setO (i := 1) sc_median.nd (j_lstO (ja_cons (j_rval (j_ix (j_rvar hT.symm 0) (j_rval (j_int hT.symm)))) (ja_nil hT.symm))))
  (js_cons (j_for b.hp rfl (ji_seq (j_slice (j_rvar hT.symm 0) (jp_some (j_int hT.symm)) jp_no)) (jg_name (i := 2) sc_median.nd)
  (js_cons (j_set (i := 3) sc_median.nd (jLen (ja_cons (j_rval (j_frz (j_lcOwn (i := 1) (own := [("other", 6)]) hT.symm rfl sc_median.nd rfl (blkOk_by (by kernel_rfl)) (by decide) (fun s H C cl fp => (jg_name (i := 6) sc_median.nd)) (fun s H C cl fp => (jts_one (j_not (j_test (jc c_is_less b.hr takes0 (ja_cons (j_rval (j_var hT.symm 2)) (ja_cons (j_rval (j_var hT.symm 6)) (ja_nil hT.symm)))))))) (fun s H C cl fp => (j_var hT.symm 6))))) (ja_nil hT.symm)) B))
  (js_one (j_expr (j_meth (i := 1) insert_J PySem.F.slot_list_insert PySem.F.type_list_insert (ja_cons (j_rval (j_var hT.symm 3)) (ja_cons (j_rval (j_var hT.symm 2)) (ja_nil hT.symm))) rfl)))))
  (js_cons (j_par (i := 4) (j := 5) rfl sc_median.nd (ja_cons (j_rval (j_ix (j_rvar hT.symm 1) (j_rval (j_fdiv (j_rval (j_sub (j_rval (jLen (ja_cons (j_rvar hT.symm 1) (ja_nil hT.symm)) B)) (j_rval (j_int hT.symm)))) (j_rval (j_int hT.symm)))))) (ja_cons (j_rval (j_ix (j_rvar hT.symm 1) (j_rval (j_fdiv (j_rval (jLen (ja_cons (j_rvar hT.symm 1) (ja_nil hT.symm)) B)) (j_rval (j_int hT.symm)))))) (ja_nil hT.symm))))
  (js_one (j_ret (jc c_times b.hr b.tk (ja_cons (j_rval (jc c_plus b.hr b.tk (ja_cons (j_rval (j_var hT.symm 4)) (ja_cons (j_rval (j_var hT.symm 5)) (ja_nil hT.symm))))) (ja_cons (j_rval (j_tup (ja_cons (j_rval (j_int hT.symm)) (ja_cons (j_rval (j_int hT.symm)) (ja_nil hT.symm))))) (ja_nil hT.symm)))))))))
abbrev s__law_alike : Stmt := (top 22)
theorem sc__law_alike : FnScope ["found", "due", "k"] ["found", "due"] (defScope s__law_alike) := C8.fnScope_by (by decide +kernel)
def b__law_alike (rec : FV) : SF :=
  (sCons (sIf (tB (eIsTs ["tuple", "list"] (rVar 1))) (sCons (sIf (tOrJ (tNotJ (tB (eIsTs ["tuple", "list"] (rVar 0)))) (tB (f2 neD (rVal (eIsT "list" (rVar 0))) (rVal (eIsT "list" (rVar 1)))))) (sRet (eC (.bl false))) sNil)
  (sCons (sIf (tB (f2 neD (rVal (eCallB (on1 lenD) (aCons (rVar 0) aNil))) (rVal (eCallB (on1 lenD) (aCons (rVar 1) aNil))))) (sRet (eC (.bl false))) sNil)
  (sRet (f2 eqD (rVal (eLc (iRng rng1 (aCons (rVal (eCallB (on1 lenD) (aCons (rVar 1) aNil))) aNil)) (bName 2) [2] (tNotJ (tB (eCall rec [] (aCons (rVal (f2 ixD (rVar 0) (rVar 2))) (aCons (rVal (f2 ixD (rVar 1) (rVar 2))) aNil))))) (eVar 2))) (rVal (eSeq .lst aNil)))))) sNil)
  (sCons (sIf (tOrJ (tB (f2 isNonD (rVar 1) (rVal (eC .non)))) (tB (eIsT "str" (rVar 1)))) (sRet (eAndJ (f2 eqD (rVar 0) (rVar 1)) (f2 eqD (rVal (eIsT "str" (rVar 0))) (rVal (eIsT "str" (rVar 1)))))) sNil)
  (sRet (eAndJ (eIsT "int" (rVar 0)) (eAndJ (f2 eqD (rVal (eIsT "bool" (rVar 0))) (rVal (eIsT "bool" (rVar 1)))) (f2 eqD (rVar 0) (rVar 1)))))))
def F__law_alike : Nat → FV
  | 0 => fun _ => .bad
  | n + 1 => fnV 1 (b__law_alike (F__law_alike n))
theorem cal__law_alike {P : Program} {w : World} {K : PySem.W.Frag} {mg : Str → Option Value} {base : Heap} {T : Tab} (hT : T.K = K) (B : NoB mg) {f : Addr} {fd : FuncData} (F : Fun K "_law_alike" "_law_alike" s__law_alike f fd) (hm : mg "_law_alike" = some (.ref f)) : ∀ n : Nat, CalV P w K mg base T (0 + 1 + n) "_law_alike" 2 (F__law_alike n)
  | 0 => calBad F hm (F.binds (ps := ["found", "due"]) fun _ _ _ _ _ _ us hl => match us, hl with | [_, _], _ => rfl)
  | n + 1 => by
    have ih := cal__law_alike (P := P) (w := w) (base := base) hT B F hm n
    exact calV F sc__law_alike hm (F.binds (ps := ["found", "due"]) fun _ _ _ _ _ _ us hl => match us, hl with | [_, _], _ => rfl) fun cdv A outer s H E b => have hu := Room.u b.hr;
  (js_cons (j_ifs (j_test (j_isTs (ts := ["tuple", "list"]) (j_rvar hT.symm 1) (ty2 (ty1 B.tuple (by decide +kernel)) (ty1 B.list (by decide +kernel))) B.isi)) (js_cons (j_ifs (JW.jt (j_or (j_not (j_test (j_isTs (ts := ["tuple", "list"]) (j_rvar hT.symm 0) (ty2 (ty1 B.tuple (by decide +kernel)) (ty1 B.list (by decide +kernel))) B.isi))) (j_or1 (jtNe hu (j_rval (j_isT (j_rvar hT.symm 0) (ty1 B.list (by decide +kernel)) B.isi)) (j_rval (j_isT (j_rvar hT.symm 1) (ty1 B.list (by decide +kernel)) B.isi)))))) (js_one (j_ret (j_bl hT.symm))) (js_nil hT.symm))
  (js_cons (j_ifs (jtNe hu (j_rval (jLen (ja_cons (j_rvar hT.symm 0) (ja_nil hT.symm)) B)) (j_rval (jLen (ja_cons (j_rvar hT.symm 1) (ja_nil hT.symm)) B))) (js_one (j_ret (j_bl hT.symm))) (js_nil hT.symm))
  (js_one (j_ret (jeEq hu (j_rval (j_frz (j_lcO (own := [("k", 2)]) rfl sc__law_alike.nd (ji_range1 (ja_cons (j_rval (jLen (ja_cons (j_rvar hT.symm 1) (ja_nil hT.symm)) B)) (ja_nil hT.symm)) B.range) (blkOk_by (by kernel_rfl)) (by decide) (fun s H C cl fp => (jg_name (i := 2) sc__law_alike.nd)) (fun s H C cl fp => (jts_one (j_not (j_test (jc ih b.hr takes0 (ja_cons (j_rval (j_ix (j_rvar hT.symm 0) (j_rvar hT.symm 2))) (ja_cons (j_rval (j_ix (j_rvar hT.symm 1) (j_rvar hT.symm 2))) (ja_nil hT.symm))) (Nat.le_refl _)))))) (fun s H C cl fp => (j_var hT.symm 2))))) (j_rval (j_frz (j_lstO (ja_nil hT.symm))))))))) (js_nil hT.symm))
  (js_cons (j_ifs (JW.jt (j_or (jtIsN (j_rvar hT.symm 1) (j_rval (j_non hT.symm))) (j_or1 (j_test (j_isT (j_rvar hT.symm 1) (ty1 B.str (by decide +kernel)) B.isi))))) (js_one (j_ret (j_vand (jeEq hu (j_rvar hT.symm 0) (j_rvar hT.symm 1)) (j_one (jeEq hu (j_rval (j_isT (j_rvar hT.symm 0) (ty1 B.str (by decide +kernel)) B.isi)) (j_rval (j_isT (j_rvar hT.symm 1) (ty1 B.str (by decide +kernel)) B.isi))))))) (js_nil hT.symm))
  (js_one (j_ret (j_vand (j_isT (j_rvar hT.symm 0) (ty1 B.int (by decide +kernel)) B.isi) (j_vand (jeEq hu (j_rval (j_isT (j_rvar hT.symm 0) (ty1 B.bool (by decide +kernel)) B.isi)) (j_rval (j_isT (j_rvar hT.symm 1) (ty1 B.bool (by decide +kernel)) B.isi))) (j_one (jeEq hu (j_rvar hT.symm 0) (j_rvar hT.symm 1)))))))))
abbrev s_is_row : Stmt := (top 5)
theorem sc_is_row : FnScope ["value"] ["value"] (defScope s_is_row) := C8.fnScope_by (by decide +kernel)
def b_is_row : SF :=
  (sRet (eIsTs ["list", "tuple"] (rVar 0)))
def F_is_row : FV := fnV 0 b_is_row
theorem cal_is_row {P : Program} {w : World} {K : PySem.W.Frag} {mg : Str → Option Value} {base : Heap} {T : Tab} (hT : T.K = K) (B : NoB mg) {f : Addr} {fd : FuncData} (F : Fun K "is_row" "is_row" s_is_row f fd) (hm : mg "is_row" = some (.ref f)) : CalV P w K mg base T 1 "is_row" 1 F_is_row :=
  calV F sc_is_row hm (F.binds (ps := ["value"]) fun _ _ _ _ _ _ us hl => match us, hl with | [_], _ => rfl) fun cdv A outer s H E b => have hu := Room.u b.hr;
  (js_one (j_ret (j_isTs (ts := ["list", "tuple"]) (j_rvar hT.symm 0) (ty2 (ty1 B.list (by decide +kernel)) (ty1 B.tuple (by decide +kernel))) B.isi)))
abbrev s_is_whole : Stmt := (top 4)
theorem sc_is_whole : FnScope ["value"] ["value"] (defScope s_is_whole) := C8.fnScope_by (by decide +kernel)
def b_is_whole : SF :=
  (sRet (eAndJ (eIsT "int" (rVar 0)) (eNotJ (eIsT "bool" (rVar 0)))))
def F_is_whole : FV := fnV 0 b_is_whole
theorem cal_is_whole {P : Program} {w : World} {K : PySem.W.Frag} {mg : Str → Option Value} {base : Heap} {T : Tab} (hT : T.K = K) (B : NoB mg) {f : Addr} {fd : FuncData} (F : Fun K "is_whole" "is_whole" s_is_whole f fd) (hm : mg "is_whole" = some (.ref f)) : CalV P w K mg base T 1 "is_whole" 1 F_is_whole :=
  calV F sc_is_whole hm (F.binds (ps := ["value"]) fun _ _ _ _ _ _ us hl => match us, hl with | [_], _ => rfl) fun cdv A outer s H E b => have hu := Room.u b.hr;
  (js_one (j_ret (j_vand (j_isT (j_rvar hT.symm 0) (ty1 B.int (by decide +kernel)) B.isi) (j_one (j_vnot (j_isT (j_rvar hT.symm 0) (ty1 B.bool (by decide +kernel)) B.isi))))))
abbrev s_is_fraction : Stmt := (top 8)
theorem sc_is_fraction : FnScope ["value"] ["value"] (defScope s_is_fraction) := C8.fnScope_by (by decide +kernel)
def b_is_fraction : SF :=
  (sCons (sIf (tOrJ (tNotJ (tB (eCall F_is_row [] (aCons (rVal (eVar 0)) aNil)))) (tOrJ (tB (f2 neD (rVal (eCallB (on1 lenD) (aCons (rVar 0) aNil))) (rVal (eC (.int 2))))) (tOrJ (tNotJ (tB (eCall F_is_whole [] (aCons (rVal (f2 ixD (rVar 0) (rVal (eC (.int 0))))) aNil)))) (tOrJ (tNotJ (tB (eCall F_is_whole [] (aCons (rVal (f2 ixD (rVar 0) (rVal (eC (.int 1))))) aNil)))) (tB (f2 ltD (rVal (f2 ixD (rVar 0) (rVal (eC (.int 1))))) (rVal (eC (.int 1))))))))) (sRet (eC (.bl false))) sNil)
  (sRet (f2 eqD (rVal (eCall F_reduced [] (aCons (rVal (f2 ixD (rVar 0) (rVal (eC (.int 0))))) (aCons (rVal (f2 ixD (rVar 0) (rVal (eC (.int 1))))) aNil)))) (rVal (eSeq .tup (aCons (rVal (f2 ixD (rVar 0) (rVal (eC (.int 0))))) (aCons (rVal (f2 ixD (rVar 0) (rVal (eC (.int 1))))) aNil)))))))
def F_is_fraction : FV := fnV 0 b_is_fraction
theorem cal_is_fraction {P : Program} {w : World} {K : PySem.W.Frag} {mg : Str → Option Value} {base : Heap} {T : Tab} (hT : T.K = K) (B : NoB mg) {f : Addr} {fd : FuncData} (F : Fun K "is_fraction" "is_fraction" s_is_fraction f fd) (hm : mg "is_fraction" = some (.ref f)) (c_is_row : CalV P w K mg base T 1 "is_row" 1 F_is_row) (c_is_whole : CalV P w K mg base T 1 "is_whole" 1 F_is_whole) (c_reduced : CalV P w K mg base T 1 "reduced" 2 F_reduced) : CalV P w K mg base T 2 "is_fraction" 1 F_is_fraction :=
  calV F sc_is_fraction hm (F.binds (ps := ["value"]) fun _ _ _ _ _ _ us hl => match us, hl with | [_], _ => rfl) fun cdv A outer s H E b => have hu := Room.u b.hr;
  (js_cons (j_ifs (JW.jt (j_or (j_not (j_test (jc c_is_row b.hr b.tk (ja_cons (j_rval (j_var hT.symm 0)) (ja_nil hT.symm))))) (j_or (jtNe hu (j_rval (jLen (ja_cons (j_rvar hT.symm 0) (ja_nil hT.symm)) B)) (j_rval (j_int hT.symm))) (j_or (j_not (j_test (jc c_is_whole b.hr b.tk (ja_cons (j_rval (j_ix (j_rvar hT.symm 0) (j_rval (j_int hT.symm)))) (ja_nil hT.symm))))) (j_or (j_not (j_test (jc c_is_whole b.hr b.tk (ja_cons (j_rval (j_ix (j_rvar hT.symm 0) (j_rval (j_int hT.symm)))) (ja_nil hT.symm))))) (j_or1 (jtLt (j_rval (j_ix (j_rvar hT.symm 0) (j_rval (j_int hT.symm)))) (j_rval (j_int hT.symm))))))))) (js_one (j_ret (j_bl hT.symm))) (js_nil hT.symm))
  (js_one (j_ret (jeEq hu (j_rval (jc c_reduced b.hr b.tk (ja_cons (j_rval (j_ix (j_rvar hT.symm 0) (j_rval (j_int hT.symm)))) (ja_cons (j_rval (j_ix (j_rvar hT.symm 0) (j_rval (j_int hT.symm)))) (ja_nil hT.symm))))) (j_rval (j_tup (ja_cons (j_rval (j_ix (j_rvar hT.symm 0) (j_rval (j_int hT.symm)))) (ja_cons (j_rval (j_ix (j_rvar hT.symm 0) (j_rval (j_int hT.symm)))) (ja_nil hT.symm)))))))))
def _law_low_s1 : SF :=
  (sSet 2 (eC (.int 1)))
def _law_low_b1 : SF :=
  (sIf (tAndJ (tB (f2 eqD (rVal (f2 modD (rVal (eCallB (on1 intD) (aCons (rVar 0) aNil))) (rVar 3))) (rVal (eC (.int 0))))) (tB (f2 eqD (rVal (f2 modD (rVal (eCallB (on1 intD) (aCons (rVar 1) aNil))) (rVar 3))) (rVal (eC (.int 0)))))) (sSet 2 (eVar 3)) sNil)
def _law_low_s2 : SF :=
  (sFor (iRng rng2 (aCons (rVal (eC (.int 1))) (aCons (rVal (f2 addD (rVal (eCallB (on1 intD) (aCons (rVar 1) aNil))) (rVal (eC (.int 1))))) aNil))) (bName 3)
  _law_low_b1)
def _law_low_s3 : SF :=
  (sRet (eSeq .tup (aCons (rVal (f2 fdivD (rVal (eCallB (on1 intD) (aCons (rVar 0) aNil))) (rVar 2))) (aCons (rVal (f2 fdivD (rVal (eCallB (on1 intD) (aCons (rVar 1) aNil))) (rVar 2))) aNil))))
abbrev s__law_low : Stmt := (top 24)
theorem sc__law_low : FnScope ["top", "bottom", "here", "one"] ["top", "bottom"] (defScope s__law_low) := C8.fnScope_by (by decide +kernel)
def b__law_low : SF :=
  (sCons _law_low_s1
  (sCons _law_low_s2
  _law_low_s3))
def F__law_low : FV := fnV 2 b__law_low
theorem cal__law_low {P : Program} {w : World} {K : PySem.W.Frag} {mg : Str → Option Value} {base : Heap} {T : Tab} (hT : T.K = K) (B : NoB mg) {f : Addr} {fd : FuncData} (F : Fun K "_law_low" "_law_low" s__law_low f fd) (hm : mg "_law_low" = some (.ref f)) : CalV P w K mg base T 1 "_law_low" 2 F__law_low :=
  calV F sc__law_low hm (F.binds (ps := ["top", "bottom"]) fun _ _ _ _ _ _ us hl => match us, hl with | [_, _], _ => rfl) fun cdv A outer s H E b => have hu := Room.u b.hr;
  (js_cons (j_set (i := 2) sc__law_low.nd (j_int hT.symm))
  (js_cons (j_for b.hp rfl (ji_range2 (ja_cons (j_rval (j_int hT.symm)) (ja_cons (j_rval (j_add (j_rval (jInt (ja_cons (j_rvar hT.symm 1) (ja_nil hT.symm)) B)) (j_rval (j_int hT.symm)))) (ja_nil hT.symm))) B.range) (jg_name (i := 3) sc__law_low.nd)
  (js_one (j_ifs (JW.jt (j_and (jtEq hu (j_rval (j_mod (j_rval (jInt (ja_cons (j_rvar hT.symm 0) (ja_nil hT.symm)) B)) (j_rvar hT.symm 3))) (j_rval (j_int hT.symm))) (j_and1 (jtEq hu (j_rval (j_mod (j_rval (jInt (ja_cons (j_rvar hT.symm 1) (ja_nil hT.symm)) B)) (j_rvar hT.symm 3))) (j_rval (j_int hT.symm)))))) (js_one (j_set (i := 2) sc__law_low.nd (j_var hT.symm 3))) (js_nil hT.symm))))
  (js_one (j_ret (j_tup (ja_cons (j_rval (j_fdiv (j_rval (jInt (ja_cons (j_rvar hT.symm 0) (ja_nil hT.symm)) B)) (j_rvar hT.symm 2))) (ja_cons (j_rval (j_fdiv (j_rval (jInt (ja_cons (j_rvar hT.symm 1) (ja_nil hT.symm)) B)) (j_rvar hT.symm 2))) (ja_nil hT.symm))))))))
abbrev s_want_fraction : Stmt := (top 9)
theorem sc_want_fraction : FnScope ["value"] ["value"] (defScope s_want_fraction) := C8.fnScope_by (by decide +kernel)
def b_want_fraction : SF :=
  (sCons (sIf (tNotJ (tB (eCall F_is_fraction [] (aCons (rVal (eVar 0)) aNil)))) (sRaise 0 [0] (aCons (rVal (eVar 0)) aNil)) sNil)
  (sRet (eCallB (on1 tupD) (aCons (rVar 0) aNil))))
def F_want_fraction : FV := fnV 0 b_want_fraction
theorem cal_want_fraction {P : Program} {w : World} {K : PySem.W.Frag} {mg : Str → Option Value} {base : Heap} {T : Tab} (hT : T.K = K) (B : NoB mg) {f : Addr} {fd : FuncData} (F : Fun K "want_fraction" "want_fraction" s_want_fraction f fd) (hm : mg "want_fraction" = some (.ref f)) (c_is_fraction : CalV P w K mg base T 2 "is_fraction" 1 F_is_fraction) (x_BadNumber : ExT P w K mg base T 1 "BadNumber" 0 [0] 1) : CalV P w K mg base T 3 "want_fraction" 1 F_want_fraction :=
  calV F sc_want_fraction hm (F.binds (ps := ["value"]) fun _ _ _ _ _ _ us hl => match us, hl with | [_], _ => rfl) fun cdv A outer s H E b => have hu := Room.u b.hr;
  (js_cons (j_ifs (j_not (j_test (jc c_is_fraction b.hr b.tk (ja_cons (j_rval (j_var hT.symm 0)) (ja_nil hT.symm))))) (js_one (jRaise x_BadNumber b.hr b.tk (ja_cons (j_rval (j_var hT.symm 0)) (ja_nil hT.symm)))) (js_nil hT.symm))
  (js_one (j_ret (jTuple (ja_cons (j_rvar hT.symm 0) (ja_nil hT.symm)) B))))
def _law_taken_s1 : SF :=
  (sIf (tB (f2 gtD (rVal (f2 ixD (rVar 0) (rVal (eC (.int 3))))) (rVal (eC (.int 0))))) (sCons (sSet 3 (f2 modD (rVal (eCallB (on1 intD) (aCons (rVal (f2 ixD (rVar 0) (rVal (eC (.int 3))))) aNil))) (rVar 1)))
  (sCons (sSub 0 (f2 fdivD (rVal (f2 ixD (rVar 0) (rVal (eC (.int 3))))) (rVar 1)) (rVal (eC (.int 3))))
  (sRet (eVar 3)))) sNil)
def _law_taken_s2 : SF :=
  (sSub 0 (f2 addD (rVal (f2 ixD (rVar 0) (rVal (eC (.int 1))))) (rVal (eC (.int 1)))) (rVal (eC (.int 1))))
def _law_taken_s3 : SF :=
  (sIf (tB (f2 gtD (rVal (f2 ixD (rVar 0) (rVal (eC (.int 1))))) (rVal (eCallB (on1 lenD) (aCons (rVal (f2 ixD (rVar 0) (rVal (eC (.int 0))))) aNil))))) (sCons (sSub 0 (f2 modD (rVal (eCallB (on1 intD) (aCons (rVal (f2 addD (rVal (f2 mulD (rVal (f2 ixD (rVar 0) (rVal (eC (.int 2))))) (rVal (eC (.int 48271))))) (rVal (eC (.int 11))))) aNil))) (rVal (eC (.int 2147483647)))) (rVal (eC (.int 2))))
  (sRet (f2 modD (rVal (eCallB (on1 intD) (aCons (rVal (f2 fdivD (rVal (f2 ixD (rVar 0) (rVal (eC (.int 2))))) (rVal (eC (.int 7))))) aNil))) (rVar 1)))) sNil)
def _law_taken_s4 : SF :=
  (sSet 2 (f2 ixD (rVal (f2 ixD (rVar 0) (rVal (eC (.int 0))))) (rVal (f2 subD (rVal (f2 ixD (rVar 0) (rVal (eC (.int 1))))) (rVal (eC (.int 1)))))))
def _law_taken_s5 : SF :=
  (sSub 0 (f2 modD (rVal (eCallB (on1 intD) (aCons (rVal (f2 addD (rVal (f2 addD (rVal (f2 mulD (rVal (f2 ixD (rVar 0) (rVal (eC (.int 2))))) (rVal (eC (.int 48271))))) (rVar 2))) (rVal (eC (.int 11))))) aNil))) (rVal (eC (.int 2147483647)))) (rVal (eC (.int 2))))
def _law_taken_s6 : SF :=
  (sIf (tB (f2 geD (rVar 2) (rVal (f2 powD (rVal (eC (.int 10))) (rVal (eC (.int 18))))))) (sSub 0 (f2 fdivD (rVar 2) (rVar 1)) (rVal (eC (.int 3)))) sNil)
def _law_taken_s7 : SF :=
  (sRet (f2 modD (rVal (eCallB (on1 intD) (aCons (rVar 2) aNil))) (rVar 1)))
abbrev s__law_taken : Stmt := (top 21)
theorem sc__law_taken : FnScope ["row", "many", "cell", "found"] ["row", "many"] (defScope s__law_taken) := C8.fnScope_by (by decide +kernel)
def b__law_taken : SF :=
  (sCons _law_taken_s1
  (sCons _law_taken_s2
  (sCons _law_taken_s3
  (sCons _law_taken_s4
  (sCons _law_taken_s5
  (sCons _law_taken_s6
  _law_taken_s7))))))
def F__law_taken : FL := fnL 2 b__law_taken
theorem cal__law_taken {P : Program} {w : World} {K : PySem.W.Frag} {mg : Str → Option Value} {base : Heap} {T : Tab} (hT : T.K = K) (B : NoB mg) {f : Addr} {fd : FuncData} (F : Fun K "_law_taken" "_law_taken" s__law_taken f fd) (hm : mg "_law_taken" = some (.ref f)) : CalL P w K mg base T 1 "_law_taken" 1 F__law_taken :=
  calL F sc__law_taken hm (F.binds (ps := ["row", "many"]) fun _ _ _ _ _ _ us hl => match us, hl with | [_, _], _ => rfl) fun cdv A outer s H E b => have hu := Room.u b.hr;
  (js_cons (j_ifs (jtGt (j_rval (j_ix (j_rvar hT.symm 0) (j_rval (j_int hT.symm)))) (j_rval (j_int hT.symm))) (js_cons (j_set (i := 3) sc__law_taken.nd (j_mod (j_rval (jInt (ja_cons (j_rval (j_ix (j_rvar hT.symm 0) (j_rval (j_int hT.symm)))) (ja_nil hT.symm)) B)) (j_rvar hT.symm 1)))
  (js_cons (j_sub_store (i := 0) (j_fdiv (j_rval (j_ix (j_rvar hT.symm 0) (j_rval (j_int hT.symm)))) (j_rvar hT.symm 1)) (j_rval (j_int hT.symm)) rfl)
  (js_one (j_ret (j_var hT.symm 3))))) (js_nil hT.symm))
  (js_cons (j_sub_store (i := 0) (j_add (j_rval (j_ix (j_rvar hT.symm 0) (j_rval (j_int hT.symm)))) (j_rval (j_int hT.symm))) (j_rval (j_int hT.symm)) rfl)
  (js_cons (j_ifs (jtGt (j_rval (j_ix (j_rvar hT.symm 0) (j_rval (j_int hT.symm)))) (j_rval (jLen (ja_cons (j_rval (j_ix (j_rvar hT.symm 0) (j_rval (j_int hT.symm)))) (ja_nil hT.symm)) B))) (js_cons (j_sub_store (i := 0) (j_mod (j_rval (jInt (ja_cons (j_rval (j_add (j_rval (j_mul (j_rval (j_ix (j_rvar hT.symm 0) (j_rval (j_int hT.symm)))) (j_rval (j_int hT.symm)))) (j_rval (j_int hT.symm)))) (ja_nil hT.symm)) B)) (j_rval (j_int hT.symm))) (j_rval (j_int hT.symm)) rfl)
  (js_one (j_ret (j_mod (j_rval (jInt (ja_cons (j_rval (j_fdiv (j_rval (j_ix (j_rvar hT.symm 0) (j_rval (j_int hT.symm)))) (j_rval (j_int hT.symm)))) (ja_nil hT.symm)) B)) (j_rvar hT.symm 1))))) (js_nil hT.symm))
  (js_cons (j_set (i := 2) sc__law_taken.nd (j_ix (j_rval (j_ix (j_rvar hT.symm 0) (j_rval (j_int hT.symm)))) (j_rval (j_sub (j_rval (j_ix (j_rvar hT.symm 0) (j_rval (j_int hT.symm)))) (j_rval (j_int hT.symm))))))
  (js_cons (j_sub_store (i := 0) (j_mod (j_rval (jInt (ja_cons (j_rval (j_add (j_rval (j_add (j_rval (j_mul (j_rval (j_ix (j_rvar hT.symm 0) (j_rval (j_int hT.symm)))) (j_rval (j_int hT.symm)))) (j_rvar hT.symm 2))) (j_rval (j_int hT.symm)))) (ja_nil hT.symm)) B)) (j_rval (j_int hT.symm))) (j_rval (j_int hT.symm)) rfl)
  (js_cons (j_ifs (jtGe (j_rvar hT.symm 2) (j_rval (j_pow (j_rval (j_int hT.symm)) (j_rval (j_int hT.symm))))) (js_one (j_sub_store (i := 0) (j_fdiv (j_rvar hT.symm 2) (j_rvar hT.symm 1)) (j_rval (j_int hT.symm)) rfl)) (js_nil hT.symm))
  (js_one (j_ret (j_mod (j_rval (jInt (ja_cons (j_rvar hT.symm 2) (ja_nil hT.symm)) B)) (j_rvar hT.symm 1))))))))))
abbrev s__law_truth : Stmt := (top 23)
theorem sc__law_truth : FnScope ["found", "due"] ["found", "due"] (defScope s__law_truth) := C8.fnScope_by (by decide +kernel)
def b__law_truth : SF :=
  (sRet (eAndJ (eIsT "bool" (rVar 0)) (f2 eqD (rVar 0) (rVar 1))))
def F__law_truth : FV := fnV 0 b__law_truth
theorem cal__law_truth {P : Program} {w : World} {K : PySem.W.Frag} {mg : Str → Option Value} {base : Heap} {T : Tab} (hT : T.K = K) (B : NoB mg) {f : Addr} {fd : FuncData} (F : Fun K "_law_truth" "_law_truth" s__law_truth f fd) (hm : mg "_law_truth" = some (.ref f)) : CalV P w K mg base T 1 "_law_truth" 2 F__law_truth :=
  calV F sc__law_truth hm (F.binds (ps := ["found", "due"]) fun _ _ _ _ _ _ us hl => match us, hl with | [_, _], _ => rfl) fun cdv A outer s H E b => have hu := Room.u b.hr;
  (js_one (j_ret (j_vand (j_isT (j_rvar hT.symm 0) (ty1 B.bool (by decide +kernel)) B.isi) (j_one (jeEq hu (j_rvar hT.symm 0) (j_rvar hT.symm 1))))))
def total_s1 : SF :=
  (sSet 1 (eSeq .tup (aCons (rVal (eC (.int 0))) (aCons (rVal (eC (.int 1))) aNil))))
def total_b1 : SF :=
  (sSet 1 (eCall F_plus [] (aCons (rVal (eVar 1)) (aCons (rVal (eVar 2)) aNil))))
def total_s2 : SF :=
  (sFor (iSeq (eVar 0)) (bName 2)
  total_b1)
def total_s3 : SF :=
  (sRet (eVar 1))
abbrev s_total : Stmt := (top 18)
theorem sc_total : FnScope ["rows", "found", "one"] ["rows"] (defScope s_total) := C8.fnScope_by (by decide +kernel)
def b_total : SF :=
  (sCons total_s1
  (sCons total_s2
  total_s3))
def F_total : FV := fnV 2 b_total
theorem cal_total {P : Program} {w : World} {K : PySem.W.Frag} {mg : Str → Option Value} {base : Heap} {T : Tab} (hT : T.K = K) (B : NoB mg) {f : Addr} {fd : FuncData} (F : Fun K "total" "total" s_total f fd) (hm : mg "total" = some (.ref f)) (c_plus : CalV P w K mg base T 2 "plus" 2 F_plus) : CalV P w K mg base T 3 "total" 1 F_total :=
  calV F sc_total hm (F.binds (ps := ["rows"]) fun _ _ _ _ _ _ us hl => match us, hl with | [_], _ => rfl) fun cdv A outer s H E b => have hu := Room.u b.hr;
  (js_cons (j_set (i := 1) sc_total.nd (j_tup (ja_cons (j_rval (j_int hT.symm)) (ja_cons (j_rval (j_int hT.symm)) (ja_nil hT.symm)))))
  (js_cons (j_for b.hp rfl (ji_seq (j_var hT.symm 0)) (jg_name (i := 2) sc_total.nd)
  (js_one (j_set (i := 1) sc_total.nd (jc c_plus b.hr b.tk (ja_cons (j_rval (j_var hT.symm 1)) (ja_cons (j_rval (j_var hT.symm 2)) (ja_nil hT.symm)))))))
  (js_one (j_ret (j_var hT.symm 1)))))
abbrev s_minus : Stmt := (top 11)
theorem sc_minus : FnScope ["one", "other"] ["one", "other"] (defScope s_minus) := C8.fnScope_by (by decide +kernel)
def b_minus : SF :=
  (sRet (eCall F_reduced [] (aCons (rVal (f2 subD (rVal (f2 mulD (rVal (f2 ixD (rVar 0) (rVal (eC (.int 0))))) (rVal (f2 ixD (rVar 1) (rVal (eC (.int 1))))))) (rVal (f2 mulD (rVal (f2 ixD (rVar 1) (rVal (eC (.int 0))))) (rVal (f2 ixD (rVar 0) (rVal (eC (.int 1))))))))) (aCons (rVal (f2 mulD (rVal (f2 ixD (rVar 0) (rVal (eC (.int 1))))) (rVal (f2 ixD (rVar 1) (rVal (eC (.int 1))))))) aNil))))
def F_minus : FV := fnV 0 b_minus
theorem cal_minus {P : Program} {w : World} {K : PySem.W.Frag} {mg : Str → Option Value} {base : Heap} {T : Tab} (hT : T.K = K) (B : NoB mg) {f : Addr} {fd : FuncData} (F : Fun K "minus" "minus" s_minus f fd) (hm : mg "minus" = some (.ref f)) (c_reduced : CalV P w K mg base T 1 "reduced" 2 F_reduced) : CalV P w K mg base T 2 "minus" 2 F_minus :=
  calV F sc_minus hm (F.binds (ps := ["one", "other"]) fun _ _ _ _ _ _ us hl => match us, hl with | [_, _], _ => rfl) fun cdv A outer s H E b => have hu := Room.u b.hr;
  (js_one (j_ret (jc c_reduced b.hr b.tk (ja_cons (j_rval (j_sub (j_rval (j_mul (j_rval (j_ix (j_rvar hT.symm 0) (j_rval (j_int hT.symm)))) (j_rval (j_ix (j_rvar hT.symm 1) (j_rval (j_int hT.symm)))))) (j_rval (j_mul (j_rval (j_ix (j_rvar hT.symm 1) (j_rval (j_int hT.symm)))) (j_rval (j_ix (j_rvar hT.symm 0) (j_rval (j_int hT.symm)))))))) (ja_cons (j_rval (j_mul (j_rval (j_ix (j_rvar hT.symm 0) (j_rval (j_int hT.symm)))) (j_rval (j_ix (j_rvar hT.symm 1) (j_rval (j_int hT.symm)))))) (ja_nil hT.symm))))))
abbrev s_floor_of : Stmt := (top 15)
theorem sc_floor_of : FnScope ["one"] ["one"] (defScope s_floor_of) := C8.fnScope_by (by decide +kernel)
def b_floor_of : SF :=
  (sRet (f2 fdivD (rVal (f2 ixD (rVar 0) (rVal (eC (.int 0))))) (rVal (f2 ixD (rVar 0) (rVal (eC (.int 1)))))))
def F_floor_of : FV := fnV 0 b_floor_of
theorem cal_floor_of {P : Program} {w : World} {K : PySem.W.Frag} {mg : Str → Option Value} {base : Heap} {T : Tab} (hT : T.K = K) (B : NoB mg) {f : Addr} {fd : FuncData} (F : Fun K "floor_of" "floor_of" s_floor_of f fd) (hm : mg "floor_of" = some (.ref f)) : CalV P w K mg base T 1 "floor_of" 1 F_floor_of :=
  calV F sc_floor_of hm (F.binds (ps := ["one"]) fun _ _ _ _ _ _ us hl => match us, hl with | [_], _ => rfl) fun cdv A outer s H E b => have hu := Room.u b.hr;
  (js_one (j_ret (j_fdiv (j_rval (j_ix (j_rvar hT.symm 0) (j_rval (j_int hT.symm)))) (j_rval (j_ix (j_rvar hT.symm 0) (j_rval (j_int hT.symm)))))))
abbrev s_ceiling_of : Stmt := (top 16)
theorem sc_ceiling_of : FnScope ["one"] ["one"] (defScope s_ceiling_of) := C8.fnScope_by (by decide +kernel)
def b_ceiling_of : SF :=
  (sRet (f1 negD (rVal (f2 fdivD (rVal (f1 negD (rVal (f2 ixD (rVar 0) (rVal (eC (.int 0))))))) (rVal (f2 ixD (rVar 0) (rVal (eC (.int 1)))))))))
def F_ceiling_of : FV := fnV 0 b_ceiling_of
theorem cal_ceiling_of {P : Program} {w : World} {K : PySem.W.Frag} {mg : Str → Option Value} {base : Heap} {T : Tab} (hT : T.K = K) (B : NoB mg) {f : Addr} {fd : FuncData} (F : Fun K "ceiling_of" "ceiling_of" s_ceiling_of f fd) (hm : mg "ceiling_of" = some (.ref f)) : CalV P w K mg base T 1 "ceiling_of" 1 F_ceiling_of :=
  calV F sc_ceiling_of hm (F.binds (ps := ["one"]) fun _ _ _ _ _ _ us hl => match us, hl with | [_], _ => rfl) fun cdv A outer s H E b => have hu := Room.u b.hr;
  (js_one (j_ret (j_neg (j_rval (j_fdiv (j_rval (j_neg (j_rval (j_ix (j_rvar hT.symm 0) (j_rval (j_int hT.symm)))))) (j_rval (j_ix (j_rvar hT.symm 0) (j_rval (j_int hT.symm)))))))))
abbrev s_nearest : Stmt := (top 17)
theorem sc_nearest : FnScope ["one"] ["one"] (defScope s_nearest) := C8.fnScope_by (by decide +kernel)
def b_nearest : SF :=
  (sRet (f2 fdivD (rVal (f2 addD (rVal (f2 mulD (rVal (eC (.int 2))) (rVal (f2 ixD (rVar 0) (rVal (eC (.int 0))))))) (rVal (f2 ixD (rVar 0) (rVal (eC (.int 1))))))) (rVal (f2 mulD (rVal (eC (.int 2))) (rVal (f2 ixD (rVar 0) (rVal (eC (.int 1)))))))))
def F_nearest : FV := fnV 0 b_nearest
theorem cal_nearest {P : Program} {w : World} {K : PySem.W.Frag} {mg : Str → Option Value} {base : Heap} {T : Tab} (hT : T.K = K) (B : NoB mg) {f : Addr} {fd : FuncData} (F : Fun K "nearest" "nearest" s_nearest f fd) (hm : mg "nearest" = some (.ref f)) : CalV P w K mg base T 1 "nearest" 1 F_nearest :=
  calV F sc_nearest hm (F.binds (ps := ["one"]) fun _ _ _ _ _ _ us hl => match us, hl with | [_], _ => rfl) fun cdv A outer s H E b => have hu := Room.u b.hr;
  (js_one (j_ret (j_fdiv (j_rval (j_add (j_rval (j_mul (j_rval (j_int hT.symm)) (j_rval (j_ix (j_rvar hT.symm 0) (j_rval (j_int hT.symm)))))) (j_rval (j_ix (j_rvar hT.symm 0) (j_rval (j_int hT.symm)))))) (j_rval (j_mul (j_rval (j_int hT.symm)) (j_rval (j_ix (j_rvar hT.symm 0) (j_rval (j_int hT.symm)))))))))
abbrev s_over : Stmt := (top 13)
theorem sc_over : FnScope ["one", "other"] ["one", "other"] (defScope s_over) := C8.fnScope_by (by decide +kernel)
def b_over : SF :=
  (sRet (eCall F_reduced [] (aCons (rVal (f2 mulD (rVal (f2 ixD (rVar 0) (rVal (eC (.int 0))))) (rVal (f2 ixD (rVar 1) (rVal (eC (.int 1))))))) (aCons (rVal (f2 mulD (rVal (f2 ixD (rVar 0) (rVal (eC (.int 1))))) (rVal (f2 ixD (rVar 1) (rVal (eC (.int 0))))))) aNil))))
def F_over : FV := fnV 0 b_over
theorem cal_over {P : Program} {w : World} {K : PySem.W.Frag} {mg : Str → Option Value} {base : Heap} {T : Tab} (hT : T.K = K) (B : NoB mg) {f : Addr} {fd : FuncData} (F : Fun K "over" "over" s_over f fd) (hm : mg "over" = some (.ref f)) (c_reduced : CalV P w K mg base T 1 "reduced" 2 F_reduced) : CalV P w K mg base T 2 "over" 2 F_over :=
  calV F sc_over hm (F.binds (ps := ["one", "other"]) fun _ _ _ _ _ _ us hl => match us, hl with | [_, _], _ => rfl) fun cdv A outer s H E b => have hu := Room.u b.hr;
  (js_one (j_ret (jc c_reduced b.hr b.tk (ja_cons (j_rval (j_mul (j_rval (j_ix (j_rvar hT.symm 0) (j_rval (j_int hT.symm)))) (j_rval (j_ix (j_rvar hT.symm 1) (j_rval (j_int hT.symm)))))) (ja_cons (j_rval (j_mul (j_rval (j_ix (j_rvar hT.symm 0) (j_rval (j_int hT.symm)))) (j_rval (j_ix (j_rvar hT.symm 1) (j_rval (j_int hT.symm)))))) (ja_nil hT.symm))))))
def law_s1 : SF :=
  (sSetO 1 (eSeq .lst (aCons (rVal (eVar 0)) (aCons (rVal (eC (.int 0))) (aCons (rVal (eC (.int 61))) (aCons (rVal (eC (.int 0))) aNil))))))
def law_s2 : SF :=
  (sAsg (eSeq .tup (aCons (rVal (f2 subD (rVal (eCallL F__law_taken (aCons (rVar 1) (aCons (rVal (eC (.int 121))) aNil)))) (rVal (eC (.int 60))))) (aCons (rVal (f2 addD (rVal (eC (.int 1))) (rVal (eCallL F__law_taken (aCons (rVar 1) (aCons (rVal (eC (.int 60))) aNil)))))) (aCons (rVal (f2 subD (rVal (eCallL F__law_taken (aCons (rVar 1) (aCons (rVal (eC (.int 121))) aNil)))) (rVal (eC (.int 60))))) (aCons (rVal (f2 addD (rVal (eC (.int 1))) (rVal (eCallL F__law_taken (aCons (rVar 1) (aCons (rVal (eC (.int 60))) aNil)))))) aNil))))) (bTup 4 (bCons (bName 9) (bCons (bName 10) (bCons (bName 11) (bCons (bName 12) bNil))))))
def law_s3 : SF :=
  (sPar 13 14 (aCons (rVal (eCall F_reduced [] (aCons (rVal (eVar 9)) (aCons (rVal (eVar 10)) aNil)))) (aCons (rVal (eCall F_reduced [] (aCons (rVal (eVar 11)) (aCons (rVal (eVar 12)) aNil)))) aNil)))
def law_s4 : SF :=
  (sIf (tOrJ (tNotJ (tB (eCall (F__law_alike 6) [] (aCons (rVal (eSeq .tup (aCons (rVal (eVar 13)) (aCons (rVal (eVar 14)) aNil)))) (aCons (rVal (eSeq .tup (aCons (rVal (eCall F__law_low [] (aCons (rVal (eVar 9)) (aCons (rVal (eVar 10)) aNil)))) (aCons (rVal (eCall F__law_low [] (aCons (rVal (eVar 11)) (aCons (rVal (eVar 12)) aNil)))) aNil)))) aNil))))) (tOrJ (tNotJ (tB (eCall F_is_fraction [] (aCons (rVal (eVar 13)) aNil)))) (tB (eCall F_is_fraction [] (aCons (rVal (eSeq .tup (aCons (rVal (f2 mulD (rVar 9) (rVal (eC (.int 2))))) (aCons (rVal (f2 mulD (rVar 10) (rVal (eC (.int 2))))) aNil)))) aNil))))) (sRet (eC (.bl false))) sNil)
def law_s5 : SF :=
  (sIf (tNotJ (tB (eCall (F__law_alike 6) [] (aCons (rVal (eSeq .tup (aCons (rVal (eCall F_plus [] (aCons (rVal (eVar 13)) (aCons (rVal (eVar 14)) aNil)))) (aCons (rVal (eCall F_minus [] (aCons (rVal (eVar 13)) (aCons (rVal (eVar 14)) aNil)))) (aCons (rVal (eCall F_times [] (aCons (rVal (eVar 13)) (aCons (rVal (eVar 14)) aNil)))) aNil))))) (aCons (rVal (eSeq .tup (aCons (rVal (eCall F__law_low [] (aCons (rVal (f2 addD (rVal (f2 mulD (rVar 9) (rVar 12))) (rVal (f2 mulD (rVar 11) (rVar 10))))) (aCons (rVal (f2 mulD (rVar 10) (rVar 12))) aNil)))) (aCons (rVal (eCall F__law_low [] (aCons (rVal (f2 subD (rVal (f2 mulD (rVar 9) (rVar 12))) (rVal (f2 mulD (rVar 11) (rVar 10))))) (aCons (rVal (f2 mulD (rVar 10) (rVar 12))) aNil)))) (aCons (rVal (eCall F__law_low [] (aCons (rVal (f2 mulD (rVar 9) (rVar 11))) (aCons (rVal (f2 mulD (rVar 10) (rVar 12))) aNil)))) aNil))))) aNil))))) (sRet (eC (.bl false))) sNil)
def law_s6 : SF :=
  (sIf (tOrJ (tAndJ (tB (f2 gtD (rVar 11) (rVal (eC (.int 0))))) (tNotJ (tB (eCall (F__law_alike 6) [] (aCons (rVal (eCall F_over [] (aCons (rVal (eVar 13)) (aCons (rVal (eVar 14)) aNil)))) (aCons (rVal (eCall F__law_low [] (aCons (rVal (f2 mulD (rVar 9) (rVar 12))) (aCons (rVal (f2 mulD (rVar 10) (rVar 11))) aNil)))) aNil)))))) (tNotJ (tB (eCall F__law_truth [] (aCons (rVal (eCall F_is_less [] (aCons (rVal (eVar 13)) (aCons (rVal (eVar 14)) aNil)))) (aCons (rVal (f2 ltD (rVal (f2 mulD (rVar 9) (rVar 12))) (rVal (f2 mulD (rVar 11) (rVar 10))))) aNil)))))) (sRet (eC (.bl false))) sNil)
def law_s7 : SF :=
  (sSet 2 (f2 rgD (rVal (f1 negD (rVal (eC (.int 61))))) (rVal (eC (.int 62)))))
def law_e1 : EF :=
  (eVar 18)
def law_t1 : TF :=
  (tB (f2 leD (rVal (f2 mulD (rVar 18) (rVar 10))) (rVar 9)))
def law_e2 : EF :=
  (eVar 18)
def law_t2 : TF :=
  (tB (f2 geD (rVal (f2 mulD (rVar 18) (rVar 10))) (rVar 9)))
def law_s8 : SF :=
  (sPar 6 7 (aCons (rVal (eCallB (on1 maxD) (aCons (rVal (eLc (iSeq (eVar 2)) (bName 18) [18] law_t1 law_e1)) aNil))) (aCons (rVal (eCallB (on1 minD) (aCons (rVal (eLc (iSeq (eVar 2)) (bName 18) [18] law_t2 law_e2)) aNil))) aNil)))
def law_e3 : EF :=
  (eVar 18)
def law_t3 : TF :=
  (tB (f2 leD (rVal (f2 mulD (rVal (f2 subD (rVal (f2 mulD (rVal (eC (.int 2))) (rVar 18))) (rVal (eC (.int 1))))) (rVar 10))) (rVal (f2 mulD (rVal (eC (.int 2))) (rVar 9)))))
def law_s9 : SF :=
  (sSet 3 (eCallB (on1 maxD) (aCons (rVal (eLc (iSeq (eVar 2)) (bName 18) [18] law_t3 law_e3)) aNil)))
def law_s10 : SF :=
  (sIf (tNotJ (tB (eCall (F__law_alike 6) [] (aCons (rVal (eSeq .tup (aCons (rVal (eCall F_floor_of [] (aCons (rVal (eVar 13)) aNil))) (aCons (rVal (eCall F_ceiling_of [] (aCons (rVal (eVar 13)) aNil))) (aCons (rVal (eCall F_nearest [] (aCons (rVal (eVar 13)) aNil))) aNil))))) (aCons (rVal (eSeq .tup (aCons (rVal (eVar 6)) (aCons (rVal (eVar 7)) (aCons (rVal (eVar 3)) aNil))))) aNil))))) (sRet (eC (.bl false))) sNil)
def law_e4 : EF :=
  (eCall F_reduced [] (aCons (rVal (f2 subD (rVal (eCallL F__law_taken (aCons (rVar 1) (aCons (rVal (eC (.int 40))) aNil)))) (rVal (eC (.int 20))))) (aCons (rVal (f2 addD (rVal (eC (.int 1))) (rVal (eCallL F__law_taken (aCons (rVar 1) (aCons (rVal (eC (.int 6))) aNil)))))) aNil)))
def law_s11 : SF :=
  (sPar 15 16 (aCons (rVal (f2 addD (rVal (eSeq .lst (aCons (rVal (eVar 13)) (aCons (rVal (eVar 14)) aNil)))) (rVal (eLc (iRng rng1 (aCons (rVal (eCallL F__law_taken (aCons (rVar 1) (aCons (rVal (eC (.int 5))) aNil)))) aNil)) (bName 18) [18] tYesJ law_e4)))) (aCons (rVal (eSeq .tup (aCons (rVal (eC (.int 0))) (aCons (rVal (eC (.int 1))) aNil)))) aNil)))
def law_b1 : SF :=
  (sSet 16 (eCall F__law_low [] (aCons (rVal (f2 addD (rVal (f2 mulD (rVal (f2 ixD (rVar 16) (rVal (eC (.int 0))))) (rVal (f2 ixD (rVar 4) (rVal (eC (.int 1))))))) (rVal (f2 mulD (rVal (f2 ixD (rVar 4) (rVal (eC (.int 0))))) (rVal (f2 ixD (rVar 16) (rVal (eC (.int 1))))))))) (aCons (rVal (f2 mulD (rVal (f2 ixD (rVar 16) (rVal (eC (.int 1))))) (rVal (f2 ixD (rVar 4) (rVal (eC (.int 1))))))) aNil))))
def law_s12 : SF :=
  (sFor (iSeq (eVar 15)) (bName 4)
  law_b1)
def law_s13 : SF :=
  (sIf (tNotJ (tB (eCall (F__law_alike 6) [] (aCons (rVal (eCall F_total [] (aCons (rVal (eVar 15)) aNil))) (aCons (rVal (eVar 16)) aNil))))) (sRet (eC (.bl false))) sNil)
def law_s14 : SF :=
  (sSet 5 (eCall F_median [] (aCons (rVal (eVar 15)) aNil)))
def law_e5 : EF :=
  (eC (.int 1))
def law_t4 : TF :=
  (tB (f2 ltD (rVal (f2 mulD (rVal (f2 ixD (rVar 4) (rVal (eC (.int 0))))) (rVal (f2 ixD (rVar 5) (rVal (eC (.int 1))))))) (rVal (f2 mulD (rVal (f2 ixD (rVar 5) (rVal (eC (.int 0))))) (rVal (f2 ixD (rVar 4) (rVal (eC (.int 1)))))))))
def law_s15 : SF :=
  (sSet 6 (eCallB (on1 lenD) (aCons (rVal (eLc (iSeq (eVar 15)) (bName 4) [4] law_t4 law_e5)) aNil)))
def law_e6 : EF :=
  (eC (.int 1))
def law_t5 : TF :=
  (tB (f2 gtD (rVal (f2 mulD (rVal (f2 ixD (rVar 4) (rVal (eC (.int 0))))) (rVal (f2 ixD (rVar 5) (rVal (eC (.int 1))))))) (rVal (f2 mulD (rVal (f2 ixD (rVar 5) (rVal (eC (.int 0))))) (rVal (f2 ixD (rVar 4) (rVal (eC (.int 1)))))))))
def law_s16 : SF :=
  (sSet 7 (eCallB (on1 lenD) (aCons (rVal (eLc (iSeq (eVar 15)) (bName 4) [4] law_t5 law_e6)) aNil)))
def law_s17 : SF :=
  (sIf (tOrJ (tB (f2 gtD (rVal (f2 mulD (rVal (eC (.int 2))) (rVar 6))) (rVal (eCallB (on1 lenD) (aCons (rVar 15) aNil))))) (tOrJ (tB (f2 gtD (rVal (f2 mulD (rVal (eC (.int 2))) (rVar 7))) (rVal (eCallB (on1 lenD) (aCons (rVar 15) aNil))))) (tAndJ (tB (f2 eqD (rVal (f2 modD (rVal (eCallB (on1 lenD) (aCons (rVar 15) aNil))) (rVal (eC (.int 2))))) (rVal (eC (.int 1))))) (tB (f2 (inD true) (rVar 5) (rVar 15)))))) (sRet (eC (.bl false))) sNil)
def law_y1 : SF :=
  (sCons (sExpr (eCall F_want_fraction [] (aCons (rVal (eVar 8)) aNil)))
  (sRet (eC (.bl false))))
def law_x1 : SF :=
  (sIf (tReprNe (eXf 17 0 okX) (eVar 8)) (sRet (eC (.bl false))) sNil)
def law_b2 : SF :=
  (sCons (sIf (tB (eCall F_is_fraction [] (aCons (rVal (eVar 8)) aNil))) (sRet (eC (.bl false))) sNil)
  (sTryAs 17 hd_BadNumber law_y1 law_x1))
def law_s18 : SF :=
  (sFor (iSeq (eSeq .lst (aCons (rVal (eC .non)) (aCons (rVal (eSeq .tup (aCons (rVal (eC (.int 1))) (aCons (rVal (eC (.int 0))) aNil)))) (aCons (rVal (eSeq .tup (aCons (rVal (eC (.int 2))) (aCons (rVal (eC (.int 4))) aNil)))) (aCons (rVal (eSeq .tup (aCons (rVal (eC (.int 0))) (aCons (rVal (eC (.int 2))) aNil)))) (aCons (rVal (eSeq .tup (aCons (rVal (eC (.int 1))) aNil))) (aCons (rVal (eSeq .tup (aCons (rVal (eC (.bl true))) (aCons (rVal (eC (.int 2))) aNil)))) (aCons (rVal (eSeq .lst (aCons (rVal (eC (.int 1))) (aCons (rVal (eC (.int 2))) (aCons (rVal (eC (.int 3))) aNil))))) (aCons (rVal (eC (.int 5))) (aCons (rVal (eSeq .tup (aCons (rVal (eC (.int 1))) (aCons (rVal (f1 negD (rVal (eC (.int 1))))) aNil)))) aNil))))))))))) (bName 8)
  law_b2)
def law_s19 : SF :=
  (sRet (eCall (F__law_alike 6) [] (aCons (rVal (eCall F_want_fraction [] (aCons (rVal (eCallB (on1 lstD) (aCons (rVar 13) aNil))) aNil))) (aCons (rVal (eVar 13)) aNil))))
abbrev s_law : Stmt := (top 25)
theorem sc_law : FnScope ["script", "row", "wholes", "best", "part", "middle", "below", "above", "value", "a", "b", "c", "d", "one", "other", "rows", "whole", "e", "k"] ["script"] (defScope s_law) := C8.fnScope_by (by decide +kernel)
def b_law : SF :=
  (sCons law_s1
  (sCons law_s2
  (sCons law_s3
  (sCons law_s4
  (sCons law_s5
  (sCons law_s6
  (sCons law_s7
  (sCons law_s8
  (sCons law_s9
  (sCons law_s10
  (sCons law_s11
  (sCons law_s12
  (sCons law_s13
  (sCons law_s14
  (sCons law_s15
  (sCons law_s16
  (sCons law_s17
  (sCons law_s18
  law_s19))))))))))))))))))
def F_law : FV := fnV 18 b_law
theorem ok_law {P : Program} {w : World} {K : PySem.W.Frag} {mg : Str → Option Value} {base : Heap} {T : Tab} (hT : T.K = K) (B : NoB mg) {f : Addr} {fd : FuncData} (F : Fun K "law" "law" s_law f fd) (hm : mg "law" = some (.ref f)) (c__law_taken : CalL P w K mg base T 1 "_law_taken" 1 F__law_taken) (c_reduced : CalV P w K mg base T 1 "reduced" 2 F_reduced) (c__law_alike : CalV P w K mg base T 7 "_law_alike" 2 (F__law_alike 6)) (c__law_low : CalV P w K mg base T 1 "_law_low" 2 F__law_low) (c_is_fraction : CalV P w K mg base T 2 "is_fraction" 1 F_is_fraction) (c_plus : CalV P w K mg base T 2 "plus" 2 F_plus) (c_minus : CalV P w K mg base T 2 "minus" 2 F_minus) (c_times : CalV P w K mg base T 2 "times" 2 F_times) (c_over : CalV P w K mg base T 2 "over" 2 F_over) (c__law_truth : CalV P w K mg base T 1 "_law_truth" 2 F__law_truth) (c_is_less : CalV P w K mg base T 1 "is_less" 2 F_is_less) (c_floor_of : CalV P w K mg base T 1 "floor_of" 1 F_floor_of) (c_ceiling_of : CalV P w K mg base T 1 "ceiling_of" 1 F_ceiling_of) (c_nearest : CalV P w K mg base T 1 "nearest" 1 F_nearest) (c_total : CalV P w K mg base T 3 "total" 1 F_total) (c_median : CalV P w K mg base T 3 "median" 1 F_median) (c_want_fraction : CalV P w K mg base T 3 "want_fraction" 1 F_want_fraction) (h_BadNumber : HdT K mg T "BadNumber" hd_BadNumber) (xf_value : XfT K T 0 "value" okX) (hinj : ∀ a b, T.fnm a = T.fnm b → a = b) : FnG P w K mg base (L2.CX P w) 8 f fd ["script"] (spV T 1 F_law) :=
  fnG_V F sc_law rfl fun cdv A outer s H E gd b => have hu := Room.u b.hr;
  (js_cons (j_setO (i := 1) sc_law.nd (j_lstO (ja_cons (j_rval (j_var hT.symm 0)) (ja_cons (j_rval (j_int hT.symm)) (ja_cons (j_rval (j_int hT.symm)) (ja_cons (j_rval (j_int hT.symm)) (ja_nil hT.symm)))))))
  (js_cons (j_asg (j_tup (ja_cons (j_rval (j_sub (j_rval (jcl c__law_taken b.hr b.tk (ja_cons (j_rvar hT.symm 1) (ja_cons (j_rval (j_int hT.symm)) (ja_nil hT.symm))))) (j_rval (j_int hT.symm)))) (ja_cons (j_rval (j_add (j_rval (j_int hT.symm)) (j_rval (jcl c__law_taken b.hr b.tk (ja_cons (j_rvar hT.symm 1) (ja_cons (j_rval (j_int hT.symm)) (ja_nil hT.symm))))))) (ja_cons (j_rval (j_sub (j_rval (jcl c__law_taken b.hr b.tk (ja_cons (j_rvar hT.symm 1) (ja_cons (j_rval (j_int hT.symm)) (ja_nil hT.symm))))) (j_rval (j_int hT.symm)))) (ja_cons (j_rval (j_add (j_rval (j_int hT.symm)) (j_rval (jcl c__law_taken b.hr b.tk (ja_cons (j_rvar hT.symm 1) (ja_cons (j_rval (j_int hT.symm)) (ja_nil hT.symm))))))) (ja_nil hT.symm)))))) (jg_tup rfl hT.symm (jgs_cons (jg_name (i := 9) sc_law.nd) (jgs_cons (jg_name (i := 10) sc_law.nd) (jgs_cons (jg_name (i := 11) sc_law.nd) (jgs_cons (jg_name (i := 12) sc_law.nd) jgs_nil))))))
  (js_cons (j_par (i := 13) (j := 14) rfl sc_law.nd (ja_cons (j_rval (jc c_reduced b.hr b.tk (ja_cons (j_rval (j_var hT.symm 9)) (ja_cons (j_rval (j_var hT.symm 10)) (ja_nil hT.symm))))) (ja_cons (j_rval (jc c_reduced b.hr b.tk (ja_cons (j_rval (j_var hT.symm 11)) (ja_cons (j_rval (j_var hT.symm 12)) (ja_nil hT.symm))))) (ja_nil hT.symm))))
  (js_cons (j_ifs (JW.jt (j_or (j_not (j_test (jc c__law_alike b.hr b.tk (ja_cons (j_rval (j_tup (ja_cons (j_rval (j_var hT.symm 13)) (ja_cons (j_rval (j_var hT.symm 14)) (ja_nil hT.symm))))) (ja_cons (j_rval (j_tup (ja_cons (j_rval (jc c__law_low b.hr b.tk (ja_cons (j_rval (j_var hT.symm 9)) (ja_cons (j_rval (j_var hT.symm 10)) (ja_nil hT.symm))))) (ja_cons (j_rval (jc c__law_low b.hr b.tk (ja_cons (j_rval (j_var hT.symm 11)) (ja_cons (j_rval (j_var hT.symm 12)) (ja_nil hT.symm))))) (ja_nil hT.symm))))) (ja_nil hT.symm)))))) (j_or (j_not (j_test (jc c_is_fraction b.hr b.tk (ja_cons (j_rval (j_var hT.symm 13)) (ja_nil hT.symm))))) (j_or1 (j_test (jc c_is_fraction b.hr b.tk (ja_cons (j_rval (j_tup (ja_cons (j_rval (j_mul (j_rvar hT.symm 9) (j_rval (j_int hT.symm)))) (ja_cons (j_rval (j_mul (j_rvar hT.symm 10) (j_rval (j_int hT.symm)))) (ja_nil hT.symm))))) (ja_nil hT.symm)))))))) (js_one (j_ret (j_bl hT.symm))) (js_nil hT.symm))
  (js_cons (j_ifs (j_not (j_test (jc c__law_alike b.hr b.tk (ja_cons (j_rval (j_tup (ja_cons (j_rval (jc c_plus b.hr b.tk (ja_cons (j_rval (j_var hT.symm 13)) (ja_cons (j_rval (j_var hT.symm 14)) (ja_nil hT.symm))))) (ja_cons (j_rval (jc c_minus b.hr b.tk (ja_cons (j_rval (j_var hT.symm 13)) (ja_cons (j_rval (j_var hT.symm 14)) (ja_nil hT.symm))))) (ja_cons (j_rval (jc c_times b.hr b.tk (ja_cons (j_rval (j_var hT.symm 13)) (ja_cons (j_rval (j_var hT.symm 14)) (ja_nil hT.symm))))) (ja_nil hT.symm)))))) (ja_cons (j_rval (j_tup (ja_cons (j_rval (jc c__law_low b.hr b.tk (ja_cons (j_rval (j_add (j_rval (j_mul (j_rvar hT.symm 9) (j_rvar hT.symm 12))) (j_rval (j_mul (j_rvar hT.symm 11) (j_rvar hT.symm 10))))) (ja_cons (j_rval (j_mul (j_rvar hT.symm 10) (j_rvar hT.symm 12))) (ja_nil hT.symm))))) (ja_cons (j_rval (jc c__law_low b.hr b.tk (ja_cons (j_rval (j_sub (j_rval (j_mul (j_rvar hT.symm 9) (j_rvar hT.symm 12))) (j_rval (j_mul (j_rvar hT.symm 11) (j_rvar hT.symm 10))))) (ja_cons (j_rval (j_mul (j_rvar hT.symm 10) (j_rvar hT.symm 12))) (ja_nil hT.symm))))) (ja_cons (j_rval (jc c__law_low b.hr b.tk (ja_cons (j_rval (j_mul (j_rvar hT.symm 9) (j_rvar hT.symm 11))) (ja_cons (j_rval (j_mul (j_rvar hT.symm 10) (j_rvar hT.symm 12))) (ja_nil hT.symm))))) (ja_nil hT.symm)))))) (ja_nil hT.symm)))))) (js_one (j_ret (j_bl hT.symm))) (js_nil hT.symm))
  (js_cons (j_ifs (JW.jt (j_or (JW.jt (j_and (jtGt (j_rvar hT.symm 11) (j_rval (j_int hT.symm))) (j_and1 (j_not (j_test (jc c__law_alike b.hr b.tk (ja_cons (j_rval (jc c_over b.hr b.tk (ja_cons (j_rval (j_var hT.symm 13)) (ja_cons (j_rval (j_var hT.symm 14)) (ja_nil hT.symm))))) (ja_cons (j_rval (jc c__law_low b.hr b.tk (ja_cons (j_rval (j_mul (j_rvar hT.symm 9) (j_rvar hT.symm 12))) (ja_cons (j_rval (j_mul (j_rvar hT.symm 10) (j_rvar hT.symm 11))) (ja_nil hT.symm))))) (ja_nil hT.symm))))))))) (j_or1 (j_not (j_test (jc c__law_truth b.hr b.tk (ja_cons (j_rval (jc c_is_less b.hr b.tk (ja_cons (j_rval (j_var hT.symm 13)) (ja_cons (j_rval (j_var hT.symm 14)) (ja_nil hT.symm))))) (ja_cons (j_rval (jeLt (j_rval (j_mul (j_rvar hT.symm 9) (j_rvar hT.symm 12))) (j_rval (j_mul (j_rvar hT.symm 11) (j_rvar hT.symm 10))))) (ja_nil hT.symm))))))))) (js_one (j_ret (j_bl hT.symm))) (js_nil hT.symm))
  (js_cons (j_set (i := 2) sc_law.nd (j_frz (jListRg2 rfl (j_rval (j_neg (j_rval (j_int hT.symm)))) (j_rval (j_int hT.symm)) B)))
  (js_cons (j_par (i := 6) (j := 7) rfl sc_law.nd (ja_cons (j_rval (jMax rfl (ja_cons (j_rval (j_frz (j_lcO (own := [("k", 18)]) rfl sc_law.nd (ji_seq (j_var hT.symm 2)) (blkOk_by (by kernel_rfl)) (by decide) (fun s H C cl fp => (jg_name (i := 18) sc_law.nd)) (fun s H C cl fp => (jts_one (jtLe (j_rval (j_mul (j_rvar hT.symm 18) (j_rvar hT.symm 10))) (j_rvar hT.symm 9)))) (fun s H C cl fp => (j_var hT.symm 18))))) (ja_nil hT.symm)) B)) (ja_cons (j_rval (jMin rfl (ja_cons (j_rval (j_frz (j_lcO (own := [("k", 18)]) rfl sc_law.nd (ji_seq (j_var hT.symm 2)) (blkOk_by (by kernel_rfl)) (by decide) (fun s H C cl fp => (jg_name (i := 18) sc_law.nd)) (fun s H C cl fp => (jts_one (jtGe (j_rval (j_mul (j_rvar hT.symm 18) (j_rvar hT.symm 10))) (j_rvar hT.symm 9)))) (fun s H C cl fp => (j_var hT.symm 18))))) (ja_nil hT.symm)) B)) (ja_nil hT.symm))))
  (js_cons (j_set (i := 3) sc_law.nd (jMax rfl (ja_cons (j_rval (j_frz (j_lcO (own := [("k", 18)]) rfl sc_law.nd (ji_seq (j_var hT.symm 2)) (blkOk_by (by kernel_rfl)) (by decide) (fun s H C cl fp => (jg_name (i := 18) sc_law.nd)) (fun s H C cl fp => (jts_one (jtLe (j_rval (j_mul (j_rval (j_sub (j_rval (j_mul (j_rval (j_int hT.symm)) (j_rvar hT.symm 18))) (j_rval (j_int hT.symm)))) (j_rvar hT.symm 10))) (j_rval (j_mul (j_rval (j_int hT.symm)) (j_rvar hT.symm 9)))))) (fun s H C cl fp => (j_var hT.symm 18))))) (ja_nil hT.symm)) B))
  (js_cons (j_ifs (j_not (j_test (jc c__law_alike b.hr b.tk (ja_cons (j_rval (j_tup (ja_cons (j_rval (jc c_floor_of b.hr b.tk (ja_cons (j_rval (j_var hT.symm 13)) (ja_nil hT.symm)))) (ja_cons (j_rval (jc c_ceiling_of b.hr b.tk (ja_cons (j_rval (j_var hT.symm 13)) (ja_nil hT.symm)))) (ja_cons (j_rval (jc c_nearest b.hr b.tk (ja_cons (j_rval (j_var hT.symm 13)) (ja_nil hT.symm)))) (ja_nil hT.symm)))))) (ja_cons (j_rval (j_tup (ja_cons (j_rval (j_var hT.symm 6)) (ja_cons (j_rval (j_var hT.symm 7)) (ja_cons (j_rval (j_var hT.symm 3)) (ja_nil hT.symm)))))) (ja_nil hT.symm)))))) (js_one (j_ret (j_bl hT.symm))) (js_nil hT.symm))
  (js_cons (j_par (i := 15) (j := 16) rfl sc_law.nd (ja_cons (j_rval (j_add (j_rval (j_frz (j_lstO (ja_cons (j_rval (j_var hT.symm 13)) (ja_cons (j_rval (j_var hT.symm 14)) (ja_nil hT.symm)))))) (j_rval (j_frz (j_lcO (own := [("k", 18)]) rfl sc_law.nd (ji_range1 (ja_cons (j_rval (jcl c__law_taken b.hr b.tk (ja_cons (j_rvar hT.symm 1) (ja_cons (j_rval (j_int hT.symm)) (ja_nil hT.symm))))) (ja_nil hT.symm)) B.range) (blkOk_by (by kernel_rfl)) (by decide) (fun s H C cl fp => (jg_name (i := 18) sc_law.nd)) (fun s H C cl fp => jts_nil) (fun s H C cl fp => (jc c_reduced b.hr takes0 (ja_cons (j_rval (j_sub (j_rval (jcl c__law_taken b.hr takes0 (ja_cons (j_rvar hT.symm 1) (ja_cons (j_rval (j_int hT.symm)) (ja_nil hT.symm))))) (j_rval (j_int hT.symm)))) (ja_cons (j_rval (j_add (j_rval (j_int hT.symm)) (j_rval (jcl c__law_taken b.hr takes0 (ja_cons (j_rvar hT.symm 1) (ja_cons (j_rval (j_int hT.symm)) (ja_nil hT.symm))))))) (ja_nil hT.symm)))))))))) (ja_cons (j_rval (j_tup (ja_cons (j_rval (j_int hT.symm)) (ja_cons (j_rval (j_int hT.symm)) (ja_nil hT.symm))))) (ja_nil hT.symm))))
  (js_cons (j_for b.hp rfl (ji_seq (j_var hT.symm 15)) (jg_name (i := 4) sc_law.nd)
  (js_one (j_set (i := 16) sc_law.nd (jc c__law_low b.hr b.tk (ja_cons (j_rval (j_add (j_rval (j_mul (j_rval (j_ix (j_rvar hT.symm 16) (j_rval (j_int hT.symm)))) (j_rval (j_ix (j_rvar hT.symm 4) (j_rval (j_int hT.symm)))))) (j_rval (j_mul (j_rval (j_ix (j_rvar hT.symm 4) (j_rval (j_int hT.symm)))) (j_rval (j_ix (j_rvar hT.symm 16) (j_rval (j_int hT.symm)))))))) (ja_cons (j_rval (j_mul (j_rval (j_ix (j_rvar hT.symm 16) (j_rval (j_int hT.symm)))) (j_rval (j_ix (j_rvar hT.symm 4) (j_rval (j_int hT.symm)))))) (ja_nil hT.symm)))))))
  (js_cons (j_ifs (j_not (j_test (jc c__law_alike b.hr b.tk (ja_cons (j_rval (jc c_total b.hr b.tk (ja_cons (j_rval (j_var hT.symm 15)) (ja_nil hT.symm)))) (ja_cons (j_rval (j_var hT.symm 16)) (ja_nil hT.symm)))))) (js_one (j_ret (j_bl hT.symm))) (js_nil hT.symm))
  (js_cons (j_set (i := 5) sc_law.nd (jc c_median b.hr b.tk (ja_cons (j_rval (j_var hT.symm 15)) (ja_nil hT.symm))))
  (js_cons (j_set (i := 6) sc_law.nd (jLen (ja_cons (j_rval (j_frz (j_lcO (own := [("part", 4)]) rfl sc_law.nd (ji_seq (j_var hT.symm 15)) (blkOk_by (by kernel_rfl)) (by decide) (fun s H C cl fp => (jg_name (i := 4) sc_law.nd)) (fun s H C cl fp => (jts_one (jtLt (j_rval (j_mul (j_rval (j_ix (j_rvar hT.symm 4) (j_rval (j_int hT.symm)))) (j_rval (j_ix (j_rvar hT.symm 5) (j_rval (j_int hT.symm)))))) (j_rval (j_mul (j_rval (j_ix (j_rvar hT.symm 5) (j_rval (j_int hT.symm)))) (j_rval (j_ix (j_rvar hT.symm 4) (j_rval (j_int hT.symm))))))))) (fun s H C cl fp => (j_int hT.symm))))) (ja_nil hT.symm)) B))
  (js_cons (j_set (i := 7) sc_law.nd (jLen (ja_cons (j_rval (j_frz (j_lcO (own := [("part", 4)]) rfl sc_law.nd (ji_seq (j_var hT.symm 15)) (blkOk_by (by kernel_rfl)) (by decide) (fun s H C cl fp => (jg_name (i := 4) sc_law.nd)) (fun s H C cl fp => (jts_one (jtGt (j_rval (j_mul (j_rval (j_ix (j_rvar hT.symm 4) (j_rval (j_int hT.symm)))) (j_rval (j_ix (j_rvar hT.symm 5) (j_rval (j_int hT.symm)))))) (j_rval (j_mul (j_rval (j_ix (j_rvar hT.symm 5) (j_rval (j_int hT.symm)))) (j_rval (j_ix (j_rvar hT.symm 4) (j_rval (j_int hT.symm))))))))) (fun s H C cl fp => (j_int hT.symm))))) (ja_nil hT.symm)) B))
  (js_cons (j_ifs (JW.jt (j_or (jtGt (j_rval (j_mul (j_rval (j_int hT.symm)) (j_rvar hT.symm 6))) (j_rval (jLen (ja_cons (j_rvar hT.symm 15) (ja_nil hT.symm)) B))) (j_or (jtGt (j_rval (j_mul (j_rval (j_int hT.symm)) (j_rvar hT.symm 7))) (j_rval (jLen (ja_cons (j_rvar hT.symm 15) (ja_nil hT.symm)) B))) (j_or1 (JW.jt (j_and (jtEq hu (j_rval (j_mod (j_rval (jLen (ja_cons (j_rvar hT.symm 15) (ja_nil hT.symm)) B)) (j_rval (j_int hT.symm)))) (j_rval (j_int hT.symm))) (j_and1 (jtNotIn hu (j_rvar hT.symm 5) (j_rvar hT.symm 15))))))))) (js_one (j_ret (j_bl hT.symm))) (js_nil hT.symm))
  (js_cons (j_for b.hp rfl (ji_seq (j_frz (j_lstO (ja_cons (j_rval (j_non hT.symm)) (ja_cons (j_rval (j_tup (ja_cons (j_rval (j_int hT.symm)) (ja_cons (j_rval (j_int hT.symm)) (ja_nil hT.symm))))) (ja_cons (j_rval (j_tup (ja_cons (j_rval (j_int hT.symm)) (ja_cons (j_rval (j_int hT.symm)) (ja_nil hT.symm))))) (ja_cons (j_rval (j_tup (ja_cons (j_rval (j_int hT.symm)) (ja_cons (j_rval (j_int hT.symm)) (ja_nil hT.symm))))) (ja_cons (j_rval (j_tup (ja_cons (j_rval (j_int hT.symm)) (ja_nil hT.symm)))) (ja_cons (j_rval (j_tup (ja_cons (j_rval (j_bl hT.symm)) (ja_cons (j_rval (j_int hT.symm)) (ja_nil hT.symm))))) (ja_cons (j_rval (j_frz (j_lstO (ja_cons (j_rval (j_int hT.symm)) (ja_cons (j_rval (j_int hT.symm)) (ja_cons (j_rval (j_int hT.symm)) (ja_nil hT.symm))))))) (ja_cons (j_rval (j_int hT.symm)) (ja_cons (j_rval (j_tup (ja_cons (j_rval (j_int hT.symm)) (ja_cons (j_rval (j_neg (j_rval (j_int hT.symm)))) (ja_nil hT.symm))))) (ja_nil hT.symm))))))))))))) (jg_name (i := 8) sc_law.nd)
  (js_cons (j_ifs (j_test (jc c_is_fraction b.hr b.tk (ja_cons (j_rval (j_var hT.symm 8)) (ja_nil hT.symm)))) (js_one (j_ret (j_bl hT.symm))) (js_nil hT.symm))
  (js_one (jTryAs (i := 17) hT.symm sc_law.nd h_BadNumber b.tk (fun W pn xe tk hp => (js_cons (j_expr (jc c_want_fraction b.hr tk (ja_cons (j_rval (j_var hT.symm 8)) (ja_nil hT.symm))))
  (js_one (j_ret (j_bl hT.symm))))) (fun a oe cls d pn z v => (js_one (j_ifs (jReprNe gd hu (jXf hT.symm hinj xf_value z v) (j_var hT.symm 8) B) (js_one (j_ret (j_bl hT.symm))) (js_nil hT.symm))))))))
  (js_one (j_ret (jc c__law_alike b.hr b.tk (ja_cons (j_rval (jc c_want_fraction b.hr b.tk (ja_cons (j_rval (j_frz (jListO (ja_cons (j_rvar hT.symm 13) (ja_nil hT.symm)) B))) (ja_nil hT.symm)))) (ja_cons (j_rval (j_var hT.symm 13)) (ja_nil hT.symm))))))))))))))))))))))))
end K10

set_option Elab.async false
set_option linter.all false
set_option maxRecDepth 100000
namespace K10
open PySem PySem.Spec PyProof.Rows L2 J
theorem e_taken : F__law_taken = takenF := rfl
theorem e_alike : ∀ n, F__law_alike n = alikeF n
  | 0 => rfl
  | n + 1 => by show fnV 1 (b__law_alike (F__law_alike n)) = fnV 1 (b_alike (alikeF n)); rw [e_alike n]; rfl
theorem e_truth : F__law_truth = truthF := rfl
/-! ### fractions -/
def fr (p : Int × Int) : D := .tup [.int p.1, .int p.2]
def gc (a b : Int) : Nat := Nat.gcd a.natAbs b.natAbs
def rd (a b : Int) : Int × Int := (a / (gc a b : Int), b / (gc a b : Int))
theorem gc_pos {a b : Int} (hb : 1 ≤ b) : 1 ≤ gc a b := Nat.gcd_pos_of_pos_right _ (by omega)
theorem gc_le {a b : Int} (hb : 1 ≤ b) : (gc a b : Int) ≤ b := by
  have h : Nat.gcd a.natAbs b.natAbs ≤ b.natAbs := Nat.gcd_le_right _ (by omega)
  unfold gc
  omega
theorem gc_dvd1 (a b : Int) : (gc a b : Int) ∣ a := Int.ofNat_dvd_left.mpr (Nat.gcd_dvd_left _ _)
theorem gc_dvd2 (a b : Int) : (gc a b : Int) ∣ b := Int.ofNat_dvd_left.mpr (Nat.gcd_dvd_right _ _)
theorem fm (m n : Nat) : ((m : Int).fmod (n : Int)) = ((m % n : Nat) : Int) := by
  rw [Int.fmod_eq_emod_of_nonneg _ (Int.natCast_nonneg n)]; rfl
theorem reduced_ok (a b : Int) (hb : 1 ≤ b) (hb2 : b < 1073741824) : F_reduced [.int a, .int b] = .ok (fr (rd a b)) := by
  have W := whileS_run (σ := Nat × Nat) (c := reduced_w1) (b := reduced_b1) (enc := fun s => [.sh (.int a), .sh (.int b), .sh (.int s.1), .sh (.int s.2)])
    (fun s => decide (0 < s.2)) (fun s => (s.2, s.1 % s.2)) (fun s => s.2) (fun s => Nat.gcd s.1 s.2 = gc a b)
    (fun s _ => by simp [reduced_w1]) (fun s hI hg => by
      have hg : 0 < s.2 := of_decide_eq_true hg
      have hne : (s.2 : Int) ≠ 0 := by omega
      refine ⟨?_, ?_, Nat.mod_lt _ hg⟩
      · simp [reduced_b1, fm, show s.2 ≠ 0 by omega]
      · rw [← hI]
        show Nat.gcd s.2 (s.1 % s.2) = Nat.gcd s.1 s.2
        rw [Nat.gcd_comm s.1 s.2, Nat.gcd_rec s.2 s.1, Nat.gcd_comm]) (n := bigN) (s := (a.natAbs, b.natAbs)) rfl (by show b.natAbs < bigN; unfold bigN; omega)
  obtain ⟨s, e, hI, hg, -⟩ := W
  have hs : s.2 = 0 := by
    have := of_decide_eq_false hg; omega
  have h1 : s.1 = gc a b := by rw [← hI, hs, Nat.gcd_zero_right]
  have ha : (if a < 0 then -a else a) = (a.natAbs : Int) := by split <;> omega
  have hbb : (b.natAbs : Int) = b := by omega
  dsimp only at e
  rw [hbb, hs, h1] at e
  have p1 := gc_pos (a := a) hb
  have p2 := gc_le (a := a) hb
  have cd : ∀ x, CDivN x (gc a b : Int) := fun x => ⟨by omega, by omega⟩
  simp [F_reduced, b_reduced, reduced_s1, reduced_s2, reduced_s3, ha, e, cd, show 0 < gc a b by omega, fr, rd, Int.fdiv_eq_ediv_of_nonneg _ (Int.natCast_nonneg (gc a b))]
/-! ### its rules -/
theorem rd_den {a b : Int} (hb : 1 ≤ b) : 1 ≤ (rd a b).2 := by
  have h1 := gc_dvd2 a b
  have h2 := gc_pos (a := a) hb
  obtain ⟨k, hk⟩ := h1
  have : (rd a b).2 = k := by
    show b / (gc a b : Int) = k
    rw [hk]
    have hk' : gc a (↑(gc a b) * k) = gc a b := by rw [← hk]
    rw [hk', Int.mul_ediv_cancel_left _ (by omega)]
  rw [this]
  have hp : 0 < (gc a b : Int) := by omega
  by_cases hk1 : 1 ≤ k
  · exact hk1
  · have : (gc a b : Int) * k ≤ 0 := Int.mul_nonpos_of_nonneg_of_nonpos (by omega) (by omega)
    omega
theorem rd_eq (a b : Int) (hb : 1 ≤ b) : a = (rd a b).1 * gc a b ∧ b = (rd a b).2 * gc a b :=
  ⟨(Int.ediv_mul_cancel (gc_dvd1 a b)).symm, (Int.ediv_mul_cancel (gc_dvd2 a b)).symm⟩
theorem rd_cross (a b : Int) (hb : 1 ≤ b) : (rd a b).1 * b = a * (rd a b).2 := by
  obtain ⟨h1, h2⟩ := rd_eq a b hb
  generalize (rd a b).1 = p at *
  generalize (rd a b).2 = q at *
  generalize (gc a b : Int) = g at *
  subst h1; subst h2; grind
theorem rd_le {a b : Int} (hb : 1 ≤ b) : (rd a b).2 ≤ b := by
  have h1 := rd_den (a := a) hb
  have h2 := (rd_eq a b hb).2
  have h3 := gc_pos (a := a) hb
  have : (rd a b).2 * 1 ≤ (rd a b).2 * (gc a b : Int) := Int.mul_le_mul_of_nonneg_left (by omega) (by omega)
  omega
theorem rd_scale (a b k : Int) (hb : 1 ≤ b) (hk : 1 ≤ k) : rd (a * k) (b * k) = rd a b := by
  have hg : gc (a * k) (b * k) = gc a b * k.natAbs := by
    unfold gc
    rw [Int.natAbs_mul, Int.natAbs_mul, Nat.gcd_mul_right]
  have p := gc_pos (a := a) hb
  unfold rd
  rw [hg, Int.natCast_mul, show (k.natAbs : Int) = k by omega, Int.mul_ediv_mul_of_pos_left _ _ (by omega), Int.mul_ediv_mul_of_pos_left _ _ (by omega)]
theorem rd_same {a b p q : Int} (hb : 1 ≤ b) (hq : 1 ≤ q) (h : a * q = p * b) : rd a b = rd p q := by
  rw [← rd_scale a b q hb hq, ← rd_scale p q b hq hb, h, Int.mul_comm b q]
theorem rd_idem (a b : Int) (hb : 1 ≤ b) : rd (rd a b).1 (rd a b).2 = rd a b := (rd_same hb (rd_den hb) (rd_cross a b hb).symm).symm
end K10

set_option Elab.async false
set_option linter.all false
set_option maxRecDepth 100000
namespace K10
open PySem PySem.Spec PyProof.Rows L2 J
theorem fmod0 {a m : Int} (hm : 0 < m) : a.fmod m = 0 ↔ m ∣ a := by
  rw [Int.fmod_eq_emod_of_nonneg _ (by omega), Int.dvd_iff_emod_eq_zero]
theorem low_ok (a b : Int) (hb : 1 ≤ b) (hb2 : b ≤ 16777215) : F__law_low [.int a, .int b] = .ok (fr (rd a b)) := by
  have L := forS_inv (b := bName 3) (body := _law_low_b1) (e := fun i : Nat => D.int (1 + (i : Int)))
    (fun k ρ => ∃ (h : Int) (o : Sl), ρ = [.sh (.int a), .sh (.int b), .sh (.int h), o] ∧ 1 ≤ h ∧ h ∣ a ∧ h ∣ b ∧ h ≤ b ∧ ∀ j : Int, 1 ≤ j → j ≤ k → j ∣ a → j ∣ b → j ≤ h)
    (l := List.range b.toNat) (k := 0) (ρ := [.sh (.int a), .sh (.int b), .sh (.int 1), .no]) ⟨1, .no, rfl, by omega, Int.one_dvd _, Int.one_dvd _, hb, fun j h1 h2 => by omega⟩ ?_
  · obtain ⟨ρ, e, h, o, rfl, h1, h2, h3, h4, h5⟩ := L
    have hg : h = gc a b := by
      have k1 := h5 (gc a b) (by have := gc_pos (a := a) hb; omega) (by have := gc_le (a := a) hb; simp; omega) (gc_dvd1 a b) (gc_dvd2 a b)
      have k2 : h.natAbs ∣ gc a b := Nat.dvd_gcd (Int.natAbs_dvd_natAbs.mpr h2) (Int.natAbs_dvd_natAbs.mpr h3)
      have k3 := Nat.le_of_dvd (gc_pos (a := a) hb) k2
      omega
    have hr : rng2 [.int 1, .int (b + 1)] = some ((List.range b.toNat).map fun i : Nat => D.int (1 + (i : Int))) := by
      show (if (-(2 ^ 62) ≤ (1 : Int) ∧ (1 : Int) < 2 ^ 62 ∧ -(2 ^ 62) ≤ b + 1 ∧ b + 1 < 2 ^ 62) ∧ b + 1 - 1 ≤ 16777216 then some (rangeL 1 (b + 1 - 1).toNat) else none) = _
      rw [if_pos ⟨⟨by decide, by decide, by omega, by omega⟩, by omega⟩, show b + 1 - 1 = b by omega]
      rfl
    have cd : ∀ x, CDivN x (gc a b : Int) := fun x => ⟨by have := gc_pos (a := a) hb; omega, by have := gc_le (a := a) hb; omega⟩
    subst hg
    simp [F__law_low, b__law_low, _law_low_s1, _law_low_s2, _law_low_s3, hr, e, cd, fr, rd, Int.fdiv_eq_ediv_of_nonneg _ (Int.natCast_nonneg (gc a b))]
  · rintro i c ρ hc ⟨h, o, rfl, h1, h2, h3, h4, h5⟩
    have hc' : c = i ∧ i < b.toNat := by
      by_cases hi : i < b.toNat
      · simp [hi] at hc; exact ⟨hc.symm, hi⟩
      · simp [hi] at hc
    obtain ⟨rfl, hlt⟩ := hc'
    have hm : (0 : Int) < 1 + c := by omega
    have hne : (1 : Int) + c ≠ 0 := by omega
    by_cases hd : (1 + (c : Int)) ∣ a ∧ (1 + (c : Int)) ∣ b
    · have f1 := (fmod0 hm).mpr hd.1
      have f2 := (fmod0 hm).mpr hd.2
      refine ⟨_, ?_, 1 + (c : Int), .sh (.int (1 + (c : Int))), rfl, by omega, hd.1, hd.2, by omega, fun j j1 j2 _ _ => by omega⟩
      simp [forS_cons, _law_low_b1, hne, f1, f2, eqD, okE, eqv]
    · refine ⟨_, ?_, h, .sh (.int (1 + (c : Int))), rfl, h1, h2, h3, h4, fun j j1 j2 d1 d2 => ?_⟩
      · by_cases ha : (1 + (c : Int)) ∣ a
        · have f1 := (fmod0 hm).mpr ha
          have f2 : ¬ b.fmod (1 + (c : Int)) = 0 := fun z => hd ⟨ha, (fmod0 hm).mp z⟩
          simp [forS_cons, _law_low_b1, hne, f1, f2, eqD, okE, eqv]
        · have f1 : ¬ a.fmod (1 + (c : Int)) = 0 := fun z => ha ((fmod0 hm).mp z)
          simp [forS_cons, _law_low_b1, hne, f1, eqD, okE, eqv]
      · by_cases hj : j = 1 + (c : Int)
        · subst hj; exact absurd ⟨d1, d2⟩ hd
        · exact h5 j j1 (by omega) d1 d2
theorem isfr_ok (p q : Int) (hq : 1 ≤ q) (hq2 : q < 1073741824) (d : D) (hd : d = .tup [.int p, .int q] ∨ d = .lst [.int p, .int q]) : F_is_fraction [d] = .ok (.bl (decide (rd p q = (p, q)))) := by
  have e := reduced_ok p q hq hq2
  have e2 : ∀ x : Int × Int, decide (x = (p, q)) = (x.1 == p && x.2 == q) := fun x => by
    rw [Bool.eq_iff_iff]; simp [Prod.ext_iff]
  rcases hd with rfl | rfl <;> simp [F_is_fraction, b_is_fraction, F_is_row, b_is_row, F_is_whole, b_is_whole, neD, eqD, okE, okEs, eqv, eqvs, show ¬ q < 1 by omega, e, fr, e2]
end K10

set_option Elab.async false
set_option linter.all false
set_option maxRecDepth 100000
namespace K10
open PySem PySem.Spec PyProof.Rows L2 J
abbrev Fr := Int × Int
theorem cmr {a b : Int} (h : 1 ≤ b) (h2 : b < 1073741824) : CMul a b := .inr ⟨by omega, by omega⟩
theorem cml {a b : Int} (h : 1 ≤ b) (h2 : b < 1073741824) : CMul b a := .inl ⟨by omega, by omega⟩
def plusR (f x : Fr) : Fr := rd (f.1 * x.2 + x.1 * f.2) (f.2 * x.2)
theorem mul_pos1 {a b : Int} (ha : 1 ≤ a) (hb : 1 ≤ b) : 1 ≤ a * b := by
  have := Int.mul_le_mul ha hb (by omega) (by omega)
  omega
theorem le_mul1 {a b : Int} (ha : 1 ≤ a) (hb : 1 ≤ b) : a ≤ a * b ∧ b ≤ a * b := by
  constructor
  · have := Int.mul_le_mul_of_nonneg_left hb (by omega : 0 ≤ a); omega
  · have := Int.mul_le_mul_of_nonneg_right ha (by omega : 0 ≤ b); omega
theorem plus_ok (f x : Fr) (hf : 1 ≤ f.2) (hx : 1 ≤ x.2) (h : f.2 * x.2 < 1073741824) : F_plus [fr f, fr x] = .ok (fr (plusR f x)) := by
  obtain ⟨l1, l2⟩ := le_mul1 hf hx
  have e := reduced_ok (f.1 * x.2 + x.1 * f.2) (f.2 * x.2) (mul_pos1 hf hx) h
  simp [F_plus, b_plus, fr, cmr hx (by omega), cmr hf (by omega)] at e ⊢
  simp [e, plusR, fr]
theorem minus_ok (f x : Fr) (hf : 1 ≤ f.2) (hx : 1 ≤ x.2) (h : f.2 * x.2 < 1073741824) : F_minus [fr f, fr x] = .ok (fr (rd (f.1 * x.2 - x.1 * f.2) (f.2 * x.2))) := by
  obtain ⟨l1, l2⟩ := le_mul1 hf hx
  have e := reduced_ok (f.1 * x.2 - x.1 * f.2) (f.2 * x.2) (mul_pos1 hf hx) h
  simp [F_minus, b_minus, fr, cmr hx (by omega), cmr hf (by omega)] at e ⊢
  simp [e, fr]
theorem times_ok (f x : Fr) (hf : 1 ≤ f.2) (hx : 1 ≤ x.2) (h : f.2 * x.2 < 1073741824) (hm : CMul f.1 x.1) : F_times [fr f, fr x] = .ok (fr (rd (f.1 * x.1) (f.2 * x.2))) := by
  obtain ⟨l1, l2⟩ := le_mul1 hf hx
  have e := reduced_ok (f.1 * x.1) (f.2 * x.2) (mul_pos1 hf hx) h
  simp [F_times, b_times, fr, cmr hx (by omega), hm] at e ⊢
  simp [e, fr]
theorem over_ok (f x : Fr) (hf : 1 ≤ f.2) (hx : 1 ≤ x.2) (hx1 : 1 ≤ x.1) (h2 : x.2 < 1073741824) (h3 : f.2 < 1073741824) (h : f.2 * x.1 < 1073741824) : F_over [fr f, fr x] = .ok (fr (rd (f.1 * x.2) (f.2 * x.1))) := by
  have e := reduced_ok (f.1 * x.2) (f.2 * x.1) (mul_pos1 hf hx1) h
  simp [F_over, b_over, fr, cmr hx h2, cml hf h3] at e ⊢
  simp [e, fr]
def ltR (x y : Fr) : Bool := decide (x.1 * y.2 < y.1 * x.2)
theorem less_ok (f x : Fr) (hf : 1 ≤ f.2) (hx : 1 ≤ x.2) (h2 : x.2 < 1073741824) (h3 : f.2 < 1073741824) : F_is_less [fr f, fr x] = .ok (.bl (ltR f x)) := by
  simp [F_is_less, b_is_less, fr, cmr hx h2, cmr hf h3, ltR]
theorem floor_ok (f : Fr) (hf : 1 ≤ f.2) (h3 : f.2 < 1073741824) : F_floor_of [fr f] = .ok (.int (f.1 / f.2)) := by
  have c : CDivN f.1 f.2 := ⟨by omega, by omega⟩
  simp [F_floor_of, b_floor_of, fr, c, Int.fdiv_eq_ediv_of_nonneg _ (show 0 ≤ f.2 by omega)]
theorem ceil_ok (f : Fr) (hf : 1 ≤ f.2) (h3 : f.2 < 1073741824) : F_ceiling_of [fr f] = .ok (.int (-(-f.1 / f.2))) := by
  have c : CDivN (-f.1) f.2 := ⟨by omega, by omega⟩
  simp [F_ceiling_of, b_ceiling_of, fr, c, Int.fdiv_eq_ediv_of_nonneg _ (show 0 ≤ f.2 by omega)]
theorem near_ok (f : Fr) (hf : 1 ≤ f.2) (h3 : f.2 < 100000000) : F_nearest [fr f] = .ok (.int ((2 * f.1 + f.2) / (2 * f.2))) := by
  have c : CDivN (2 * f.1 + f.2) (2 * f.2) := ⟨by omega, by omega⟩
  simp [F_nearest, b_nearest, fr, c, cml (a := f.1) (b := 2) (by omega) (by omega), cml (a := f.2) (b := 2) (by omega) (by omega), Int.fdiv_eq_ediv_of_nonneg _ (show 0 ≤ 2 * f.2 by omega)]
/-! ### rows of fractions -/
structure Rows (rows : List Fr) : Prop where
  len : rows.length ≤ 6
  den : ∀ (i : Nat) (x : Fr), rows[i]? = some x → 1 ≤ x.2 ∧ x.2 ≤ 60 ∧ (2 ≤ i → x.2 ≤ 6)
def bd : Nat → Int
  | 0 => 1
  | 1 => 60
  | 2 => 3600
  | 3 => 21600
  | 4 => 129600
  | 5 => 777600
  | _ => 4665600
theorem bd_step {rows : List Fr} (R : Rows rows) {i : Nat} {x f : Fr} (hi : rows[i]? = some x) (hf : 1 ≤ f.2) (hb : f.2 ≤ bd i) : 1 ≤ x.2 ∧ f.2 * x.2 ≤ 4665600 ∧ 1 ≤ (plusR f x).2 ∧ (plusR f x).2 ≤ bd (i + 1) := by
  obtain ⟨d1, d2, d3⟩ := R.den i x hi
  have hlt : i < 6 := by
    have h1 := (List.getElem?_eq_some_iff.mp hi).1
    have h2 := R.len
    omega
  have hle := rd_le (a := f.1 * x.2 + x.1 * f.2) (mul_pos1 hf d1)
  have hde := rd_den (a := f.1 * x.2 + x.1 * f.2) (mul_pos1 hf d1)
  have key : ∀ c d : Int, f.2 ≤ c → x.2 ≤ d → 0 ≤ c → f.2 * x.2 ≤ c * d := fun c d h1 h2 h3 => Int.mul_le_mul h1 h2 (by omega) h3
  have hp : f.2 * x.2 ≤ bd (i + 1) ∧ bd (i + 1) ≤ 4665600 := by
    rcases (by omega : i = 0 ∨ i = 1 ∨ i = 2 ∨ i = 3 ∨ i = 4 ∨ i = 5) with rfl | rfl | rfl | rfl | rfl | rfl
    · have := key 1 60 hb d2 (by decide); exact ⟨this, by decide⟩
    · have := key 60 60 hb d2 (by decide); exact ⟨this, by decide⟩
    · have := key 3600 6 hb (d3 (by omega)) (by decide); exact ⟨this, by decide⟩
    · have := key 21600 6 hb (d3 (by omega)) (by decide); exact ⟨this, by decide⟩
    · have := key 129600 6 hb (d3 (by omega)) (by decide); exact ⟨this, by decide⟩
    · have := key 777600 6 hb (d3 (by omega)) (by decide); exact ⟨this, by decide⟩
  exact ⟨d1, by omega, hde, by unfold plusR; omega⟩
def sumR (rows : List Fr) : Fr := rows.foldl plusR (0, 1)
theorem total_ok (rows : List Fr) (R : Rows rows) : F_total [.lst (rows.map fr)] = .ok (fr (sumR rows)) := by
  obtain ⟨ρ, e, f, o, rfl, hf, h1, h2⟩ := forS_inv (b := bName 2) (body := total_b1) (e := fr) (fun k ρ => ∃ (f : Fr) (o : Sl), ρ = [.sh (.lst (rows.map fr)), .sh (fr f), o] ∧ f = (rows.take k).foldl plusR (0, 1) ∧ 1 ≤ f.2 ∧ f.2 ≤ bd k)
    (l := rows) (k := 0) (ρ := [.sh (.lst (rows.map fr)), .sh (fr (0, 1)), .no]) ⟨(0, 1), .no, rfl, rfl, by decide, by decide⟩ (by
      rintro i x ρ hi ⟨f, o, rfl, hf, h1, h2⟩
      simp only [Nat.zero_add] at *
      obtain ⟨k1, k2, k3, k4⟩ := bd_step R hi h1 h2
      refine ⟨_, ?_, plusR f x, .sh (fr x), rfl, ?_, k3, k4⟩
      · simp [forS_cons, total_b1, plus_ok f x h1 k1 (by omega)]
      · rw [List.take_add_one, hi, List.foldl_append, ← hf]; rfl)
  have e0 : (0, 1) = ((0 : Int), (1 : Int)) := rfl
  simp only [Nat.zero_add, List.take_length] at hf
  simp [F_total, b_total, total_s1, total_s2, total_s3]
  simp [fr] at e ⊢
  simp [e, hf, sumR]
end K10

set_option Elab.async false
set_option linter.all false
set_option maxRecDepth 100000
namespace K10
open PySem PySem.Spec PyProof.Rows L2 J
/-! ### the order of fractions -/
def Lt (x y : Fr) : Prop := x.1 * y.2 < y.1 * x.2
def Le (x y : Fr) : Prop := x.1 * y.2 ≤ y.1 * x.2
theorem lt_le {x y z : Fr} (hx : 1 ≤ x.2) (hy : 1 ≤ y.2) (hz : 1 ≤ z.2) (h1 : Lt x y) (h2 : Le y z) : Lt x z := by
  unfold Lt Le at *
  have a := Int.mul_lt_mul_of_pos_right h1 (by omega : 0 < z.2)
  have b := Int.mul_le_mul_of_nonneg_right h2 (by omega : 0 ≤ x.2)
  refine Int.lt_of_mul_lt_mul_right (a := y.2) ?_ (by omega)
  have e1 : x.1 * z.2 * y.2 = x.1 * y.2 * z.2 := by grind
  have e2 : z.1 * x.2 * y.2 = z.1 * y.2 * x.2 := by grind
  have e3 : y.1 * x.2 * z.2 = y.1 * z.2 * x.2 := by grind
  omega
theorem le_trans' {x y z : Fr} (hx : 1 ≤ x.2) (hy : 1 ≤ y.2) (hz : 1 ≤ z.2) (h1 : Le x y) (h2 : Le y z) : Le x z := by
  unfold Le at *
  have a := Int.mul_le_mul_of_nonneg_right h1 (by omega : 0 ≤ z.2)
  have b := Int.mul_le_mul_of_nonneg_right h2 (by omega : 0 ≤ x.2)
  refine Int.le_of_mul_le_mul_right (a := y.2) ?_ (by omega)
  have e1 : x.1 * z.2 * y.2 = x.1 * y.2 * z.2 := by grind
  have e2 : z.1 * x.2 * y.2 = z.1 * y.2 * x.2 := by grind
  have e3 : y.1 * x.2 * z.2 = y.1 * z.2 * x.2 := by grind
  omega
theorem ltR_iff {x y : Fr} : ltR x y = true ↔ Lt x y := by unfold ltR Lt; simp
theorem ltR_not {x y : Fr} : ltR x y = false ↔ Le y x := by unfold ltR Le; simp
/-! ### the pile of the median -/
def ins (row : List Fr) (one : Fr) : List Fr := row.take (row.filter fun o => !ltR one o).length ++ [one] ++ row.drop (row.filter fun o => !ltR one o).length
def insR (one : Fr) : List Fr → List Fr
  | [] => [one]
  | o :: r => if ltR one o = true then one :: o :: r else o :: insR one r
def Pos (l : List Fr) : Prop := ∀ x ∈ l, 1 ≤ x.2
theorem ins_eq {one : Fr} (h1 : 1 ≤ one.2) : ∀ {row : List Fr}, Pos row → row.Pairwise Le → ins row one = insR one row
  | [], _, _ => rfl
  | o :: r, hp, hs => by
    have hs' := List.pairwise_cons.mp hs
    have ho := hp o List.mem_cons_self
    cases e : ltR one o with
    | true =>
      have all : ∀ p ∈ r, ltR one p = true := fun p hp' => ltR_iff.mpr (lt_le h1 ho (hp p (List.mem_cons_of_mem _ hp')) (ltR_iff.mp e) (hs'.1 p hp'))
      have hf : (o :: r).filter (fun o => !ltR one o) = [] := by
        rw [List.filter_eq_nil_iff]
        intro p hp'
        rcases List.mem_cons.mp hp' with rfl | hp'
        · simp [e]
        · simp [all p hp']
      unfold ins insR
      rw [hf, if_pos e]
      rfl
    | false =>
      have ih := ins_eq h1 (fun x hx => hp x (List.mem_cons_of_mem _ hx)) hs'.2
      unfold ins at ih ⊢
      have hf : (o :: r).filter (fun o => !ltR one o) = o :: r.filter (fun o => !ltR one o) := by
        rw [List.filter_cons_of_pos (by simp [e])]
      rw [hf]
      simp only [List.length_cons, List.take_succ_cons, List.drop_succ_cons, List.cons_append]
      rw [ih]
      show _ = (if ltR one o = true then one :: o :: r else o :: insR one r)
      rw [if_neg (by rw [e]; decide)]
theorem insR_perm (one : Fr) : ∀ row : List Fr, (insR one row).Perm (one :: row)
  | [] => List.Perm.refl _
  | o :: r => by
    unfold insR
    split
    · exact List.Perm.refl _
    · exact ((insR_perm one r).cons o).trans (List.Perm.swap one o r)
theorem insR_sorted {one : Fr} (h1 : 1 ≤ one.2) : ∀ {row : List Fr}, Pos row → row.Pairwise Le → (insR one row).Pairwise Le
  | [], _, _ => by simp [insR]
  | o :: r, hp, hs => by
    have hs' := List.pairwise_cons.mp hs
    have ho := hp o List.mem_cons_self
    unfold insR
    cases e : ltR one o with
    | true =>
      rw [if_pos rfl]
      have hl : Le one o := by have := ltR_iff.mp e; unfold Lt at this; unfold Le; omega
      refine List.pairwise_cons.mpr ⟨fun p hp' => ?_, hs⟩
      rcases List.mem_cons.mp hp' with rfl | hp'
      · exact hl
      · exact le_trans' h1 ho (hp p (List.mem_cons_of_mem _ hp')) hl (hs'.1 p hp')
    | false =>
      rw [if_neg Bool.false_ne_true]
      refine List.pairwise_cons.mpr ⟨fun p hp' => ?_, insR_sorted h1 (fun x hx => hp x (List.mem_cons_of_mem _ hx)) hs'.2⟩
      rcases List.mem_cons.mp ((insR_perm one r).mem_iff.mp hp') with rfl | hp'
      · exact ltR_not.mp e
      · exact hs'.1 p hp'
def pile (r0 : Fr) (rest : List Fr) : List Fr := rest.foldl ins [r0]
theorem pile_ok (r0 : Fr) (h0 : 1 ≤ r0.2) : ∀ (rest : List Fr), Pos rest → (pile r0 rest).Perm (r0 :: rest) ∧ (pile r0 rest).Pairwise Le := by
  have gen : ∀ (rest row : List Fr), Pos rest → Pos row → row.Pairwise Le → (rest.foldl ins row).Perm (row ++ rest) ∧ (rest.foldl ins row).Pairwise Le := by
    intro rest
    induction rest with
    | nil => intro row _ _ hs; exact ⟨by simp, hs⟩
    | cons x r ih =>
      intro row hp hr hs
      have hx := hp x List.mem_cons_self
      have e := ins_eq hx hr hs
      have pm := insR_perm x row
      have h := ih (ins row x) (fun y hy => hp y (List.mem_cons_of_mem _ hy)) (by
        rw [e]
        intro y hy
        rcases List.mem_cons.mp (pm.mem_iff.mp hy) with rfl | hy
        · exact hx
        · exact hr y hy) (by rw [e]; exact insR_sorted hx hr hs)
      refine ⟨?_, h.2⟩
      refine h.1.trans ?_
      rw [e]
      refine (pm.append_right r).trans ?_
      exact (List.perm_middle (a := x) (l₁ := row) (l₂ := r)).symm
  exact fun rest hp => gen rest [r0] hp (fun x hx => by rw [List.mem_singleton.mp hx]; exact h0) (by simp)
end K10

set_option Elab.async false
set_option linter.all false
set_option maxRecDepth 100000
namespace K10
open PySem PySem.Spec PyProof.Rows L2 J
def Small (l : List Fr) : Prop := ∀ x ∈ l, 1 ≤ x.2 ∧ x.2 ≤ 60
def plc (row : List Fr) (one : Fr) : Nat := (row.filter fun o => !ltR one o).length
theorem median_turn (rows row : List Fr) (hr : Small row) (one : Fr) (h1 : 1 ≤ one.2 ∧ one.2 ≤ 60) (hl : row.length ≤ 100) (s2 s3 : Sl) :
    forS (bName 2) median_b1 [fr one] [.sh (.lst (rows.map fr)), .ow (.lst (row.map fr)), s2, s3, .no, .no, .no] = .ok .nx [.sh (.lst (rows.map fr)), .ow (.lst ((ins row one).map fr)), .sh (fr one), .sh (.int (plc row one)), .no, .no, .no] := by
  have L := lcS_all (b := bName 6) (vs := [6]) (t := median_t1) (f := median_e1) (ρ := [.sh (.lst (rows.map fr)), .no, .sh (fr one), s3, .no, .no, .no]) (e := fr) (q := fun o => if ltR one o = true then [] else [fr o]) (l := row) (acc := []) (fun o ho => by
    have h2 := hr o ho
    have e := less_ok one o h1.1 h2.1 (by omega) (by omega)
    cases e3 : ltR one o <;> simp [lcS, wipeE, rst, median_t1, median_e1, e, e3])
  rw [List.nil_append] at L
  have hlen := flat_len (ltR one) fr row
  have hp : plc row one ≤ row.length := List.length_filter_le _ _
  have hz : row.length < sizeLine := by rw [sizeLine_eq]; omega
  have hI := insD_ok (row.map fr) (fr one) (plc row one) (by omega) (by simp; omega)
  simp [forS_cons, median_b1, noOw, L, hlen]
  rw [show (row.filter fun o => !ltR one o).length = plc row one from rfl, hI]
  simp [ins, plc, List.map_take, List.map_drop]
def mid (p : List Fr) : Fr := let s := plusR (p.getD ((p.length - 1) / 2) (0, 1)) (p.getD (p.length / 2) (0, 1)); rd (s.1 * 1) (s.2 * 2)
theorem median_ok (r0 : Fr) (rest : List Fr) (hs : Small (r0 :: rest)) (hl : (r0 :: rest).length ≤ 100) : F_median [.lst ((r0 :: rest).map fr)] = .ok (fr (mid (pile r0 rest))) := by
  have hp := pile_ok r0 (hs r0 List.mem_cons_self).1 rest fun x hx => (hs x (List.mem_cons_of_mem _ hx)).1
  obtain ⟨ρ, e, o2, o3, rfl⟩ := forS_inv (b := bName 2) (body := median_b1) (e := fr) (fun k ρ => ∃ o2 o3, ρ = [.sh (.lst ((r0 :: rest).map fr)), .ow (.lst ((pile r0 (rest.take k)).map fr)), o2, o3, .no, .no, .no])
    (l := rest) (k := 0) (ρ := [.sh (.lst ((r0 :: rest).map fr)), .ow (.lst ([r0].map fr)), .no, .no, .no, .no, .no]) ⟨.no, .no, rfl⟩ (by
      rintro i x ρ hi ⟨o2, o3, rfl⟩
      simp only [Nat.zero_add] at *
      have hx : x ∈ rest := List.mem_of_getElem? hi
      have sub : ∀ y ∈ rest.take i, y ∈ rest := fun y hy => List.mem_of_mem_take hy
      have hk := pile_ok r0 (hs r0 List.mem_cons_self).1 (rest.take i) fun y hy => (hs y (List.mem_cons_of_mem _ (sub y hy))).1
      have hr : Small (pile r0 (rest.take i)) := fun y hy => by
        rcases List.mem_cons.mp (hk.1.mem_iff.mp hy) with rfl | hy
        · exact hs _ List.mem_cons_self
        · exact hs y (List.mem_cons_of_mem _ (sub y hy))
      have hlen := hk.1.length_eq
      rw [List.length_cons, List.length_take] at hlen
      rw [List.length_cons] at hl
      refine ⟨_, median_turn (r0 :: rest) _ hr x (hs x (List.mem_cons_of_mem _ hx)) (by omega) o2 o3, .sh (fr x), .sh (.int (plc (pile r0 (rest.take i)) x)), ?_⟩
      rw [List.take_add_one, hi]
      simp [pile, List.foldl_append])
  simp only [Nat.zero_add, List.take_length] at e
  have hlen := hp.1.length_eq
  rw [List.length_cons] at hlen hl
  generalize hq : pile r0 rest = P at *
  have sm : ∀ i (h : i < P.length), 1 ≤ P[i].2 ∧ P[i].2 ≤ 60 := fun i h => hs _ (hp.1.mem_iff.mp (List.getElem_mem h))
  have hn : 1 ≤ P.length := by omega
  have i1 : (P.length - 1) / 2 < P.length := by omega
  have i2 : P.length / 2 < P.length := by omega
  have f1 : ((P.length : Int) - 1).fdiv 2 = (((P.length - 1) / 2 : Nat) : Int) := by rw [Int.fdiv_eq_ediv_of_nonneg _ (by decide)]; omega
  have f2 : (P.length : Int).fdiv 2 = ((P.length / 2 : Nat) : Int) := by rw [Int.fdiv_eq_ediv_of_nonneg _ (by decide)]; omega
  have c2 : ∀ x, CDivN x 2 := fun x => ⟨by decide, by decide⟩
  have a1 := sm _ i1
  have a2 := sm _ i2
  have l1 : P[(P.length - 1) / 2].2 * P[P.length / 2].2 ≤ 60 * 60 := Int.mul_le_mul a1.2 a2.2 (by omega) (by decide)
  have e1 := plus_ok P[(P.length - 1) / 2] P[P.length / 2] a1.1 a2.1 (by omega)
  have d1 := rd_den (a := P[(P.length - 1) / 2].1 * P[P.length / 2].2 + P[P.length / 2].1 * P[(P.length - 1) / 2].2) (mul_pos1 a1.1 a2.1)
  have d2 := rd_le (a := P[(P.length - 1) / 2].1 * P[P.length / 2].2 + P[P.length / 2].1 * P[(P.length - 1) / 2].2) (mul_pos1 a1.1 a2.1)
  have e2 := times_ok (plusR P[(P.length - 1) / 2] P[P.length / 2]) (1, 2) d1 (by decide) (by show (plusR _ _).2 * 2 < _; unfold plusR; omega) (.inr ⟨by decide, by decide⟩)
  have hm : mid P = rd ((plusR P[(P.length - 1) / 2] P[P.length / 2]).1 * 1) ((plusR P[(P.length - 1) / 2] P[P.length / 2]).2 * 2) := by
    unfold mid
    simp [List.getD_eq_getElem?_getD, i1, i2]
  rw [hm]
  clear hm
  generalize (P.length - 1) / 2 = k1 at *
  generalize P.length / 2 = k2 at *
  have hc : cutL (fr r0 :: rest.map fr) (some 1) none = rest.map fr := cut_from _ 1
  simp [F_median, b_median, median_s1, median_s2, median_s3, median_s4, hc]
  simp only [List.map_cons, List.map_nil] at e
  simp [e, c2, f1, f2, atI_nat', i1, i2, e1]
  simp [fr] at e2
  simp [fr, e2]
end K10

set_option Elab.async false
set_option linter.all false
set_option maxRecDepth 100000
namespace K10
open PySem PySem.Spec PyProof.Rows L2 J
/-! ### the middle -/
theorem mid_le {f s : Fr} (hf : 1 ≤ f.2) (hs : 1 ≤ s.2) (h : Le f s) : let m := rd ((plusR f s).1 * 1) ((plusR f s).2 * 2); 1 ≤ m.2 ∧ Le f m ∧ Le m s := by
  intro m
  have hd := rd_den (a := f.1 * s.2 + s.1 * f.2) (mul_pos1 hf hs)
  have hc := rd_cross (f.1 * s.2 + s.1 * f.2) (f.2 * s.2) (mul_pos1 hf hs)
  have hd' : 1 ≤ (plusR f s).2 * 2 := by unfold plusR; omega
  have hm := rd_den (a := (plusR f s).1 * 1) hd'
  have hx := rd_cross ((plusR f s).1 * 1) ((plusR f s).2 * 2) hd'
  have key : m.1 * 2 * (f.2 * s.2) = (f.1 * s.2 + s.1 * f.2) * m.2 := by
    change (plusR f s).1 * (f.2 * s.2) = (f.1 * s.2 + s.1 * f.2) * (plusR f s).2 at hc
    change m.1 * ((plusR f s).2 * 2) = (plusR f s).1 * 1 * m.2 at hx
    change 1 ≤ (plusR f s).2 at hd
    generalize (plusR f s).1 = p at *
    generalize (plusR f s).2 = q at *
    refine Int.eq_of_mul_eq_mul_right (a := q) (by omega) ?_
    grind
  have hm0 : 0 ≤ m.2 := by change 1 ≤ m.2 at hm; omega
  refine ⟨hm, ?_, ?_⟩
  · show f.1 * m.2 ≤ m.1 * f.2
    have h2 : f.1 * s.2 ≤ s.1 * f.2 := h
    have h3 := Int.mul_le_mul_of_nonneg_right h2 hm0
    refine Int.le_of_mul_le_mul_right (a := 2 * s.2) ?_ (by omega)
    have e1 : m.1 * f.2 * (2 * s.2) = m.1 * 2 * (f.2 * s.2) := by grind
    have e2 : f.1 * m.2 * (2 * s.2) = f.1 * s.2 * m.2 + f.1 * s.2 * m.2 := by grind
    have e3 : (f.1 * s.2 + s.1 * f.2) * m.2 = f.1 * s.2 * m.2 + s.1 * f.2 * m.2 := by grind
    omega
  · show m.1 * s.2 ≤ s.1 * m.2
    have h2 : f.1 * s.2 ≤ s.1 * f.2 := h
    have h3 := Int.mul_le_mul_of_nonneg_right h2 hm0
    refine Int.le_of_mul_le_mul_right (a := 2 * f.2) ?_ (by omega)
    have e1 : m.1 * s.2 * (2 * f.2) = m.1 * 2 * (f.2 * s.2) := by grind
    have e2 : s.1 * m.2 * (2 * f.2) = s.1 * f.2 * m.2 + s.1 * f.2 * m.2 := by grind
    have e3 : (f.1 * s.2 + s.1 * f.2) * m.2 = f.1 * s.2 * m.2 + s.1 * f.2 * m.2 := by grind
    omega
theorem mid_all (P : List Fr) (hn : 1 ≤ P.length) (hp : Pos P) (hs : P.Pairwise Le) (hr : ∀ x ∈ P, rd x.1 x.2 = x) :
    1 ≤ (mid P).2 ∧ P.countP (fun x => ltR x (mid P)) * 2 ≤ P.length ∧ P.countP (fun x => ltR (mid P) x) * 2 ≤ P.length ∧ (P.length % 2 = 1 → mid P ∈ P) := by
  have i1 : (P.length - 1) / 2 < P.length := by omega
  have i2 : P.length / 2 < P.length := by omega
  have hm : mid P = rd ((plusR P[(P.length - 1) / 2] P[P.length / 2]).1 * 1) ((plusR P[(P.length - 1) / 2] P[P.length / 2]).2 * 2) := by
    unfold mid
    simp [List.getD_eq_getElem?_getD, i1, i2]
  have sorted : ∀ (i j : Nat) (hi : i < P.length) (hj : j < P.length), i ≤ j → Le P[i] P[j] := fun i j hi hj hij => by
    by_cases e : i = j
    · subst e; exact Int.le_refl _
    · exact List.pairwise_iff_getElem.mp hs i j hi hj (by omega)
  have h12 := sorted _ _ i1 i2 (by omega)
  have p1 := hp _ (List.getElem_mem i1)
  have p2 := hp _ (List.getElem_mem i2)
  obtain ⟨m0, m1, m2⟩ := mid_le p1 p2 h12
  rw [← hm] at m0 m1 m2
  refine ⟨m0, ?_, ?_, fun hodd => ?_⟩
  · have := countP_le (fun x => ltR x (mid P)) P (P.length / 2) fun i x hx hk => by
      obtain ⟨hi, rfl⟩ := List.getElem?_eq_some_iff.mp hx
      exact ltR_not.mpr (le_trans' m0 p2 (hp _ (List.getElem_mem hi)) m2 (sorted _ _ i2 hi hk))
    omega
  · have := countP_ge (fun x => ltR (mid P) x) P ((P.length - 1) / 2 + 1) fun i x hx hk => by
      obtain ⟨hi, rfl⟩ := List.getElem?_eq_some_iff.mp hx
      exact ltR_not.mpr (le_trans' (hp _ (List.getElem_mem hi)) p1 m0 (sorted _ _ hi i1 (by omega)) m1)
    omega
  · have e : (P.length - 1) / 2 = P.length / 2 := by omega
    have hx : (mid P).1 * P[P.length / 2].2 = P[P.length / 2].1 * (mid P).2 := by
      simp only [e] at m1
      unfold Le at m1 m2
      omega
    have h1 : rd (mid P).1 (mid P).2 = mid P := by
      rw [hm]
      exact rd_idem _ _ (by have := rd_den (a := P[(P.length - 1) / 2].1 * P[P.length / 2].2 + P[P.length / 2].1 * P[(P.length - 1) / 2].2) (mul_pos1 p1 p2); unfold plusR; omega)
    have h2 := hr _ (List.getElem_mem i2)
    have h3 := rd_same m0 p2 hx
    rw [h1, h2] at h3
    rw [h3]
    exact List.getElem_mem i2
end K10

set_option Elab.async false
set_option linter.all false
set_option maxRecDepth 100000
set_option maxHeartbeats 4000000
namespace K10
open PySem PySem.Spec PyProof.Rows L2 J
theorem seq_ok {f g : SF} {ρ ρ' : En} {r : Rs Fl} (h1 : f ρ = .ok .nx ρ') (h2 : g ρ' = r) : sCons f g ρ = r := by rw [e_sCons, h1]; exact h2
/-- the slots of law -/
def En0 (S : D) (R wh be pa mi bel ab va a b c d one oth rows whole e k : Sl) : En := [.sh S, R, wh, be, pa, mi, bel, ab, va, a, b, c, d, one, oth, rows, whole, e, k]
theorem s1_ok (S : List Int) : law_s1 (En0 (.scr (S.map D.int)) .no .no .no .no .no .no .no .no .no .no .no .no .no .no .no .no .no .no) = .ok .nx (En0 (.scr (S.map D.int)) (.ow (encR S ⟨0, 61, 0⟩)) .no .no .no .no .no .no .no .no .no .no .no .no .no .no .no .no .no) := by
  simp [law_s1, En0, encR]
theorem s2_ok (S : List Int) (s : Dr) (hs : s.ok) : ∃ s' a b c d, s'.ok ∧ -60 ≤ a ∧ a ≤ 60 ∧ 1 ≤ b ∧ b ≤ 60 ∧ -60 ≤ c ∧ c ≤ 60 ∧ 1 ≤ d ∧ d ≤ 60 ∧
    law_s2 (En0 (.scr (S.map D.int)) (.ow (encR S s)) .no .no .no .no .no .no .no .no .no .no .no .no .no .no .no .no .no) = .ok .nx (En0 (.scr (S.map D.int)) (.ow (encR S s')) .no .no .no .no .no .no .no (.sh (.int a)) (.sh (.int b)) (.sh (.int c)) (.sh (.int d)) .no .no .no .no .no .no) := by
  obtain ⟨v1, s1, e1, o1, l1, u1⟩ := taken_ok S s hs 121 (by decide) (by decide)
  obtain ⟨v2, s2, e2, o2, l2, u2⟩ := taken_ok S s1 o1 60 (by decide) (by decide)
  obtain ⟨v3, s3, e3, o3, l3, u3⟩ := taken_ok S s2 o2 121 (by decide) (by decide)
  obtain ⟨v4, s4, e4, o4, l4, u4⟩ := taken_ok S s3 o3 60 (by decide) (by decide)
  refine ⟨s4, v1 - 60, 1 + v2, v3 - 60, 1 + v4, o4, by omega, by omega, by omega, by omega, by omega, by omega, by omega, by omega, ?_⟩
  simp [law_s2, En0, e_taken, e1, e2, e3, e4]
variable (S : D) (R : Sl) (a b c d : Int)
abbrev En1 (S : D) (R : Sl) (a b c d : Int) (wh be pa mi bel ab va one oth rows whole e k : Sl) : En := En0 S R wh be pa mi bel ab va (.sh (.int a)) (.sh (.int b)) (.sh (.int c)) (.sh (.int d)) one oth rows whole e k
theorem s3_ok (hb : 1 ≤ b ∧ b ≤ 60) (hd : 1 ≤ d ∧ d ≤ 60) : law_s3 (En1 S R a b c d .no .no .no .no .no .no .no .no .no .no .no .no .no) = .ok .nx (En1 S R a b c d .no .no .no .no .no .no .no (.sh (fr (rd a b))) (.sh (fr (rd c d))) .no .no .no .no) := by
  simp [law_s3, En0, reduced_ok a b hb.1 (by omega), reduced_ok c d hd.1 (by omega)]
theorem alk (x : D) (h : sz 6 x = true) : F__law_alike 6 [x, x] = .ok (.bl true) := by rw [e_alike]; exact alike_refl 6 x h
theorem s4_ok (hb : 1 ≤ b ∧ b ≤ 60) (hd : 1 ≤ d ∧ d ≤ 60) : law_s4 (En1 S R a b c d .no .no .no .no .no .no .no (.sh (fr (rd a b))) (.sh (fr (rd c d))) .no .no .no .no) = .ok .nx (En1 S R a b c d .no .no .no .no .no .no .no (.sh (fr (rd a b))) (.sh (fr (rd c d))) .no .no .no .no) := by
  have h1 := low_ok a b hb.1 (by omega)
  have h2 := low_ok c d hd.1 (by omega)
  have h3 := alk (.tup [fr (rd a b), fr (rd c d)]) rfl
  have p1 := rd_den (a := a) hb.1
  have p2 := rd_le (a := a) hb.1
  have h4 := isfr_ok (rd a b).1 (rd a b).2 p1 (by omega) (fr (rd a b)) (.inl rfl)
  rw [rd_idem a b hb.1] at h4
  have h5 := isfr_ok (a * 2) (b * 2) (by omega) (by omega) (.tup [.int (a * 2), .int (b * 2)]) (.inl rfl)
  rw [rd_scale a b 2 hb.1 (by decide)] at h5
  have h6 : ¬ rd a b = (a * 2, b * 2) := fun z => by rw [z] at p2; change b * 2 ≤ b at p2; omega
  simp [h6] at h5
  simp at h4
  simp [law_s4, En0, h1, h2, h3, h4, h5, cml (a := b) (b := 2) (by decide) (by decide), cmr (a := b) (b := 2) (by decide) (by decide), cmr (a := a) (b := 2) (by decide) (by decide)]
theorem rd_num (a b : Int) (hb : 1 ≤ b) : (rd a b).1.natAbs ≤ a.natAbs := by
  have h := (rd_eq a b hb).1
  have g := gc_pos (a := a) hb
  have e : a.natAbs = (rd a b).1.natAbs * gc a b := by
    conv => lhs; rw [h]
    rw [Int.natAbs_mul, Int.natAbs_natCast]
  rw [e]
  exact Nat.le_mul_of_pos_right _ g
theorem cms {a b : Int} (h : -1000 ≤ a ∧ a ≤ 1000) : CMul a b := .inl ⟨by omega, by omega⟩
theorem s5_ok (ha : -60 ≤ a ∧ a ≤ 60) (hc : -60 ≤ c ∧ c ≤ 60) (hb : 1 ≤ b ∧ b ≤ 60) (hd : 1 ≤ d ∧ d ≤ 60) : law_s5 (En1 S R a b c d .no .no .no .no .no .no .no (.sh (fr (rd a b))) (.sh (fr (rd c d))) .no .no .no .no) = .ok .nx (En1 S R a b c d .no .no .no .no .no .no .no (.sh (fr (rd a b))) (.sh (fr (rd c d))) .no .no .no .no) := by
  have p1 := rd_den (a := a) hb.1
  have p2 := rd_le (a := a) hb.1
  have p3 := rd_num a b hb.1
  have q1 := rd_den (a := c) hd.1
  have q2 := rd_le (a := c) hd.1
  have x1 := rd_cross a b hb.1
  have x2 := rd_cross c d hd.1
  have hbd : b * d ≤ 60 * 60 := Int.mul_le_mul hb.2 hd.2 (by omega) (by decide)
  have hpq : (rd a b).2 * (rd c d).2 ≤ 60 * 60 := Int.mul_le_mul (by omega) (by omega) (by omega) (by decide)
  have bd1 := mul_pos1 hb.1 hd.1
  have pq1 := mul_pos1 p1 q1
  have e1 := plus_ok (rd a b) (rd c d) p1 q1 (by omega)
  have e2 := minus_ok (rd a b) (rd c d) p1 q1 (by omega)
  have e3 := times_ok (rd a b) (rd c d) p1 q1 (by omega) (cms (by omega))
  have l1 := low_ok (a * d + c * b) (b * d) bd1 (by omega)
  have l2 := low_ok (a * d - c * b) (b * d) bd1 (by omega)
  have l3 := low_ok (a * c) (b * d) bd1 (by omega)
  have r1 : plusR (rd a b) (rd c d) = rd (a * d + c * b) (b * d) := rd_same pq1 bd1 (by
    generalize rd a b = p at *; generalize rd c d = q at *; grind)
  have r2 : rd ((rd a b).1 * (rd c d).2 - (rd c d).1 * (rd a b).2) ((rd a b).2 * (rd c d).2) = rd (a * d - c * b) (b * d) := rd_same pq1 bd1 (by
    generalize rd a b = p at *; generalize rd c d = q at *; grind)
  have r3 : rd ((rd a b).1 * (rd c d).1) ((rd a b).2 * (rd c d).2) = rd (a * c) (b * d) := rd_same pq1 bd1 (by
    generalize rd a b = p at *; generalize rd c d = q at *; grind)
  rw [r1] at e1; rw [r2] at e2; rw [r3] at e3
  have h3 := alk (.tup [fr (rd (a * d + c * b) (b * d)), fr (rd (a * d - c * b) (b * d)), fr (rd (a * c) (b * d))]) rfl
  simp [law_s5, En0, e1, e2, e3, l1, l2, l3, h3, cmr (a := a) (b := d) hd.1 (by omega), cmr (a := c) (b := b) hb.1 (by omega), cmr (a := b) (b := d) hd.1 (by omega), cms (a := a) (b := c) (by omega)]
theorem s6_ok (ha : -60 ≤ a ∧ a ≤ 60) (hc : -60 ≤ c ∧ c ≤ 60) (hb : 1 ≤ b ∧ b ≤ 60) (hd : 1 ≤ d ∧ d ≤ 60) : law_s6 (En1 S R a b c d .no .no .no .no .no .no .no (.sh (fr (rd a b))) (.sh (fr (rd c d))) .no .no .no .no) = .ok .nx (En1 S R a b c d .no .no .no .no .no .no .no (.sh (fr (rd a b))) (.sh (fr (rd c d))) .no .no .no .no) := by
  have p1 := rd_den (a := a) hb.1
  have p2 := rd_le (a := a) hb.1
  have q1 := rd_den (a := c) hd.1
  have q2 := rd_le (a := c) hd.1
  have q3 := rd_num c d hd.1
  have x1 := rd_cross a b hb.1
  have x2 := rd_cross c d hd.1
  have h1 := less_ok (rd a b) (rd c d) p1 q1 (by omega) (by omega)
  have hl : ltR (rd a b) (rd c d) = decide (a * d < c * b) := by
    rw [Bool.eq_iff_iff, ltR_iff, decide_eq_true_iff]
    have pos1 : 0 < b * d := by have := mul_pos1 hb.1 hd.1; omega
    have pos2 : 0 < (rd a b).2 * (rd c d).2 := by have := mul_pos1 p1 q1; omega
    unfold Lt
    generalize rd a b = p at *; generalize rd c d = q at *
    have e1 : p.1 * q.2 * (b * d) = a * d * (p.2 * q.2) := by grind
    have e2 : q.1 * p.2 * (b * d) = c * b * (p.2 * q.2) := by grind
    constructor
    · intro h
      have := Int.mul_lt_mul_of_pos_right h pos1
      exact Int.lt_of_mul_lt_mul_right (a := p.2 * q.2) (by omega) (by omega)
    · intro h
      have := Int.mul_lt_mul_of_pos_right h pos2
      exact Int.lt_of_mul_lt_mul_right (a := b * d) (by omega) (by omega)
  rw [hl] at h1
  have ht := truth_ok (decide (a * d < c * b))
  rw [← e_truth] at ht
  have m1 : CMul a d := cmr hd.1 (by omega)
  have m2 : CMul c b := cmr hb.1 (by omega)
  have m3 : CMul b c := cml hb.1 (by omega)
  by_cases h : 0 < c
  · have hn : 1 ≤ (rd c d).1 := by
      by_cases hz : 1 ≤ (rd c d).1
      · exact hz
      · have a1 : (rd c d).1 * d ≤ 0 := Int.mul_nonpos_of_nonpos_of_nonneg (by omega) (by omega)
        have a2 : 1 ≤ c * (rd c d).2 := mul_pos1 (by omega) q1
        omega
    have hbc : b * c ≤ 60 * 60 := Int.mul_le_mul hb.2 hc.2 (by omega) (by decide)
    have hpq : (rd a b).2 * (rd c d).1 ≤ 60 * 60 := Int.mul_le_mul (by omega) (by omega) (by omega) (by decide)
    have e1 := over_ok (rd a b) (rd c d) p1 q1 hn (by omega) (by omega) (by omega)
    have l1 := low_ok (a * d) (b * c) (mul_pos1 hb.1 (by omega)) (by omega)
    have r1 : rd ((rd a b).1 * (rd c d).2) ((rd a b).2 * (rd c d).1) = rd (a * d) (b * c) := rd_same (mul_pos1 p1 hn) (mul_pos1 hb.1 (by omega)) (by
      generalize rd a b = p at *; generalize rd c d = q at *; grind)
    rw [r1] at e1
    have h3 := alk (fr (rd (a * d) (b * c))) rfl
    simp [law_s6, En0, h, e1, l1, h3, m1, m2, m3, h1, ht]
  · simp [law_s6, En0, h, m1, m2, h1, ht]
/-! ### the wholes -/
def whL : List Int := (List.range 123).map fun i => -61 + (i : Nat)
theorem whL_mem {k : Int} : k ∈ whL ↔ -61 ≤ k ∧ k ≤ 61 := by
  unfold whL
  rw [List.mem_map]
  constructor
  · rintro ⟨i, hi, rfl⟩
    have := List.mem_range.mp hi
    omega
  · rintro ⟨h1, h2⟩
    exact ⟨(k + 61).toNat, List.mem_range.mpr (by omega), by omega⟩
theorem whD : rgD (.int (-61)) (.int 62) = some (.lst (whL.map D.int)) := by
  show (if rgOk (-61) 62 = true then some (D.lst (rangeL (-61) (62 - (-61) : Int).toNat)) else none) = _
  rw [if_pos (by decide)]
  unfold whL rangeL
  rw [List.map_map]
  rfl
theorem s7_ok : law_s7 (En1 S R a b c d .no .no .no .no .no .no .no (.sh (fr (rd a b))) (.sh (fr (rd c d))) .no .no .no .no) = .ok .nx (En1 S R a b c d (.sh (.lst (whL.map D.int))) .no .no .no .no .no .no (.sh (fr (rd a b))) (.sh (fr (rd c d))) .no .no .no .no) := by
  have h := whD
  simp [law_s7, En0, h]
theorem s8_ok (ha : -60 ≤ a ∧ a ≤ 60) (hb : 1 ≤ b ∧ b ≤ 60) : law_s8 (En1 S R a b c d (.sh (.lst (whL.map D.int))) .no .no .no .no .no .no (.sh (fr (rd a b))) (.sh (fr (rd c d))) .no .no .no .no) = .ok .nx (En1 S R a b c d (.sh (.lst (whL.map D.int))) .no .no .no (.sh (.int (a / b))) (.sh (.int (-(-a / b)))) .no (.sh (fr (rd a b))) (.sh (fr (rd c d))) .no .no .no .no) := by
  have cm : ∀ k : Int, CMul k b := fun k => cmr hb.1 (by omega)
  have L1 := lcS_all (b := bName 18) (vs := [18]) (t := law_t1) (f := law_e1) (ρ := En1 S R a b c d (.sh (.lst (whL.map D.int))) .no .no .no .no .no .no (.sh (fr (rd a b))) (.sh (fr (rd c d))) .no .no .no .no) (e := D.int) (q := fun k => if decide (k * b ≤ a) = true then [D.int k] else []) (l := whL) (acc := []) (fun k _ => by
    by_cases h : k * b ≤ a <;> simp [lcS, wipeE, rst, law_t1, law_e1, En0, cm, h])
  have L2 := lcS_all (b := bName 18) (vs := [18]) (t := law_t2) (f := law_e2) (ρ := En1 S R a b c d (.sh (.lst (whL.map D.int))) .no .no .no .no .no .no (.sh (fr (rd a b))) (.sh (fr (rd c d))) .no .no .no .no) (e := D.int) (q := fun k => if decide (a ≤ k * b) = true then [D.int k] else []) (l := whL) (acc := []) (fun k _ => by
    by_cases h : a ≤ k * b <;> simp [lcS, wipeE, rst, law_t2, law_e2, En0, cm, h])
  rw [List.nil_append, flat_filter] at L1 L2
  have hpos : 0 < b := by omega
  have q1 : a / b * b ≤ a := Int.ediv_mul_le _ (by omega)
  have q2 : a < (a / b + 1) * b := Int.lt_ediv_add_one_mul_self _ hpos
  have q3 : -a / b * b ≤ -a := Int.ediv_mul_le _ (by omega)
  have q4 : -a < (-a / b + 1) * b := Int.lt_ediv_add_one_mul_self _ hpos
  have m1 : maxL (whL.filter fun k => decide (k * b ≤ a)) = some (a / b) := maxL_is (by
    rw [List.mem_filter, whL_mem]
    refine ⟨⟨?_, ?_⟩, by simpa using q1⟩
    · have : -61 ≤ a / b := Int.le_ediv_of_mul_le hpos (by omega)
      omega
    · have : a / b < 62 := Int.ediv_lt_of_lt_mul hpos (by omega)
      omega) fun x hx => by
    rw [List.mem_filter] at hx
    have h := of_decide_eq_true hx.2
    exact Int.le_ediv_of_mul_le hpos h
  have m2 : minL (whL.filter fun k => decide (a ≤ k * b)) = some (-(-a / b)) := minL_is (by
    rw [List.mem_filter, whL_mem]
    refine ⟨⟨?_, ?_⟩, by
      have e : -(-a / b) * b = -(-a / b * b) := Int.neg_mul _ _
      simp only [decide_eq_true_eq]
      omega⟩
    · have : -a / b < 62 := Int.ediv_lt_of_lt_mul hpos (by omega)
      omega
    · have : -61 ≤ -a / b := Int.le_ediv_of_mul_le hpos (by omega)
      omega) fun x hx => by
    rw [List.mem_filter] at hx
    have h := of_decide_eq_true hx.2
    have : -x ≤ -a / b := Int.le_ediv_of_mul_le hpos (by rw [Int.neg_mul]; omega)
    omega
  simp [En0] at L1 L2
  simp [law_s8, En0, noOw, L1, L2, maxD_ints, minD_ints, m1, m2]
end K10

set_option Elab.async false
set_option linter.all false
set_option maxRecDepth 100000
set_option maxHeartbeats 4000000
namespace K10
open PySem PySem.Spec PyProof.Rows L2 J
variable (S : D) (R : Sl) (a b c d : Int)
abbrev W0 : Sl := .sh (.lst (whL.map D.int))
theorem s9_ok (x y : Sl) (ha : -60 ≤ a ∧ a ≤ 60) (hb : 1 ≤ b ∧ b ≤ 60) : law_s9 (En1 S R a b c d W0 .no .no .no x y .no (.sh (fr (rd a b))) (.sh (fr (rd c d))) .no .no .no .no) = .ok .nx (En1 S R a b c d W0 (.sh (.int ((2 * a + b) / (2 * b)))) .no .no x y .no (.sh (fr (rd a b))) (.sh (fr (rd c d))) .no .no .no .no) := by
  have cm : ∀ k : Int, CMul k b := fun k => cmr hb.1 (by omega)
  have c2 : ∀ k : Int, CMul 2 k := fun k => cml (by decide) (by decide)
  have L1 := lcS_all (b := bName 18) (vs := [18]) (t := law_t3) (f := law_e3) (ρ := En1 S R a b c d W0 .no .no .no x y .no (.sh (fr (rd a b))) (.sh (fr (rd c d))) .no .no .no .no) (e := D.int) (q := fun k => if decide ((2 * k - 1) * b ≤ 2 * a) = true then [D.int k] else []) (l := whL) (acc := []) (fun k _ => by
    by_cases h : (2 * k - 1) * b ≤ 2 * a <;> simp [lcS, wipeE, rst, law_t3, law_e3, En0, cm, c2, h])
  rw [List.nil_append, flat_filter] at L1
  have hpos : 0 < 2 * b := by omega
  have q1 : (2 * a + b) / (2 * b) * (2 * b) ≤ 2 * a + b := Int.ediv_mul_le _ (by omega)
  have iff1 : ∀ k : Int, (2 * k - 1) * b ≤ 2 * a ↔ k * (2 * b) ≤ 2 * a + b := fun k => by
    have e : (2 * k - 1) * b = k * (2 * b) - b := by grind
    omega
  have m1 : maxL (whL.filter fun k => decide ((2 * k - 1) * b ≤ 2 * a)) = some ((2 * a + b) / (2 * b)) := maxL_is (by
    rw [List.mem_filter, whL_mem]
    refine ⟨⟨?_, ?_⟩, by rw [decide_eq_true_iff, iff1]; exact q1⟩
    · exact Int.le_ediv_of_mul_le hpos (by omega)
    · have : (2 * a + b) / (2 * b) < 62 := Int.ediv_lt_of_lt_mul hpos (by omega)
      omega) fun z hz => by
    rw [List.mem_filter] at hz
    exact Int.le_ediv_of_mul_le hpos ((iff1 z).mp (of_decide_eq_true hz.2))
  simp [En0] at L1
  simp [law_s9, En0, noOw, L1, maxD_ints, m1]
theorem quots {p q g a b : Int} (h1 : a = p * g) (h2 : b = q * g) (hg : 0 < g) : p / q = a / b ∧ -p / q = -a / b ∧ (2 * p + q) / (2 * q) = (2 * a + b) / (2 * b) := by
  subst h1; subst h2
  refine ⟨(Int.mul_ediv_mul_of_pos_left _ _ hg).symm, ?_, ?_⟩
  · rw [← Int.neg_mul, Int.mul_ediv_mul_of_pos_left _ _ hg]
  · rw [show 2 * (p * g) + q * g = (2 * p + q) * g by grind, show 2 * (q * g) = 2 * q * g by grind, Int.mul_ediv_mul_of_pos_left _ _ hg]
theorem s10_ok (hb : 1 ≤ b ∧ b ≤ 60) : law_s10 (En1 S R a b c d W0 (.sh (.int ((2 * a + b) / (2 * b)))) .no .no (.sh (.int (a / b))) (.sh (.int (-(-a / b)))) .no (.sh (fr (rd a b))) (.sh (fr (rd c d))) .no .no .no .no) = .ok .nx (En1 S R a b c d W0 (.sh (.int ((2 * a + b) / (2 * b)))) .no .no (.sh (.int (a / b))) (.sh (.int (-(-a / b)))) .no (.sh (fr (rd a b))) (.sh (fr (rd c d))) .no .no .no .no) := by
  have p1 := rd_den (a := a) hb.1
  have p2 := rd_le (a := a) hb.1
  have e1 := floor_ok (rd a b) p1 (by omega)
  have e2 := ceil_ok (rd a b) p1 (by omega)
  have e3 := near_ok (rd a b) p1 (by omega)
  obtain ⟨h1, h2⟩ := rd_eq a b hb.1
  have g : 0 < (gc a b : Int) := by have := gc_pos (a := a) hb.1; omega
  obtain ⟨k1, k2, k3⟩ := quots h1 h2 g
  rw [k1] at e1; rw [k2] at e2; rw [k3] at e3
  have h3 := alk (.tup [.int (a / b), .int (-(-a / b)), .int ((2 * a + b) / (2 * b))]) rfl
  simp [law_s10, En0, e1, e2, e3, h3]
structure Row1 (x : Fr) : Prop where
  d1 : 1 ≤ x.2
  d2 : x.2 ≤ 6
  rd : K10.rd x.1 x.2 = x
theorem s11_ok (S : List Int) (s : Dr) (hs : s.ok) (wh be x y : Sl) (one oth : Fr) : ∃ s' rows, s'.ok ∧ rows.length ≤ 4 ∧ (∀ x ∈ rows, Row1 x) ∧
    law_s11 (En1 (.scr (S.map D.int)) (.ow (encR S s)) a b c d wh be .no .no x y .no (.sh (fr one)) (.sh (fr oth)) .no .no .no .no) = .ok .nx (En1 (.scr (S.map D.int)) (.ow (encR S s')) a b c d wh be .no .no x y .no (.sh (fr one)) (.sh (fr oth)) (.sh (.lst ((one :: oth :: rows).map fr))) (.sh (fr (0, 1))) .no .no) := by
  obtain ⟨v, s1, e1, o1, l1, u1⟩ := taken_ok S s hs 5 (by decide) (by decide)
  obtain ⟨s2, ys, e2, o2, l2, h2⟩ := lcS_run1 (b := bName 18) (vs := [18]) (t := tYesJ) (f := law_e4) (enc := fun s => En1 (.scr (S.map D.int)) (.ow (encR S s)) a b c d wh be .no .no x y .no (.sh (fr one)) (.sh (fr oth)) .no .no .no .no) (e := fun i : Nat => D.int (i : Nat)) Dr.ok (fun _ y => ∃ x, y = fr x ∧ Row1 x) (l := List.range v.toNat) (acc := []) o1 (fun k _ s hs => by
    obtain ⟨v1, s1, e1, o1, l1, u1⟩ := taken_ok S s hs 40 (by decide) (by decide)
    obtain ⟨v2, s2, e2, o2, l2, u2⟩ := taken_ok S s1 o1 6 (by decide) (by decide)
    have hr := reduced_ok (v1 - 20) (1 + v2) (by omega) (by omega)
    refine ⟨s2, fr (rd (v1 - 20) (1 + v2)), ?_, o2, rd (v1 - 20) (1 + v2), rfl, rd_den (by omega), ?_, rd_idem _ _ (by omega)⟩
    · simp [lcS, wipeE, rst, law_e4, En0, e_taken, e1, e2, hr]
    · have := rd_le (a := v1 - 20) (b := 1 + v2) (by omega); omega)
  obtain ⟨rows, rfl, hrow⟩ := all_map (fun y hy => by obtain ⟨_, _, q⟩ := h2 y hy; exact q)
  rw [List.length_map, List.length_range] at l2
  have hv := rng1_nat v.toNat (by omega)
  rw [show ((v.toNat : Nat) : Int) = v by omega] at hv
  refine ⟨s2, rows, o2, by omega, hrow, ?_⟩
  have ha := add_ll [fr one, fr oth] (rows.map fr) (by simp; omega)
  simp [En0] at e2
  simp [law_s11, En0, e_taken, e1, hv, noOw, e2, ha]
  rfl
end K10

set_option Elab.async false
set_option linter.all false
set_option maxRecDepth 100000
set_option maxHeartbeats 4000000
namespace K10
open PySem PySem.Spec PyProof.Rows L2 J
variable (S : D) (R : Sl) (a b c d : Int) (be x y : Sl) (one oth : Fr)
abbrev En2 (S : D) (R : Sl) (a b c d : Int) (be x y : Sl) (one oth : Fr) (rows : List Fr) (pa mi va whole e : Sl) : En := En1 S R a b c d W0 be pa mi x y va (.sh (fr one)) (.sh (fr oth)) (.sh (.lst (rows.map fr))) whole e .no
theorem s12_ok (rows : List Fr) (Rw : Rows rows) : ∃ pa, law_s12 (En2 S R a b c d be x y one oth rows .no .no .no (.sh (fr (0, 1))) .no) = .ok .nx (En2 S R a b c d be x y one oth rows (.sh pa) .no .no (.sh (fr (sumR rows))) .no) ∨ rows = [] := by
  obtain ⟨ρ, e, f, o, rfl, hf, h1, h2, h3⟩ := forS_inv (b := bName 4) (body := law_b1) (e := fr) (fun k ρ => ∃ (f : Fr) (o : Sl), ρ = En2 S R a b c d be x y one oth rows o .no .no (.sh (fr f)) .no ∧ f = (rows.take k).foldl plusR (0, 1) ∧ 1 ≤ f.2 ∧ f.2 ≤ bd k ∧ (k = 0 ∨ ∃ pa, o = .sh pa))
    (l := rows) (k := 0) (ρ := En2 S R a b c d be x y one oth rows .no .no .no (.sh (fr (0, 1))) .no) ⟨(0, 1), .no, rfl, rfl, by decide, by decide, .inl rfl⟩ (by
      rintro i x1 ρ hi ⟨f, o, rfl, hf, h1, h2, h3⟩
      simp only [Nat.zero_add] at *
      obtain ⟨k1, k2, k3, k4⟩ := bd_step Rw hi h1 h2
      refine ⟨_, ?_, plusR f x1, .sh (fr x1), rfl, ?_, k3, k4, .inr ⟨_, rfl⟩⟩
      · have hl := low_ok (f.1 * x1.2 + x1.1 * f.2) (f.2 * x1.2) (mul_pos1 h1 k1) (by omega)
        obtain ⟨l1, l2⟩ := le_mul1 h1 k1
        simp [fr] at hl
        simp [forS_cons, law_b1, En0, fr, hl, cmr (a := f.1) (b := x1.2) k1 (by omega), cmr (a := x1.1) (b := f.2) h1 (by omega), cmr (a := f.2) (b := x1.2) k1 (by omega), plusR]
      · rw [List.take_add_one, hi, List.foldl_append, ← hf]; rfl)
  simp only [Nat.zero_add, List.take_length] at hf h3
  rcases h3 with h3 | ⟨pa, rfl⟩
  · exact ⟨.non, .inr (List.eq_nil_of_length_eq_zero h3)⟩
  · refine ⟨pa, .inl ?_⟩
    simp [En0, fr] at e
    simp [law_s12, En0, fr, e, hf, sumR]
theorem s13_ok (rows : List Fr) (Rw : Rows rows) (pa : Sl) : law_s13 (En2 S R a b c d be x y one oth rows pa .no .no (.sh (fr (sumR rows))) .no) = .ok .nx (En2 S R a b c d be x y one oth rows pa .no .no (.sh (fr (sumR rows))) .no) := by
  have e := total_ok rows Rw
  have h := alk (fr (sumR rows)) rfl
  simp [law_s13, En0, e, h]
theorem s14_ok (r0 : Fr) (rest : List Fr) (hs : Small (r0 :: rest)) (hl : (r0 :: rest).length ≤ 100) (pa wl : Sl) : law_s14 (En2 S R a b c d be x y one oth (r0 :: rest) pa .no .no wl .no) = .ok .nx (En2 S R a b c d be x y one oth (r0 :: rest) pa (.sh (fr (mid (pile r0 rest)))) .no wl .no) := by
  have e := median_ok r0 rest hs hl
  simp at e
  simp [law_s14, En0, e]
theorem s15_ok (rows : List Fr) (hs : Small rows) (m : Fr) (hm : 1 ≤ m.2 ∧ m.2 ≤ 10000) (pa : D) (wl : Sl) : law_s15 (En2 S R a b c d be x y one oth rows (.sh pa) (.sh (fr m)) .no wl .no) = .ok .nx (En2 S R a b c d be (.sh (.int (rows.countP (fun z => ltR z m) : Nat))) y one oth rows (.sh pa) (.sh (fr m)) .no wl .no) := by
  have L := lcS_all (b := bName 4) (vs := [4]) (t := law_t4) (f := law_e5) (ρ := En2 S R a b c d be x y one oth rows (.sh pa) (.sh (fr m)) .no wl .no) (e := fr) (q := fun z => if ltR z m = true then [D.int 1] else []) (l := rows) (acc := []) (fun z hz => by
    obtain ⟨z1, z2⟩ := hs z hz
    have c1 : CMul z.1 m.2 := cmr hm.1 (by omega)
    have c2 : CMul m.1 z.2 := cmr z1 (by omega)
    cases e3 : ltR z m <;> (unfold ltR at e3; simp at e3; simp [lcS, wipeE, rst, law_t4, law_e5, En0, fr, c1, c2, e3]))
  have hl := flat_len2 (fun z => ltR z m) (fun _ => D.int 1) rows
  rw [List.nil_append] at L
  simp [En0] at L
  simp [law_s15, En0, noOw, L, hl]
theorem s16_ok (rows : List Fr) (hs : Small rows) (m : Fr) (hm : 1 ≤ m.2 ∧ m.2 ≤ 10000) (pa : D) (wl : Sl) : law_s16 (En2 S R a b c d be x y one oth rows (.sh pa) (.sh (fr m)) .no wl .no) = .ok .nx (En2 S R a b c d be x (.sh (.int (rows.countP (fun z => ltR m z) : Nat))) one oth rows (.sh pa) (.sh (fr m)) .no wl .no) := by
  have L := lcS_all (b := bName 4) (vs := [4]) (t := law_t5) (f := law_e6) (ρ := En2 S R a b c d be x y one oth rows (.sh pa) (.sh (fr m)) .no wl .no) (e := fr) (q := fun z => if ltR m z = true then [D.int 1] else []) (l := rows) (acc := []) (fun z hz => by
    obtain ⟨z1, z2⟩ := hs z hz
    have c1 : CMul z.1 m.2 := cmr hm.1 (by omega)
    have c2 : CMul m.1 z.2 := cmr z1 (by omega)
    cases e3 : ltR m z <;> (unfold ltR at e3; simp at e3; simp [lcS, wipeE, rst, law_t5, law_e6, En0, fr, c1, c2, e3]))
  have hl := flat_len2 (fun z => ltR m z) (fun _ => D.int 1) rows
  rw [List.nil_append] at L
  simp [En0] at L
  simp [law_s16, En0, noOw, L, hl]
theorem okEs_fr : ∀ rows : List Fr, okEs 59 (rows.map fr) = true
  | [] => rfl
  | r :: rows => by simp [okEs, okE, fr]; exact okEs_fr rows
theorem s17_ok (rows : List Fr) (m : Fr) (n1 n2 : Nat) (h1 : n1 * 2 ≤ rows.length) (h2 : n2 * 2 ≤ rows.length) (h3 : rows.length % 2 = 1 → m ∈ rows) (pa wl : Sl) : law_s17 (En2 S R a b c d be (.sh (.int n1)) (.sh (.int n2)) one oth rows pa (.sh (fr m)) .no wl .no) = .ok .nx (En2 S R a b c d be (.sh (.int n1)) (.sh (.int n2)) one oth rows pa (.sh (fr m)) .no wl .no) := by
  have c2 : ∀ k : Int, CMul 2 k := fun k => cml (by decide) (by decide)
  have k1 : ¬ ((rows.length : Int) < 2 * n1) := by omega
  have k2 : ¬ ((rows.length : Int) < 2 * n2) := by omega
  have ok := okEs_fr rows
  have km : (rows.length : Int).fmod 2 = ((rows.length % 2 : Nat) : Int) := fm _ 2
  by_cases ho : rows.length % 2 = 1
  · have hm : ((rows.map fr).any fun z => eqv z (fr m)) = true := by
      rw [List.any_eq_true]
      exact ⟨fr m, List.mem_map_of_mem (h3 ho), by simp [fr, eqv, eqvs]⟩
    have okm : okE 60 (fr m) = true := rfl
    simp [law_s17, En0, c2, k1, k2, km, ho, eqD, okE, eqv, inD, okEs, ok, hm, okm]
  · have ho' : rows.length % 2 = 0 := by omega
    simp [law_s17, En0, c2, k1, k2, km, ho', eqD, okE, eqv]
end K10

set_option Elab.async false
set_option linter.all false
set_option maxRecDepth 100000
set_option maxHeartbeats 4000000
namespace K10
open PySem PySem.Spec PyProof.Rows L2 J
variable (S : D) (r be x y pa mi wl : D) (a b c d : Int) (one oth : Fr) (rows : List Fr)
def slv : Option D → Sl
  | none => .no
  | some d => .sh d
abbrev En3 (va : Option D) : En := En2 S (.ow r) a b c d (.sh be) (.sh x) (.sh y) one oth rows (.sh pa) (.sh mi) (slv va) (.sh wl) .no
theorem turn_ok (v : D) (h1 : F_is_fraction [v] = .ok (.bl false)) (h3 : reprOk v = true) (va : Option D) : forS (bName 8) law_b2 [v] (En3 S r be x y pa mi wl a b c d one oth rows va) = .ok .nx (En3 S r be x y pa mi wl a b c d one oth rows (some v)) := by
  have h2 : F_want_fraction [v] = .ex 0 [0] [v] := by simp [F_want_fraction, b_want_fraction, h1]
  simp [forS_cons, law_b2, law_y1, law_x1, En0, h1, h2, h3, hd_BadNumber, noEx, isEx, okX, fget, slv]
theorem turns : ∀ (ds : List D), (∀ v ∈ ds, F_is_fraction [v] = .ok (.bl false) ∧ reprOk v = true) → ∀ va : Option D, ∃ va', forS (bName 8) law_b2 ds (En3 S r be x y pa mi wl a b c d one oth rows va) = .ok .nx (En3 S r be x y pa mi wl a b c d one oth rows va')
  | [], _, va => ⟨va, rfl⟩
  | v :: ds, h, va => by
    obtain ⟨h1, h2⟩ := h v List.mem_cons_self
    obtain ⟨va', e⟩ := turns ds (fun u hu => h u (List.mem_cons_of_mem _ hu)) (some v)
    exact ⟨va', by rw [forS_step, turn_ok S r be x y pa mi wl a b c d one oth rows v h1 h2 va, Rs.sq_nx, e]⟩
def consts : List D := [.non, .tup [.int 1, .int 0], .tup [.int 2, .int 4], .tup [.int 0, .int 2], .tup [.int 1], .tup [.bl true, .int 2], .lst [.int 1, .int 2, .int 3], .int 5, .tup [.int 1, .int (-1)]]
theorem consts_ok : ∀ v ∈ consts, F_is_fraction [v] = .ok (.bl false) ∧ reprOk v = true := by
  have k1 := isfr_ok 2 4 (by decide) (by decide) _ (.inl rfl)
  have k2 := isfr_ok 0 2 (by decide) (by decide) _ (.inl rfl)
  have e1 : decide (rd 2 4 = (2, 4)) = false := by decide
  have e2 : decide (rd 0 2 = (0, 2)) = false := by decide
  rw [e1] at k1
  rw [e2] at k2
  intro v hv
  simp only [consts, List.mem_cons, List.not_mem_nil, or_false] at hv
  rcases hv with rfl | rfl | rfl | rfl | rfl | rfl | rfl | rfl | rfl
  · exact ⟨by simp [F_is_fraction, b_is_fraction, F_is_row, b_is_row], by decide +kernel⟩
  · exact ⟨by simp [F_is_fraction, b_is_fraction, F_is_row, b_is_row, F_is_whole, b_is_whole, neD, okE, eqv], by decide +kernel⟩
  · exact ⟨k1, by decide +kernel⟩
  · exact ⟨k2, by decide +kernel⟩
  · exact ⟨by simp [F_is_fraction, b_is_fraction, F_is_row, b_is_row, F_is_whole, b_is_whole, neD, okE, eqv], by decide +kernel⟩
  · exact ⟨by simp [F_is_fraction, b_is_fraction, F_is_row, b_is_row, F_is_whole, b_is_whole, neD, okE, eqv], by decide +kernel⟩
  · exact ⟨by simp [F_is_fraction, b_is_fraction, F_is_row, b_is_row, F_is_whole, b_is_whole, neD, okE, eqv], by decide +kernel⟩
  · exact ⟨by simp [F_is_fraction, b_is_fraction, F_is_row, b_is_row], by decide +kernel⟩
  · exact ⟨by simp [F_is_fraction, b_is_fraction, F_is_row, b_is_row, F_is_whole, b_is_whole, neD, okE, eqv], by decide +kernel⟩
theorem s18_ok : ∃ va, law_s18 (En3 S r be x y pa mi wl a b c d one oth rows none) = .ok .nx (En3 S r be x y pa mi wl a b c d one oth rows va) := by
  obtain ⟨va, e⟩ := turns S r be x y pa mi wl a b c d one oth rows consts consts_ok none
  refine ⟨va, ?_⟩
  simp [En0, consts] at e
  simp [law_s18, En0, e]
theorem s19_ok (h1 : 1 ≤ one.2 ∧ one.2 ≤ 60) (h2 : rd one.1 one.2 = one) (va : Option D) : law_s19 (En3 S r be x y pa mi wl a b c d one oth rows va) = .ok (.rt (.bl true)) (En3 S r be x y pa mi wl a b c d one oth rows va) := by
  have k1 := isfr_ok one.1 one.2 h1.1 (by omega) (.lst [.int one.1, .int one.2]) (.inr rfl)
  rw [h2] at k1
  simp at k1
  have k2 : F_want_fraction [.lst [.int one.1, .int one.2]] = .ok (fr one) := by simp [F_want_fraction, b_want_fraction, k1, fr]
  have k3 := alk (fr one) rfl
  simp [law_s19, En0, fr] at k2 k3 ⊢
  simp [k2, k3]
theorem mid_den (P : List Fr) (hn : 1 ≤ P.length) (hs : Small P) : (mid P).2 ≤ 10000 := by
  have i1 : (P.length - 1) / 2 < P.length := by omega
  have i2 : P.length / 2 < P.length := by omega
  have hm : mid P = rd ((plusR P[(P.length - 1) / 2] P[P.length / 2]).1 * 1) ((plusR P[(P.length - 1) / 2] P[P.length / 2]).2 * 2) := by
    unfold mid
    simp [List.getD_eq_getElem?_getD, i1, i2]
  have a1 := hs _ (List.getElem_mem i1)
  have a2 := hs _ (List.getElem_mem i2)
  have l1 : P[(P.length - 1) / 2].2 * P[P.length / 2].2 ≤ 60 * 60 := Int.mul_le_mul a1.2 a2.2 (by omega) (by decide)
  have d1 := rd_den (a := P[(P.length - 1) / 2].1 * P[P.length / 2].2 + P[P.length / 2].1 * P[(P.length - 1) / 2].2) (mul_pos1 a1.1 a2.1)
  have d2 := rd_le (a := P[(P.length - 1) / 2].1 * P[P.length / 2].2 + P[P.length / 2].1 * P[(P.length - 1) / 2].2) (mul_pos1 a1.1 a2.1)
  have d3 := rd_le (a := (plusR P[(P.length - 1) / 2] P[P.length / 2]).1 * 1) (b := (plusR P[(P.length - 1) / 2] P[P.length / 2]).2 * 2) (by unfold plusR; omega)
  rw [hm]
  unfold plusR at d3 ⊢
  omega
theorem law_math : ∀ ns : List Int, ns.length ≤ 63 → F_law [.scr (ns.map D.int)] = .ok (.bl true) := by
  intro ns _
  have ok0 : Dr.ok ⟨0, 61, 0⟩ := ⟨by decide, by decide, by decide, by decide⟩
  obtain ⟨d1, a, b, c, d, o1, a1, a2, b1, b2, c1, c2, dd1, dd2, e2⟩ := s2_ok ns ⟨0, 61, 0⟩ ok0
  have ha : -60 ≤ a ∧ a ≤ 60 := ⟨a1, a2⟩
  have hb : 1 ≤ b ∧ b ≤ 60 := ⟨b1, b2⟩
  have hc : -60 ≤ c ∧ c ≤ 60 := ⟨c1, c2⟩
  have hd : 1 ≤ d ∧ d ≤ 60 := ⟨dd1, dd2⟩
  have p1 := rd_den (a := a) hb.1
  have p2 := rd_le (a := a) hb.1
  have q1 := rd_den (a := c) hd.1
  have q2 := rd_le (a := c) hd.1
  have pi := rd_idem a b hb.1
  have qi := rd_idem c d hd.1
  obtain ⟨d2, rows, o2, hl, hrow, e11⟩ := s11_ok a b c d ns d1 o1 W0 (.sh (.int ((2 * a + b) / (2 * b)))) (.sh (.int (a / b))) (.sh (.int (-(-a / b)))) (rd a b) (rd c d)
  generalize hone : rd a b = one at *
  generalize hoth : rd c d = oth at *
  have hat : ∀ (i : Nat) (z : Fr), (one :: oth :: rows)[i]? = some z → 1 ≤ z.2 ∧ z.2 ≤ 60 ∧ (2 ≤ i → z.2 ≤ 6) ∧ rd z.1 z.2 = z := fun i z hz => by
    match i, hz with
    | 0, hz => cases hz; exact ⟨p1, by omega, fun h => by omega, pi⟩
    | 1, hz => cases hz; exact ⟨q1, by omega, fun h => by omega, qi⟩
    | i + 2, hz =>
      have := hrow z (List.mem_of_getElem? (by simpa using hz))
      exact ⟨this.d1, by have := this.d2; omega, fun _ => this.d2, this.rd⟩
  have hRw : Rows (one :: oth :: rows) := ⟨by simp; omega, fun i z hz => ⟨(hat i z hz).1, (hat i z hz).2.1, (hat i z hz).2.2.1⟩⟩
  have hmem : ∀ z ∈ one :: oth :: rows, 1 ≤ z.2 ∧ z.2 ≤ 60 ∧ rd z.1 z.2 = z := fun z hz => by
    obtain ⟨i, hi⟩ := List.mem_iff_getElem?.mp hz
    exact ⟨(hat i z hi).1, (hat i z hi).2.1, (hat i z hi).2.2.2⟩
  have hSm : Small (one :: oth :: rows) := fun z hz => ⟨(hmem z hz).1, (hmem z hz).2.1⟩
  obtain ⟨pm, ps⟩ := pile_ok one p1 (oth :: rows) fun z hz => (hmem z (List.mem_cons_of_mem _ hz)).1
  have hlen := pm.length_eq
  obtain ⟨m0, m1, m2, m3⟩ := mid_all (pile one (oth :: rows)) (by rw [hlen]; simp) (fun z hz => (hmem z (pm.mem_iff.mp hz)).1) ps fun z hz => (hmem z (pm.mem_iff.mp hz)).2.2
  rw [pm.countP_eq, hlen] at m1 m2
  rw [hlen] at m3
  have hmid : (mid (pile one (oth :: rows))).2 ≤ 10000 := mid_den _ (by rw [hlen]; simp) fun z hz => ⟨(hmem z (pm.mem_iff.mp hz)).1, (hmem z (pm.mem_iff.mp hz)).2.1⟩
  obtain ⟨pa, e12⟩ := s12_ok (.scr (ns.map D.int)) (.ow (encR ns d2)) a b c d (.sh (.int ((2 * a + b) / (2 * b)))) (.sh (.int (a / b))) (.sh (.int (-(-a / b)))) one oth (one :: oth :: rows) hRw
  have e12 := e12.resolve_right (by simp)
  obtain ⟨va, e18⟩ := s18_ok (.scr (ns.map D.int)) (encR ns d2) (.int ((2 * a + b) / (2 * b))) (.int ((one :: oth :: rows).countP (fun z => ltR z (mid (pile one (oth :: rows)))) : Nat)) (.int ((one :: oth :: rows).countP (fun z => ltR (mid (pile one (oth :: rows))) z) : Nat)) pa (fr (mid (pile one (oth :: rows)))) (fr (sumR (one :: oth :: rows))) a b c d one oth (one :: oth :: rows)
  have main : b_law (En0 (.scr (ns.map D.int)) .no .no .no .no .no .no .no .no .no .no .no .no .no .no .no .no .no .no) = .ok (.rt (.bl true)) _ :=
    seq_ok (s1_ok ns) <| seq_ok e2 <| seq_ok (s3_ok _ _ a b c d hb hd) <| seq_ok (s4_ok _ _ a b c d hb hd) <| seq_ok (s5_ok _ _ a b c d ha hc hb hd) <| seq_ok (s6_ok _ _ a b c d ha hc hb hd) <|
    seq_ok (s7_ok _ _ a b c d) <| seq_ok (s8_ok _ _ a b c d ha hb) <| seq_ok (s9_ok _ _ a b c d _ _ ha hb) <| seq_ok (s10_ok _ _ a b c d hb) <| by
    rw [hone, hoth]
    exact seq_ok e11 <| seq_ok e12 <| seq_ok (s13_ok _ _ a b c d _ _ _ one oth (one :: oth :: rows) hRw _) <| seq_ok (s14_ok _ _ a b c d _ _ _ one oth one (oth :: rows) hSm (by simp; omega) _ _) <|
      seq_ok (s15_ok _ _ a b c d _ _ _ one oth (one :: oth :: rows) hSm _ ⟨m0, hmid⟩ pa _) <| seq_ok (s16_ok _ _ a b c d _ _ _ one oth (one :: oth :: rows) hSm _ ⟨m0, hmid⟩ pa _) <|
      seq_ok (s17_ok _ _ a b c d _ one oth (one :: oth :: rows) _ _ _ m1 m2 (fun ho => pm.mem_iff.mp (m3 ho)) _ _) <| seq_ok e18 <| s19_ok _ _ _ _ _ _ _ _ a b c d one oth _ ⟨p1, by omega⟩ pi va
  show fnV 18 b_law [.scr (ns.map D.int)] = _
  rw [e_fnV]
  show toV (b_law (En0 (.scr (ns.map D.int)) .no .no .no .no .no .no .no .no .no .no .no .no .no .no .no .no .no .no)) = _
  rw [main]
  rfl
end K10

set_option Elab.async false
set_option linter.all false
set_option maxRecDepth 100000
set_option maxHeartbeats 4000000
namespace K10
open PySem PySem.Spec PyProof.Rows L2 J
abbrev s_BadNumber : Stmt := inClass (top 2) 0
set_option maxHeartbeats 8000000 in
theorem all_mk {P : Program} {w : World} {K : PySem.W.Frag} {h : Heap} {mg : Str → Option Value} {fa : Addr} (X : K.In h) (G : h.Ns mainGlobals mg) (hfa : mg "law" = some (.ref fa)) (tp : (P.main.scope.names.lookup ("super" : Str)).isSome = false)
    {f_reduced : Addr} {od_reduced an_reduced : Option Addr} {sl_reduced : Array (Option Value)} {oc_reduced kV_reduced dc_reduced pm_reduced cd_reduced ct_reduced : Value}
    {f_times : Addr} {od_times an_times : Option Addr} {sl_times : Array (Option Value)} {oc_times kV_times dc_times pm_times cd_times ct_times : Value}
    {f_plus : Addr} {od_plus an_plus : Option Addr} {sl_plus : Array (Option Value)} {oc_plus kV_plus dc_plus pm_plus cd_plus ct_plus : Value}
    {f_is_less : Addr} {od_is_less an_is_less : Option Addr} {sl_is_less : Array (Option Value)} {oc_is_less kV_is_less dc_is_less pm_is_less cd_is_less ct_is_less : Value}
    {f_median : Addr} {od_median an_median : Option Addr} {sl_median : Array (Option Value)} {oc_median kV_median dc_median pm_median cd_median ct_median : Value}
    {f__law_alike : Addr} {od__law_alike an__law_alike : Option Addr} {sl__law_alike : Array (Option Value)} {oc__law_alike kV__law_alike dc__law_alike pm__law_alike cd__law_alike ct__law_alike : Value}
    {f_is_row : Addr} {od_is_row an_is_row : Option Addr} {sl_is_row : Array (Option Value)} {oc_is_row kV_is_row dc_is_row pm_is_row cd_is_row ct_is_row : Value}
    {f_is_whole : Addr} {od_is_whole an_is_whole : Option Addr} {sl_is_whole : Array (Option Value)} {oc_is_whole kV_is_whole dc_is_whole pm_is_whole cd_is_whole ct_is_whole : Value}
    {f_is_fraction : Addr} {od_is_fraction an_is_fraction : Option Addr} {sl_is_fraction : Array (Option Value)} {oc_is_fraction kV_is_fraction dc_is_fraction pm_is_fraction cd_is_fraction ct_is_fraction : Value}
    {f__law_low : Addr} {od__law_low an__law_low : Option Addr} {sl__law_low : Array (Option Value)} {oc__law_low kV__law_low dc__law_low pm__law_low cd__law_low ct__law_low : Value}
    {f_want_fraction : Addr} {od_want_fraction an_want_fraction : Option Addr} {sl_want_fraction : Array (Option Value)} {oc_want_fraction kV_want_fraction dc_want_fraction pm_want_fraction cd_want_fraction ct_want_fraction : Value}
    {f__law_taken : Addr} {od__law_taken an__law_taken : Option Addr} {sl__law_taken : Array (Option Value)} {oc__law_taken kV__law_taken dc__law_taken pm__law_taken cd__law_taken ct__law_taken : Value}
    {f__law_truth : Addr} {od__law_truth an__law_truth : Option Addr} {sl__law_truth : Array (Option Value)} {oc__law_truth kV__law_truth dc__law_truth pm__law_truth cd__law_truth ct__law_truth : Value}
    {f_total : Addr} {od_total an_total : Option Addr} {sl_total : Array (Option Value)} {oc_total kV_total dc_total pm_total cd_total ct_total : Value}
    {f_minus : Addr} {od_minus an_minus : Option Addr} {sl_minus : Array (Option Value)} {oc_minus kV_minus dc_minus pm_minus cd_minus ct_minus : Value}
    {f_floor_of : Addr} {od_floor_of an_floor_of : Option Addr} {sl_floor_of : Array (Option Value)} {oc_floor_of kV_floor_of dc_floor_of pm_floor_of cd_floor_of ct_floor_of : Value}
    {f_ceiling_of : Addr} {od_ceiling_of an_ceiling_of : Option Addr} {sl_ceiling_of : Array (Option Value)} {oc_ceiling_of kV_ceiling_of dc_ceiling_of pm_ceiling_of cd_ceiling_of ct_ceiling_of : Value}
    {f_nearest : Addr} {od_nearest an_nearest : Option Addr} {sl_nearest : Array (Option Value)} {oc_nearest kV_nearest dc_nearest pm_nearest cd_nearest ct_nearest : Value}
    {f_over : Addr} {od_over an_over : Option Addr} {sl_over : Array (Option Value)} {oc_over kV_over dc_over pm_over cd_over ct_over : Value}
    {f_law : Addr} {od_law an_law : Option Addr} {sl_law : Array (Option Value)} {oc_law kV_law dc_law pm_law cd_law ct_law : Value}
    {C_BadNumber : Addr}
    {nm_BadNumber q_BadNumber : Str} {N_BadNumber : Addr} {bs_BadNumber bm_BadNumber : List Value} {sn_BadNumber : List Str} {sub_BadNumber : List Value} {ab_BadNumber : Bool} {col_BadNumber : Option Bool} {dd_BadNumber : Option Addr} {m0_BadNumber m1_BadNumber m2_BadNumber m3_BadNumber m5_BadNumber : Option Value}
    {fI_BadNumber cc_BadNumber cda_BadNumber : Addr} {odI_BadNumber anI_BadNumber cld_BadNumber cdd_BadNumber : Option Addr} {slI_BadNumber csl_BadNumber ccs_BadNumber : Array (Option Value)} {ocI_BadNumber dcI_BadNumber pmI_BadNumber ctI_BadNumber cl_BadNumber ccl_BadNumber : Value} {vs_BadNumber : Array Value} {fl_BadNumber : Str} {tf_BadNumber : Tok}
    (a_reduced : PySem.W.nsIn K mainGlobals "reduced" = some (some (.ref f_reduced)))
    (l_reduced : K.lookup f_reduced = some ⟨oc_reduced, od_reduced, .func (PySem.W.fnOf "reduced" "reduced" (defArgs s_reduced) (defBody s_reduced) (defScope s_reduced) .none kV_reduced dc_reduced pm_reduced an_reduced cd_reduced ct_reduced), sl_reduced⟩)
    (c_reduced : PySem.W.codeIn K cd_reduced "reduced" = true)
    (k_reduced : PySem.W.keepIn K (.ref f_reduced) = true)
    (a_times : PySem.W.nsIn K mainGlobals "times" = some (some (.ref f_times)))
    (l_times : K.lookup f_times = some ⟨oc_times, od_times, .func (PySem.W.fnOf "times" "times" (defArgs s_times) (defBody s_times) (defScope s_times) .none kV_times dc_times pm_times an_times cd_times ct_times), sl_times⟩)
    (c_times : PySem.W.codeIn K cd_times "times" = true)
    (k_times : PySem.W.keepIn K (.ref f_times) = true)
    (a_plus : PySem.W.nsIn K mainGlobals "plus" = some (some (.ref f_plus)))
    (l_plus : K.lookup f_plus = some ⟨oc_plus, od_plus, .func (PySem.W.fnOf "plus" "plus" (defArgs s_plus) (defBody s_plus) (defScope s_plus) .none kV_plus dc_plus pm_plus an_plus cd_plus ct_plus), sl_plus⟩)
    (c_plus : PySem.W.codeIn K cd_plus "plus" = true)
    (k_plus : PySem.W.keepIn K (.ref f_plus) = true)
    (a_is_less : PySem.W.nsIn K mainGlobals "is_less" = some (some (.ref f_is_less)))
    (l_is_less : K.lookup f_is_less = some ⟨oc_is_less, od_is_less, .func (PySem.W.fnOf "is_less" "is_less" (defArgs s_is_less) (defBody s_is_less) (defScope s_is_less) .none kV_is_less dc_is_less pm_is_less an_is_less cd_is_less ct_is_less), sl_is_less⟩)
    (c_is_less : PySem.W.codeIn K cd_is_less "is_less" = true)
    (k_is_less : PySem.W.keepIn K (.ref f_is_less) = true)
    (a_median : PySem.W.nsIn K mainGlobals "median" = some (some (.ref f_median)))
    (l_median : K.lookup f_median = some ⟨oc_median, od_median, .func (PySem.W.fnOf "median" "median" (defArgs s_median) (defBody s_median) (defScope s_median) .none kV_median dc_median pm_median an_median cd_median ct_median), sl_median⟩)
    (c_median : PySem.W.codeIn K cd_median "median" = true)
    (k_median : PySem.W.keepIn K (.ref f_median) = true)
    (a__law_alike : PySem.W.nsIn K mainGlobals "_law_alike" = some (some (.ref f__law_alike)))
    (l__law_alike : K.lookup f__law_alike = some ⟨oc__law_alike, od__law_alike, .func (PySem.W.fnOf "_law_alike" "_law_alike" (defArgs s__law_alike) (defBody s__law_alike) (defScope s__law_alike) .none kV__law_alike dc__law_alike pm__law_alike an__law_alike cd__law_alike ct__law_alike), sl__law_alike⟩)
    (c__law_alike : PySem.W.codeIn K cd__law_alike "_law_alike" = true)
    (k__law_alike : PySem.W.keepIn K (.ref f__law_alike) = true)
    (a_is_row : PySem.W.nsIn K mainGlobals "is_row" = some (some (.ref f_is_row)))
    (l_is_row : K.lookup f_is_row = some ⟨oc_is_row, od_is_row, .func (PySem.W.fnOf "is_row" "is_row" (defArgs s_is_row) (defBody s_is_row) (defScope s_is_row) .none kV_is_row dc_is_row pm_is_row an_is_row cd_is_row ct_is_row), sl_is_row⟩)
    (c_is_row : PySem.W.codeIn K cd_is_row "is_row" = true)
    (k_is_row : PySem.W.keepIn K (.ref f_is_row) = true)
    (a_is_whole : PySem.W.nsIn K mainGlobals "is_whole" = some (some (.ref f_is_whole)))
    (l_is_whole : K.lookup f_is_whole = some ⟨oc_is_whole, od_is_whole, .func (PySem.W.fnOf "is_whole" "is_whole" (defArgs s_is_whole) (defBody s_is_whole) (defScope s_is_whole) .none kV_is_whole dc_is_whole pm_is_whole an_is_whole cd_is_whole ct_is_whole), sl_is_whole⟩)
    (c_is_whole : PySem.W.codeIn K cd_is_whole "is_whole" = true)
    (k_is_whole : PySem.W.keepIn K (.ref f_is_whole) = true)
    (a_is_fraction : PySem.W.nsIn K mainGlobals "is_fraction" = some (some (.ref f_is_fraction)))
    (l_is_fraction : K.lookup f_is_fraction = some ⟨oc_is_fraction, od_is_fraction, .func (PySem.W.fnOf "is_fraction" "is_fraction" (defArgs s_is_fraction) (defBody s_is_fraction) (defScope s_is_fraction) .none kV_is_fraction dc_is_fraction pm_is_fraction an_is_fraction cd_is_fraction ct_is_fraction), sl_is_fraction⟩)
    (c_is_fraction : PySem.W.codeIn K cd_is_fraction "is_fraction" = true)
    (k_is_fraction : PySem.W.keepIn K (.ref f_is_fraction) = true)
    (a__law_low : PySem.W.nsIn K mainGlobals "_law_low" = some (some (.ref f__law_low)))
    (l__law_low : K.lookup f__law_low = some ⟨oc__law_low, od__law_low, .func (PySem.W.fnOf "_law_low" "_law_low" (defArgs s__law_low) (defBody s__law_low) (defScope s__law_low) .none kV__law_low dc__law_low pm__law_low an__law_low cd__law_low ct__law_low), sl__law_low⟩)
    (c__law_low : PySem.W.codeIn K cd__law_low "_law_low" = true)
    (k__law_low : PySem.W.keepIn K (.ref f__law_low) = true)
    (a_want_fraction : PySem.W.nsIn K mainGlobals "want_fraction" = some (some (.ref f_want_fraction)))
    (l_want_fraction : K.lookup f_want_fraction = some ⟨oc_want_fraction, od_want_fraction, .func (PySem.W.fnOf "want_fraction" "want_fraction" (defArgs s_want_fraction) (defBody s_want_fraction) (defScope s_want_fraction) .none kV_want_fraction dc_want_fraction pm_want_fraction an_want_fraction cd_want_fraction ct_want_fraction), sl_want_fraction⟩)
    (c_want_fraction : PySem.W.codeIn K cd_want_fraction "want_fraction" = true)
    (k_want_fraction : PySem.W.keepIn K (.ref f_want_fraction) = true)
    (a__law_taken : PySem.W.nsIn K mainGlobals "_law_taken" = some (some (.ref f__law_taken)))
    (l__law_taken : K.lookup f__law_taken = some ⟨oc__law_taken, od__law_taken, .func (PySem.W.fnOf "_law_taken" "_law_taken" (defArgs s__law_taken) (defBody s__law_taken) (defScope s__law_taken) .none kV__law_taken dc__law_taken pm__law_taken an__law_taken cd__law_taken ct__law_taken), sl__law_taken⟩)
    (c__law_taken : PySem.W.codeIn K cd__law_taken "_law_taken" = true)
    (k__law_taken : PySem.W.keepIn K (.ref f__law_taken) = true)
    (a__law_truth : PySem.W.nsIn K mainGlobals "_law_truth" = some (some (.ref f__law_truth)))
    (l__law_truth : K.lookup f__law_truth = some ⟨oc__law_truth, od__law_truth, .func (PySem.W.fnOf "_law_truth" "_law_truth" (defArgs s__law_truth) (defBody s__law_truth) (defScope s__law_truth) .none kV__law_truth dc__law_truth pm__law_truth an__law_truth cd__law_truth ct__law_truth), sl__law_truth⟩)
    (c__law_truth : PySem.W.codeIn K cd__law_truth "_law_truth" = true)
    (k__law_truth : PySem.W.keepIn K (.ref f__law_truth) = true)
    (a_total : PySem.W.nsIn K mainGlobals "total" = some (some (.ref f_total)))
    (l_total : K.lookup f_total = some ⟨oc_total, od_total, .func (PySem.W.fnOf "total" "total" (defArgs s_total) (defBody s_total) (defScope s_total) .none kV_total dc_total pm_total an_total cd_total ct_total), sl_total⟩)
    (c_total : PySem.W.codeIn K cd_total "total" = true)
    (k_total : PySem.W.keepIn K (.ref f_total) = true)
    (a_minus : PySem.W.nsIn K mainGlobals "minus" = some (some (.ref f_minus)))
    (l_minus : K.lookup f_minus = some ⟨oc_minus, od_minus, .func (PySem.W.fnOf "minus" "minus" (defArgs s_minus) (defBody s_minus) (defScope s_minus) .none kV_minus dc_minus pm_minus an_minus cd_minus ct_minus), sl_minus⟩)
    (c_minus : PySem.W.codeIn K cd_minus "minus" = true)
    (k_minus : PySem.W.keepIn K (.ref f_minus) = true)
    (a_floor_of : PySem.W.nsIn K mainGlobals "floor_of" = some (some (.ref f_floor_of)))
    (l_floor_of : K.lookup f_floor_of = some ⟨oc_floor_of, od_floor_of, .func (PySem.W.fnOf "floor_of" "floor_of" (defArgs s_floor_of) (defBody s_floor_of) (defScope s_floor_of) .none kV_floor_of dc_floor_of pm_floor_of an_floor_of cd_floor_of ct_floor_of), sl_floor_of⟩)
    (c_floor_of : PySem.W.codeIn K cd_floor_of "floor_of" = true)
    (k_floor_of : PySem.W.keepIn K (.ref f_floor_of) = true)
    (a_ceiling_of : PySem.W.nsIn K mainGlobals "ceiling_of" = some (some (.ref f_ceiling_of)))
    (l_ceiling_of : K.lookup f_ceiling_of = some ⟨oc_ceiling_of, od_ceiling_of, .func (PySem.W.fnOf "ceiling_of" "ceiling_of" (defArgs s_ceiling_of) (defBody s_ceiling_of) (defScope s_ceiling_of) .none kV_ceiling_of dc_ceiling_of pm_ceiling_of an_ceiling_of cd_ceiling_of ct_ceiling_of), sl_ceiling_of⟩)
    (c_ceiling_of : PySem.W.codeIn K cd_ceiling_of "ceiling_of" = true)
    (k_ceiling_of : PySem.W.keepIn K (.ref f_ceiling_of) = true)
    (a_nearest : PySem.W.nsIn K mainGlobals "nearest" = some (some (.ref f_nearest)))
    (l_nearest : K.lookup f_nearest = some ⟨oc_nearest, od_nearest, .func (PySem.W.fnOf "nearest" "nearest" (defArgs s_nearest) (defBody s_nearest) (defScope s_nearest) .none kV_nearest dc_nearest pm_nearest an_nearest cd_nearest ct_nearest), sl_nearest⟩)
    (c_nearest : PySem.W.codeIn K cd_nearest "nearest" = true)
    (k_nearest : PySem.W.keepIn K (.ref f_nearest) = true)
    (a_over : PySem.W.nsIn K mainGlobals "over" = some (some (.ref f_over)))
    (l_over : K.lookup f_over = some ⟨oc_over, od_over, .func (PySem.W.fnOf "over" "over" (defArgs s_over) (defBody s_over) (defScope s_over) .none kV_over dc_over pm_over an_over cd_over ct_over), sl_over⟩)
    (c_over : PySem.W.codeIn K cd_over "over" = true)
    (k_over : PySem.W.keepIn K (.ref f_over) = true)
    (a_law : PySem.W.nsIn K mainGlobals "law" = some (some (.ref f_law)))
    (l_law : K.lookup f_law = some ⟨oc_law, od_law, .func (PySem.W.fnOf "law" "law" (defArgs s_law) (defBody s_law) (defScope s_law) .none kV_law dc_law pm_law an_law cd_law ct_law), sl_law⟩)
    (c_law : PySem.W.codeIn K cd_law "law" = true)
    (k_law : PySem.W.keepIn K (.ref f_law) = true)
    (z_len : PySem.W.nsIn K mainGlobals "len" = some none)
    (z_abs : PySem.W.nsIn K mainGlobals "abs" = some none)
    (z_int : PySem.W.nsIn K mainGlobals "int" = some none)
    (z_tuple : PySem.W.nsIn K mainGlobals "tuple" = some none)
    (z_list : PySem.W.nsIn K mainGlobals "list" = some none)
    (z_sum : PySem.W.nsIn K mainGlobals "sum" = some none)
    (z_max : PySem.W.nsIn K mainGlobals "max" = some none)
    (z_min : PySem.W.nsIn K mainGlobals "min" = some none)
    (z_any : PySem.W.nsIn K mainGlobals "any" = some none)
    (z_all : PySem.W.nsIn K mainGlobals "all" = some none)
    (z_range : PySem.W.nsIn K mainGlobals "range" = some none)
    (z_isinstance : PySem.W.nsIn K mainGlobals "isinstance" = some none)
    (z_str : PySem.W.nsIn K mainGlobals "str" = some none)
    (z_bool : PySem.W.nsIn K mainGlobals "bool" = some none)
    (z_sorted : PySem.W.nsIn K mainGlobals "sorted" = some none)
    (z_set : PySem.W.nsIn K mainGlobals "set" = some none)
    (z_dict : PySem.W.nsIn K mainGlobals "dict" = some none)
    (z_enumerate : PySem.W.nsIn K mainGlobals "enumerate" = some none)
    (z_zip : PySem.W.nsIn K mainGlobals "zip" = some none)
    (z_repr : PySem.W.nsIn K mainGlobals "repr" = some none)
    (z_super : PySem.W.nsIn K mainGlobals "super" = some none)
    (nos : PySem.W.nsIn K cStatics "thirdparty.any" = some none)
    (aC_BadNumber : PySem.W.nsIn K mainGlobals "BadNumber" = some (some (.ref C_BadNumber)))
    (xL_BadNumber : K.lookup C_BadNumber = some (excClassObj nm_BadNumber q_BadNumber C_BadNumber N_BadNumber bs_BadNumber bm_BadNumber true sn_BadNumber sub_BadNumber ab_BadNumber col_BadNumber dd_BadNumber m0_BadNumber m1_BadNumber m2_BadNumber m3_BadNumber m5_BadNumber "ValueError.__new__"))
    (rv_BadNumber : PySem.HandSPX.refsVE bm_BadNumber = true)
    (sa_BadNumber : PySem.W.findIn K (.ref C_BadNumber) "__setattr__" = some (some (.builtin "object.__setattr__")))
    (eC_BadNumber : PySem.W.subIn K (.ref C_BadNumber) (.type "BaseException") = some true)
    (tC_BadNumber : PySem.W.typeIn K (.ref C_BadNumber) = some (.type "type"))
    (kC_BadNumber : PySem.W.keepIn K (.ref C_BadNumber) = true)
    (i_BadNumber : PySem.W.findIn K (.ref C_BadNumber) "__init__" = some (some (.ref fI_BadNumber)))
    (t_BadNumber : PySem.W.typeIn K (.ref fI_BadNumber) = some (.type "function"))
    (l_BadNumber : K.lookup fI_BadNumber = some ⟨ocI_BadNumber, odI_BadNumber, .func (PySem.W.ksFn "__init__" "BadNumber.__init__" (defArgs s_BadNumber) (defBody s_BadNumber) (defScope s_BadNumber) .none .none dcI_BadNumber pmI_BadNumber anI_BadNumber (.ref cda_BadNumber) ctI_BadNumber cc_BadNumber), slI_BadNumber⟩)
    (c_BadNumber : PySem.W.codeIn K (.ref cda_BadNumber) "BadNumber.__init__" = true)
    (ce_BadNumber : K.lookup cc_BadNumber = some ⟨cl_BadNumber, cld_BadNumber, .cell (some (.ref C_BadNumber)), csl_BadNumber⟩)
    (co_BadNumber : K.lookup cda_BadNumber = some ⟨ccl_BadNumber, cdd_BadNumber, .fields vs_BadNumber, ccs_BadNumber⟩)
    (v_BadNumber : vs_BadNumber[2]? = some (.str fl_BadNumber tf_BadNumber))
    (fi_BadNumber : ((P.main.file : Str) == fl_BadNumber) = true)
    (su_BadNumber : PySem.W.ks_superIn K C_BadNumber C_BadNumber "__init__" = some (some (.builtin "ValueError.__init__")))
    (mr_BadNumber : PySem.W.mroIn K C_BadNumber (.ref C_BadNumber) = some true)
    (sv_BadNumber : PySem.W.subIn K (.ref C_BadNumber) (.type "ValueError") = some true)
    (n_BadNumber_value : PySem.W.findIn K (.ref C_BadNumber) "value" = some none)
    (ga_BadNumber : PySem.W.findIn K (.ref C_BadNumber) "__getattribute__" = some (some (.builtin "BaseException.__getattribute__")))
    (gg_BadNumber : PySem.W.findIn K (.ref C_BadNumber) "__getattr__" = some none)
    (hdi_BadNumber : PySem.W.hasDictIn K C_BadNumber = true)
    (eb_BadNumber : PySem.W.subIn K (.ref C_BadNumber) (.type "BaseException") = some true)
    (ec_BadNumber : PySem.W.isClsIn K C_BadNumber = true)
    (et_BadNumber : PySem.W.typeIn K (.ref C_BadNumber) = some (.type "type"))
    (e_BadNumber_BadNumber : PySem.W.subIn K (.ref C_BadNumber) (.ref C_BadNumber) = some true)
    : ∃ fd : FuncData, (∀ (s : Shared) (v : Value), BindsTo s fd ⟨[v], []⟩ [("script", v)]) ∧ ∀ base : Heap, K.In base → base.Ns mainGlobals mg → FnG P w K mg base (L2.CX P w) 8 fa fd ["script"] (spTop K) := by
  have e := hfa.symm.trans (PySem.W.mg_of X G a_law)
  cases e
  have B : NoB mg := ⟨PySem.W.mg_none_of X G z_len, PySem.W.mg_none_of X G z_abs, PySem.W.mg_none_of X G z_int, PySem.W.mg_none_of X G z_tuple, PySem.W.mg_none_of X G z_list, PySem.W.mg_none_of X G z_sum, PySem.W.mg_none_of X G z_max, PySem.W.mg_none_of X G z_min, PySem.W.mg_none_of X G z_any, PySem.W.mg_none_of X G z_all, PySem.W.mg_none_of X G z_range, PySem.W.mg_none_of X G z_isinstance, PySem.W.mg_none_of X G z_str, PySem.W.mg_none_of X G z_bool, PySem.W.mg_none_of X G z_sorted, PySem.W.mg_none_of X G z_set, PySem.W.mg_none_of X G z_dict, PySem.W.mg_none_of X G z_enumerate, PySem.W.mg_none_of X G z_zip, PySem.W.mg_none_of X G z_repr⟩
  have hsup := PySem.W.mg_none_of X G z_super
  have hT : (mkT K [C_BadNumber] [] [] ["value"]).K = K := rfl
  have hinj : ∀ a b, (mkT K [C_BadNumber] [] [] ["value"]).fnm a = (mkT K [C_BadNumber] [] [] ["value"]).fnm b → a = b := mkF_inj (by decide +kernel) (by decide +kernel)
  have F_reduced := fun_mk (st := s_reduced) l_reduced c_reduced k_reduced
  have F_times := fun_mk (st := s_times) l_times c_times k_times
  have F_plus := fun_mk (st := s_plus) l_plus c_plus k_plus
  have F_is_less := fun_mk (st := s_is_less) l_is_less c_is_less k_is_less
  have F_median := fun_mk (st := s_median) l_median c_median k_median
  have F__law_alike := fun_mk (st := s__law_alike) l__law_alike c__law_alike k__law_alike
  have F_is_row := fun_mk (st := s_is_row) l_is_row c_is_row k_is_row
  have F_is_whole := fun_mk (st := s_is_whole) l_is_whole c_is_whole k_is_whole
  have F_is_fraction := fun_mk (st := s_is_fraction) l_is_fraction c_is_fraction k_is_fraction
  have F__law_low := fun_mk (st := s__law_low) l__law_low c__law_low k__law_low
  have F_want_fraction := fun_mk (st := s_want_fraction) l_want_fraction c_want_fraction k_want_fraction
  have F__law_taken := fun_mk (st := s__law_taken) l__law_taken c__law_taken k__law_taken
  have F__law_truth := fun_mk (st := s__law_truth) l__law_truth c__law_truth k__law_truth
  have F_total := fun_mk (st := s_total) l_total c_total k_total
  have F_minus := fun_mk (st := s_minus) l_minus c_minus k_minus
  have F_floor_of := fun_mk (st := s_floor_of) l_floor_of c_floor_of k_floor_of
  have F_ceiling_of := fun_mk (st := s_ceiling_of) l_ceiling_of c_ceiling_of k_ceiling_of
  have F_nearest := fun_mk (st := s_nearest) l_nearest c_nearest k_nearest
  have F_over := fun_mk (st := s_over) l_over c_over k_over
  have F_law := fun_mk (st := s_law) l_law c_law k_law
  refine ⟨PySem.W.fnOf "law" "law" (defArgs s_law) (defBody s_law) (defScope s_law) .none kV_law dc_law pm_law an_law cd_law ct_law, fun s v => .of_eq rfl, fun base _ _ => ?_⟩
  have x_BadNumber := ext1 (P := P) (w := w) (base := base) (T := mkT K [C_BadNumber] [] [] ["value"]) (c := 0) (n1 := 0) (pl := fun env => do return (← importBound (.Call (.Name "super" ⟨0, 0, 0, 0⟩) [] [] ⟨0, 0, 0, 0⟩) env).getD true) l_BadNumber (PySem.W.mg_of X G aC_BadNumber) c_BadNumber ⟨⟨_, _, _, ce_BadNumber⟩, ⟨_, _, _, _, _, _, co_BadNumber, v_BadNumber, fi_BadNumber⟩, su_BadNumber, mr_BadNumber, sv_BadNumber, nos, tp⟩ ⟨⟨_, _, _, _, _, _, _, _, _, _, _, _, _, _, _, xL_BadNumber, rv_BadNumber⟩, sa_BadNumber, eC_BadNumber, tC_BadNumber, kC_BadNumber⟩ i_BadNumber t_BadNumber n_BadNumber_value hsup rfl rfl (by decide +kernel) ⟨_, rfl, rfl⟩ rfl (by decide +kernel) (by decide +kernel) (fun us hl => match us, hl with | [_, _], _ => rfl) (fun _ => rfl)
  have h_BadNumber : HdT K mg (mkT K [C_BadNumber] [] [] ["value"]) "BadNumber" hd_BadNumber := by
    refine ⟨_, PySem.W.mg_of X G aC_BadNumber, fun c b hb => ?_⟩
    unfold hd_BadNumber at hb
    by_cases eBadNumber : c = 0
    · subst eBadNumber; cases hb; exact exm_of eb_BadNumber ec_BadNumber et_BadNumber e_BadNumber_BadNumber
    simp only [if_neg eBadNumber] at hb; cases hb
  have xf_value : XfT K (mkT K [C_BadNumber] [] [] ["value"]) 0 "value" okX := by
    refine ⟨rfl, fun c hc => ?_⟩
    have hc := of_decide_eq_true hc
    obtain rfl := hc
    · exact ⟨⟨ga_BadNumber, gg_BadNumber, eC_BadNumber, hdi_BadNumber⟩, n_BadNumber_value⟩
  have c_reduced := cal_reduced (P := P) (w := w) (base := base) hT B F_reduced (PySem.W.mg_of X G a_reduced)    
  have c_times := cal_times (P := P) (w := w) (base := base) hT B F_times (PySem.W.mg_of X G a_times) c_reduced   
  have c_plus := cal_plus (P := P) (w := w) (base := base) hT B F_plus (PySem.W.mg_of X G a_plus) c_reduced   
  have c_is_less := cal_is_less (P := P) (w := w) (base := base) hT B F_is_less (PySem.W.mg_of X G a_is_less)    
  have c_median := cal_median (P := P) (w := w) (base := base) hT B F_median (PySem.W.mg_of X G a_median) c_is_less c_times c_plus   
  have c__law_alike := cal__law_alike (P := P) (w := w) (base := base) hT B F__law_alike (PySem.W.mg_of X G a__law_alike)    
  have c_is_row := cal_is_row (P := P) (w := w) (base := base) hT B F_is_row (PySem.W.mg_of X G a_is_row)    
  have c_is_whole := cal_is_whole (P := P) (w := w) (base := base) hT B F_is_whole (PySem.W.mg_of X G a_is_whole)    
  have c_is_fraction := cal_is_fraction (P := P) (w := w) (base := base) hT B F_is_fraction (PySem.W.mg_of X G a_is_fraction) c_is_row c_is_whole c_reduced   
  have c__law_low := cal__law_low (P := P) (w := w) (base := base) hT B F__law_low (PySem.W.mg_of X G a__law_low)    
  have c_want_fraction := cal_want_fraction (P := P) (w := w) (base := base) hT B F_want_fraction (PySem.W.mg_of X G a_want_fraction) c_is_fraction x_BadNumber  
  have c__law_taken := cal__law_taken (P := P) (w := w) (base := base) hT B F__law_taken (PySem.W.mg_of X G a__law_taken)    
  have c__law_truth := cal__law_truth (P := P) (w := w) (base := base) hT B F__law_truth (PySem.W.mg_of X G a__law_truth)    
  have c_total := cal_total (P := P) (w := w) (base := base) hT B F_total (PySem.W.mg_of X G a_total) c_plus   
  have c_minus := cal_minus (P := P) (w := w) (base := base) hT B F_minus (PySem.W.mg_of X G a_minus) c_reduced   
  have c_floor_of := cal_floor_of (P := P) (w := w) (base := base) hT B F_floor_of (PySem.W.mg_of X G a_floor_of)    
  have c_ceiling_of := cal_ceiling_of (P := P) (w := w) (base := base) hT B F_ceiling_of (PySem.W.mg_of X G a_ceiling_of)    
  have c_nearest := cal_nearest (P := P) (w := w) (base := base) hT B F_nearest (PySem.W.mg_of X G a_nearest)    
  have c_over := cal_over (P := P) (w := w) (base := base) hT B F_over (PySem.W.mg_of X G a_over) c_reduced   
  exact FnG.imp (ok_law (P := P) (w := w) (base := base) hT B F_law (PySem.W.mg_of X G a_law) c__law_taken c_reduced (c__law_alike 6) c__law_low c_is_fraction c_plus c_minus c_times c_over c__law_truth c_is_less c_floor_of c_ceiling_of c_nearest c_total c_median c_want_fraction  h_BadNumber xf_value hinj) (top_of hT law_math)
theorem walk {l : PySem.W.OpenLaw} {q : Program} {loose : List Str} {XP : (Str → Option Value) → Heap → Prop} {YP : World → Heap → Prop} {d : DefRec} {K : Params → PySem.W.Frag} (hn : l.most = some 63) (hdf : d.params.defaults = []) (hY : ∀ (w : World) (h : Heap), YP w h → (K w.params).In h)
    (F : ∀ (w : World) (mg : Str → Option Value) (fa : Addr) (h : Heap), (K w.params).In h → h.Ns mainGlobals mg → mg d.name = some (.ref fa) → ∃ fd : FuncData, (∀ (s : Shared) (u : Value), BindsTo s fd ⟨[u], []⟩ [("script", u)]) ∧ ∀ base : Heap, (K w.params).In base → base.Ns mainGlobals mg → FnG l.prog w (K w.params) mg base (L2.CX l.prog w) 8 fa fd ["script"] (spTop (K w.params))) :
    PySem.W.WalkO q loose XP YP l.row.toRowW d [] (fun f vs => PySem.call f vs) :=
  walkG (n := 63) (k := 8) (x := "script") (CX := fun w => L2.CX l.prog w) (sp := fun w => spTop (K w.params)) hn (by decide) hdf ⟨rfl, by decide, by decide⟩ hY F (fun w H a ns h1 h2 => ⟨a, ns, rfl, h2, h1, fun _ => rfl⟩) fun w H s e s' h => by
    obtain ⟨_, _, _, _, _, _, _, _, _, _, _, _, z⟩ := h
    exact z
end K10
open PySem PySem.W PyProof.Rows in
set_option maxRecDepth 100000 in
set_option maxHeartbeats 0 in
theorem PySem.Challenge.cw_coachstages_k10_whole_fractions_holds : PySem.Challenge.rw_coachstages_k10_whole_fractions.Holds := by
  w_on; o_law; k_head; (case hw => w_witness2)
  k_fill
  refine K10.walk (l := PySem.Challenge.rw_coachstages_k10_whole_fractions) rfl rfl (fun w h Y => PySem.W.kIn_of Y) ?F
  case F =>
    intro w mg fa h KX G hmg
    refine' K10.all_mk KX G hmg (by decide +kernel) ?a_reduced ?l_reduced ?c_reduced ?k_reduced ?a_times ?l_times ?c_times ?k_times ?a_plus ?l_plus ?c_plus ?k_plus ?a_is_less ?l_is_less ?c_is_less ?k_is_less ?a_median ?l_median ?c_median ?k_median ?a__law_alike ?l__law_alike ?c__law_alike ?k__law_alike ?a_is_row ?l_is_row ?c_is_row ?k_is_row ?a_is_whole ?l_is_whole ?c_is_whole ?k_is_whole ?a_is_fraction ?l_is_fraction ?c_is_fraction ?k_is_fraction ?a__law_low ?l__law_low ?c__law_low ?k__law_low ?a_want_fraction ?l_want_fraction ?c_want_fraction ?k_want_fraction ?a__law_taken ?l__law_taken ?c__law_taken ?k__law_taken ?a__law_truth ?l__law_truth ?c__law_truth ?k__law_truth ?a_total ?l_total ?c_total ?k_total ?a_minus ?l_minus ?c_minus ?k_minus ?a_floor_of ?l_floor_of ?c_floor_of ?k_floor_of ?a_ceiling_of ?l_ceiling_of ?c_ceiling_of ?k_ceiling_of ?a_nearest ?l_nearest ?c_nearest ?k_nearest ?a_over ?l_over ?c_over ?k_over ?a_law ?l_law ?c_law ?k_law ?z_len ?z_abs ?z_int ?z_tuple ?z_list ?z_sum ?z_max ?z_min ?z_any ?z_all ?z_range ?z_isinstance ?z_str ?z_bool ?z_sorted ?z_set ?z_dict ?z_enumerate ?z_zip ?z_repr ?z_super ?nos ?aC_BadNumber ?xL_BadNumber ?rv_BadNumber ?sa_BadNumber ?eC_BadNumber ?tC_BadNumber ?kC_BadNumber ?i_BadNumber ?t_BadNumber ?l_BadNumber ?c_BadNumber ?ce_BadNumber ?co_BadNumber ?v_BadNumber ?fi_BadNumber ?su_BadNumber ?mr_BadNumber ?sv_BadNumber ?n_BadNumber_value ?ga_BadNumber ?gg_BadNumber ?hdi_BadNumber ?eb_BadNumber ?ec_BadNumber ?et_BadNumber ?e_BadNumber_BadNumber
    (case a_reduced => k_is)
    (case l_reduced => k_is)
    (case c_reduced => k_is)
    (case k_reduced => k_is)
    (case a_times => k_is)
    (case l_times => k_is)
    (case c_times => k_is)
    (case k_times => k_is)
    (case a_plus => k_is)
    (case l_plus => k_is)
    (case c_plus => k_is)
    (case k_plus => k_is)
    (case a_is_less => k_is)
    (case l_is_less => k_is)
    (case c_is_less => k_is)
    (case k_is_less => k_is)
    (case a_median => k_is)
    (case l_median => k_is)
    (case c_median => k_is)
    (case k_median => k_is)
    (case a__law_alike => k_is)
    (case l__law_alike => k_is)
    (case c__law_alike => k_is)
    (case k__law_alike => k_is)
    (case a_is_row => k_is)
    (case l_is_row => k_is)
    (case c_is_row => k_is)
    (case k_is_row => k_is)
    (case a_is_whole => k_is)
    (case l_is_whole => k_is)
    (case c_is_whole => k_is)
    (case k_is_whole => k_is)
    (case a_is_fraction => k_is)
    (case l_is_fraction => k_is)
    (case c_is_fraction => k_is)
    (case k_is_fraction => k_is)
    (case a__law_low => k_is)
    (case l__law_low => k_is)
    (case c__law_low => k_is)
    (case k__law_low => k_is)
    (case a_want_fraction => k_is)
    (case l_want_fraction => k_is)
    (case c_want_fraction => k_is)
    (case k_want_fraction => k_is)
    (case a__law_taken => k_is)
    (case l__law_taken => k_is)
    (case c__law_taken => k_is)
    (case k__law_taken => k_is)
    (case a__law_truth => k_is)
    (case l__law_truth => k_is)
    (case c__law_truth => k_is)
    (case k__law_truth => k_is)
    (case a_total => k_is)
    (case l_total => k_is)
    (case c_total => k_is)
    (case k_total => k_is)
    (case a_minus => k_is)
    (case l_minus => k_is)
    (case c_minus => k_is)
    (case k_minus => k_is)
    (case a_floor_of => k_is)
    (case l_floor_of => k_is)
    (case c_floor_of => k_is)
    (case k_floor_of => k_is)
    (case a_ceiling_of => k_is)
    (case l_ceiling_of => k_is)
    (case c_ceiling_of => k_is)
    (case k_ceiling_of => k_is)
    (case a_nearest => k_is)
    (case l_nearest => k_is)
    (case c_nearest => k_is)
    (case k_nearest => k_is)
    (case a_over => k_is)
    (case l_over => k_is)
    (case c_over => k_is)
    (case k_over => k_is)
    (case a_law => k_is)
    (case l_law => k_is)
    (case c_law => k_is)
    (case k_law => k_is)
    (case z_len => k_is)
    (case z_abs => k_is)
    (case z_int => k_is)
    (case z_tuple => k_is)
    (case z_list => k_is)
    (case z_sum => k_is)
    (case z_max => k_is)
    (case z_min => k_is)
    (case z_any => k_is)
    (case z_all => k_is)
    (case z_range => k_is)
    (case z_isinstance => k_is)
    (case z_str => k_is)
    (case z_bool => k_is)
    (case z_sorted => k_is)
    (case z_set => k_is)
    (case z_dict => k_is)
    (case z_enumerate => k_is)
    (case z_zip => k_is)
    (case z_repr => k_is)
    (case z_super => k_is)
    (case nos => k_is)
    (case aC_BadNumber => k_is)
    (case xL_BadNumber => k_is)
    (case rv_BadNumber => first | rfl | decide +kernel | k_is)
    (case sa_BadNumber => k_is)
    (case eC_BadNumber => k_is)
    (case tC_BadNumber => k_is)
    (case kC_BadNumber => k_is)
    (case i_BadNumber => k_is)
    (case t_BadNumber => k_is)
    (case l_BadNumber => k_is)
    (case c_BadNumber => k_is)
    (case ce_BadNumber => k_is)
    (case co_BadNumber => k_is)
    (case v_BadNumber => first | rfl | decide +kernel | k_is)
    (case fi_BadNumber => first | rfl | decide +kernel | k_is)
    (case su_BadNumber => ks_is)
    (case mr_BadNumber => k_is)
    (case sv_BadNumber => k_is)
    (case n_BadNumber_value => k_is)
    (case ga_BadNumber => k_is)
    (case gg_BadNumber => k_is)
    (case hdi_BadNumber => k_is)
    (case eb_BadNumber => k_is)
    (case ec_BadNumber => k_is)
    (case et_BadNumber => k_is)
    (case e_BadNumber_BadNumber => k_is)

