import PyProof.Rows.All
import Wide.All
import OpenK.AllK
import Wide.FinOn
import HandS.ForMost
import HandS.Exc
import HandS.TryOnly
import HandS.TryMany
import HandS.ExcOwn
import HandS.WordsExc
import HandS.ExcInit
import HandS.Nested
import KE.KExcSuper
import HandS.Walk
import HandS.TupAny
import HandS.Deep
import HandS.IsInst
import HandS.TupMul
import HandS.Conv
import HandS.More
import HandS.Strs
import HandS.CallSlots
import HandS.ExcField
import PyProof.ReprRoads
import KE.RegKSuper
import HandS.OwnEq
import HandS.Codes
import HandS.Zip
import KE.GoesMore
import KE.GoesZip
import KE.GoesEnum
import KE.DatumOrd
import KE.SortData
import HandS.CallLocal
import HandS.RevRange
import HandS.Style
import HandS.ListItems
import KE.DataMinMax
import PySem.Challenge.RW_coachstages_k20_whole_riders
set_option Elab.async false
set_option linter.all false
set_option maxRecDepth 100000
set_option maxHeartbeats 4000000
namespace J
open PySem PySem.Spec PyProof.Rows L2 NdefX

/-- what the written part says of a class whose own __init__ says super().__init__ -/
structure SupC (K : PySem.W.Frag) (prog : Program) (C cc cda : Addr) : Prop where
  cell : ∃ cl cld csl, K.lookup cc = some ⟨cl, cld, .cell (some (.ref C)), csl⟩
  code : ∃ ccl cdd vs ccs file tf, K.lookup cda = some ⟨ccl, cdd, .fields vs, ccs⟩ ∧ vs[2]? = some (.str file tf) ∧ ((prog.main.file : Str) == file) = true
  sup : PySem.W.ks_superIn K C C "__init__" = some (some (.builtin "ValueError.__init__"))
  sub : PySem.W.mroIn K C (.ref C) = some true
  subV : PySem.W.subIn K (.ref C) (.type "ValueError") = some true
  nos : PySem.W.nsIn K cStatics "thirdparty.any" = some none
  top : (prog.main.scope.names.lookup ("super" : Str)).isSome = false

theorem clsIn_obj {K : PySem.W.Frag} {D : Addr} {cd : ClassData} {hh : Heap} (X : K.In hh) (hD : PySem.W.clsIn K D = some cd) : ∃ oD, hh.get? D = some oD ∧ oD.data = .cls cd := by
  unfold PySem.W.clsIn at hD
  split at hD
  · rename_i c d cd' sl ho
    cases hD
    exact ⟨_, X _ _ ho, rfl⟩
  · cases hD

/-- the bound ValueError.__init__ called -/
theorem bw_call {X : Cx} {pins : List (Addr × Obj)} {σ : L2.St} {H : Hp} {s : Shared} {a C u : Addr} {us : List Value} {Q : Value → Shared → Prop} {E : Value → Shared → Prop} (T : OexC X.K C) (I : Inv X pins σ H s) (e : H a = some (exo a C none))
    (hu : s.heap.get? u = some (PySem.W.kxs_mw "ValueError.__init__" a)) (hl : us.length ≤ sizeLine) (h : ∀ s', Inv X pins σ H s' → Q .none s') : wpAny (model X.prog X.w) X.A (call (.ref u) us) Q E s := by
  obtain ⟨nm, q, N, bs, bm, sn, sub, ab, col, dd, k0, k1, k2, k3, k5, hC, hbm⟩ := T.cls
  obtain ⟨t1, ho⟩ := exo_at I.hok e
  have hC' := I.kIn _ _ hC
  obtain ⟨hp, g, d, t, os⟩ := s
  refine wpAny_call (codeAny_of_tree ?_)
  show wpAny _ X.A.in1 (callAny (.ref u) ⟨us, []⟩) _ _ _
  simp only [callAny]
  refine wpAny_bind (wpAny_load hu ?_)
  simp only [PySem.W.kxs_mw, show (Value.type "method-wrapper" == Value.type "method" || Value.type "method-wrapper" == Value.type "builtin_function_or_method" || Value.type "method-wrapper" == Value.type "method-wrapper") = true by decide, if_true]
  refine PySem.W.KFB.if_so (by decide) ?_
  refine wpAny_bind (PySem.W.check_bound_init F.excBase_ValueError.toExcCallFacts hC' ho rfl ?_)
  refine wpAny_bind (wpAny_pure (wpAny_pure ?_))
  refine ⟨plainId_quiet F.excBase_ValueError.init.plain _, codeAny_builtin F.excBase_ValueError.initEntry ?_⟩
  refine PySem.W.exc_init_tree (cls := .ref C) (t0 := t1) (dv := none) (c2 := .none) (c3 := .none) (b4 := .bool false) ho hl fun h' k hx _ => ?_
  have J := I.write (t' := t) (x := a) (e := a) (o := exo a C none) (by rw [e]; exact True.intro) (.inl rfl) k ⟨_, hx⟩ (exo_ok hx)
  have eu : upd H a (exo a C none) = H := by
    funext b
    by_cases hb : b = a
    · rw [hb, upd_same, e]
    · rw [upd_ne hb]
  rw [eu] at J
  exact h _ J

abbrev nf (name qual : Str) (params : Arguments) (scope : Scope) (cc cda : Addr) : NF := ⟨name, qual, params, [], scope, [("__class__", cc)], cda⟩
section
variable {CX : CXT} {P : Program} {w : World} {K : PySem.W.Frag} {mg : Str → Option Value} {base : Heap} {k : Nat} {f cc cda C : Addr} {name qual : Str} {params : Arguments} {body rest : List Stmt} {scope : Scope} {dV kV doc pm ct oc : Value} {an od : Option Addr}
    {osl : Array (Option Value)} {N ps : List Str} {sp : Sp} {p0 p1 p2 p3 p4 : Pos} {e : Expr} {es : List Expr} {ar : Arg} {pl : Env → Sem Bool}
/-- a def of an exception's class whose first statement is super().__init__(e, ..) -/
theorem fnok_super (lk : K.lookup f = some ⟨oc, od, .func (PySem.W.ksFn name qual params body scope dV kV doc pm an (.ref cda) ct cc), osl⟩) (hcd : PySem.W.codeIn K (.ref cda) qual = true) (S : NScope N ps ["__class__"] scope)
    (T : SupC K P C cc cda) (TO : OexC K C)
    (hb0 : body = .Expr (.Call (.Attribute (.Call (.Name "super" p0) [] [] p1) "__init__" p2) (e :: es) [] p3) p4 :: rest)
    (har : (params.posonlyargs ++ params.args).head? = some ar) (hN0 : N[0]? = some ar.arg) (hka : scope.names.lookup ar.arg = some .local) (hsup : scope.names.lookup ("super" : Str) = some .globalImplicit) (hms : mg "super" = none)
    (len : ∀ vs H Q E, sp vs H Q E → vs.length = ps.length)
    (hbody : ∀ (A : Around) (outer : List Env) (s : Shared) (H : Hp) (vs : List V) (Q : VK) (E : XK), sp vs H Q E →
      ∃ a ta tr, (startF N vs [none])[0]? = some (some (V.ref a)) ∧ H a = some (exo a C none) ∧
        PA (ncx CX P w K mg base N (nf name qual params scope cc cda) f A outer s H E) (e :: es) ta ∧
        PSs (ncx CX P w K mg base N (nf name qual params scope cc cda) f A outer s H E) rest tr ∧
        ta (startF N vs [none]) H fun ws H1 => ws.length ≤ 1000 ∧ H1 a = some (exo a C none) ∧ tr { nx := fun _ H' => Q .non H', rt := Q } (startF N vs [none]) H1)
    (hev : ∀ env, eval (.Call (.Attribute (.Call (.Name "super" p0) [] [] p1) "__init__" p2) (e :: es) [] p3) env = (do
      let ov ← attributeBase (.Call (.Name "super" p0) [] [] p1) "__init__" env (eval (.Call (.Name "super" p0) [] [] p1) env)
      standAt p2.atName
      let (f, first) ← holding [ov] (getMethod ov "__init__" (pl env))
      callWith p3 f first (backTo p3 (starEach (e :: es) env)) []) := by intro _; rfl)
    (hsw : ∀ env, swapsWith (.Call (.Attribute (.Call (.Name "super" p0) [] [] p1) "__init__" p2) (e :: es) [] p3) none p4.line env = pure false := by intro _; rfl)
    (he : ∀ env, starEach (e :: es) env = (false, eval e env) :: starEach es env := by intro _; rfl) (hpl : ∀ env, (backTo p3 (starEach es env)).any (·.1) = false := by intro _; rfl) :
    FnOk P w K mg base CX (k + 1) f (PySem.W.ksFn name qual params body scope dV kV doc pm an (.ref cda) ct cc) ps sp := by
  subst hb0
  refine ⟨len, fun A outer s H args us vs Q E hr e0 hb r hsp => ?_⟩
  have hl := len _ _ _ _ hsp
  have KX : K.In s.heap := e0.mod.kin.keeps fun b o e => (e0.bs b o e).1
  have lim : s.heap.NoLimit := e0.mod.nolimit.keeps fun b o e => (e0.bs b o e).1
  obtain ⟨cl, cld, csl, hcc⟩ := T.cell
  have CA : CellsAt [(("__class__" : Str), cc)] ["__class__"] [none] s.heap H := by
    refine ⟨rfl, fun y c hy => ?_, fun x y c hx hy => ?_, fun i y hi => ?_⟩
    · have : y = "__class__" ∧ c = cc := by
        simp only [List.lookup] at hy
        split at hy
        · rename_i h; exact ⟨by simpa using h, by injection hy with hy; exact hy.symm⟩
        · cases hy
      obtain ⟨_, rfl⟩ := this
      have q := KX _ _ hcc
      have hb1 : base.get? c = some _ := e0.mod.kin _ _ hcc
      exact ⟨(e0.bs _ _ hb1).2, some (.ref C), _, q, rfl⟩
    · have key : ∀ {z : Str}, List.lookup z [(("__class__" : Str), cc)] = some c → z = "__class__" := fun {z} hz => by
        simp only [List.lookup] at hz
        split at hz
        · rename_i h; simpa using h
        · cases hz
      rw [key hx, key hy]
    · have hi' : y = "__class__" := by
        cases i with
        | zero => simpa using hi.symm
        | succ i => simp at hi
      subst hi'
      exact ⟨cc, rfl, fun v z => by
        cases i with
        | zero => simp at z
        | succ i => simp at hi⟩
  obtain ⟨a, ta, tr, hσ, ha, hta, htr, hq⟩ := hbody A outer s H vs Q E hsp
  refine codeAny_call_function hr.depth (KX _ _ lk) rfl S.co S.gen rfl (PySem.W.codeRec_of KX hcd) (hb _ _ _ _ ?_)
  refine wpAny_newFunctionEnv S.nocell (fun ⟨n, _⟩ hy => S.par n (List.of_mem_zip hy).1) (fun h₁ hns hsb => ⟨lim.fresh _ hsb, ?_⟩) S.kind
  have kp : ∀ b o, s.heap.get? b = some o → h₁.get? b = some o := fun b o e => hsb.extBut b o (Nat.ne_of_lt (Heap.lt_size e)) (Heap.get?_push_of_some _ e)
  have I : Inv (ncx CX P w K mg base N (nf name qual params scope cc cda) f A outer s H E) [] (startF N vs [none]) H { s with heap := h₁, toks := s.toks + (ps.zip us).length } := inv_startN S hr.hd e0 hl r CA hns kp
  refine PySem.ks_codeAny_funcAt ?_
  refine PySem.ks_wpAt_execs_cons ?_
  refine PySem.ks_wpAt_Expr_any ?_ I.quiet (hsw _)
  refine PySem.ks_wpAt_MethodCall ?_ (hev _)
  obtain ⟨ccl, cdd, vsc, ccs, file, tf, hcode, hvs, hfile⟩ := T.code
  obtain ⟨nm, q, NN, bs, bm, sn, sub, ab, col, dd, k0, k1, k2, k3, k5, hC, hbm⟩ := TO.cls
  have hcl : PySem.W.clsIn K C = some { name := nm, bases := bs, mro := .ref C :: bm, ns := NN, qualname := q, hasDict := true, slotNames := sn, subclasses := sub, abstract := ab, collection := col, hasDel := false } := by unfold PySem.W.clsIn; rw [hC] <;> rfl
  have X := I.kIn
  obtain ⟨oD, hD1, hD2⟩ := clsIn_obj X hcl
  refine PySem.ks_wpAt_super_base (env := envF (nf name qual params scope cc cda) f s.heap.objs.size) hsup (S.frk "__class__" (by simp)) (by decide) rfl (X _ _ lk) rfl har rfl (X _ _ hcode) rfl hvs hfile T.top ?_
  obtain ⟨mb, hb1, hb2⟩ := I.mod.blt
  refine PySem.W.ks_loadName_global S.kind hsup (PySem.Calls.loadGlobal_builtin (env := envF (nf name qual params scope cc cda) f s.heap.objs.size) (I.mod.glob.keeps I.bk) hms (hb1.keeps I.bk) ((hb2 _ (by decide)).trans (by decide +kernel)) ⟨rfl, ?_⟩)
  refine wpAny_loadName_free S.kind (S.frk "__class__" (by simp)) rfl ⟨_, X _ _ hcc, rfl⟩ ?_
  obtain ⟨m, hn, hlk⟩ := I.loc
  obtain ⟨u0, ru0, lk0⟩ := hlk 0 ar.arg (.ref a) hN0 hσ (.inl hka)
  obtain rfl : u0 = Value.ref a := ru0
  have hm0 : m ar.arg = some (.ref a) := by
    rcases lk0 with ⟨_, h⟩ | ⟨h, _⟩
    · exact h
    · have hka' : (ncx CX P w K mg base N (nf name qual params scope cc cda) f A outer s H E).env.kindOf ar.arg = some .local := hka
      rw [hka'] at h
      rcases h with h | h <;> cases h
  refine wpAny_loadName_local S.kind hka hn hm0 ?_
  refine PySem.ks_wpAny_isType_cls hD1 hD2 ⟨rfl, ?_⟩
  obtain ⟨t1, ho⟩ := exo_at I.hok ha
  refine PySem.ks_wpAny_call_super hD1 hD2 ho rfl (fun c e => by cases e) (PySem.W.looks_mroIn X T.sub) (fun h2 e2 k2 => ?_)
  have I2 := I.kept (t' := s.toks + (ps.zip us).length) (h' := h2) k2
  have hsup2 := T.sup
  unfold PySem.W.ks_superIn at hsup2
  rw [hcl] at hsup2
  have hI : PySem.W.Looks (model P w) h2 (isInstance (.ref a) (.type "ValueError")) true :=
    (PySem.W.InstAt.type (x := a) (C := C) (od := none) ⟨k2 _ _ ho, rfl, rfl, trivial⟩).andThen (PySem.W.looks_subIn I2.kIn T.subV)
  have hne : a ≠ C := fun z => by
    subst z
    rw [hD1] at ho; cases ho
    cases hD2
  refine PySem.W.kxs_getMethod PySem.W.kxs_ValueError e2 (PySem.W.looks_opaque I2.kIn T.nos) (l₀ := .ref C :: bm) ?_ rfl I2.kIn hsup2 hI hne (by decide) ?_
  · exact fun A Q E s k q => wpAny_bind ((PySem.W.looks_clsIn I2.kIn hcl) A _ E s k (wpAny_pure q))
  have hmw : (h2.push (PySem.W.kxs_mw "ValueError.__init__" a)).get? h2.objs.size = some (PySem.W.kxs_mw "ValueError.__init__" a) := Heap.get?_push_size _ rfl
  have I3 := I2.kept (t' := s.toks + (ps.zip us).length + 1) (h' := h2.push (PySem.W.kxs_mw "ValueError.__init__" a)) fun b o e => Heap.get?_push_of_some _ e
  have hfree : H h2.objs.size = none := I2.hok.fresh (Nat.le_refl _)
  have I4 := I3.pins_of (pins' := [(h2.objs.size, PySem.W.kxs_mw "ValueError.__init__" a)]) (fun p hp => by
    have e : p = (h2.objs.size, PySem.W.kxs_mw "ValueError.__init__" a) := by simpa using hp
    subst e
    exact ⟨hmw, hfree, Nat.ne_of_gt I2.lt, I2.nofs (Nat.le_refl _), fun v z => by cases z⟩)
  have fin : ∀ {σ' : L2.St} {H' : Hp} {v : V} {u : Value} {s' : Shared}, Inv (ncx CX P w K mg base N (nf name qual params scope cc cda) f A outer s H E) [] σ' H' s' → L2.RelV v u → Q v H' → CE outer P w H s Q u s' :=
    fun {σ' H' v u s'} J rv q => ⟨v, H', J.os, J.bare, J.base, J.hok, rv, q⟩
  rw [he]
  refine PySem.W.kxs_callWith (i := "ValueError.__init__") (x := a) (by show (false || (backTo p3 (starEach es _)).any (·.1)) = false; rw [hpl]; rfl) ?_
  refine PySem.Calls.evalArgs_plain ?_
  have hrun := hta.run p3 _ _ _ _ _ I4 hq
  rw [he] at hrun
  refine thn hrun fun us1 s3 ⟨ws, H1, J, rv, hlen, ha1, hqr⟩ => ?_
  have hmw3 := (J.pin _ (List.mem_append_right _ (List.mem_singleton.mpr rfl))).1
  refine ⟨hmw3, ?_⟩
  have J0 := J.pins_of (pins' := []) (fun p hp => by cases hp)
  refine bw_call TO J0 ha1 hmw3 (by rw [List.nil_append, ← rv.length, sizeLine_eq]; omega) fun s4 J4 => ?_
  refine PySem.wpAt_of_wpAny ?_
  refine wpAny_mono (htr.run [] _ _ _ _ J4 hqr) (fun fl s' hs => ?_) fun e s' hs => hs
  cases fl with
  | ret u =>
    obtain ⟨v, σ', H', J, rv, q⟩ := hs
    exact fin J rv q
  | next =>
    obtain ⟨σ', H', J, q⟩ := hs
    exact fin (v := V.non) (u := Value.none) J rfl q
  | brk =>
    obtain ⟨_, _, _, q⟩ := hs
    exact False.elim q
  | cont =>
    obtain ⟨_, _, _, q⟩ := hs
    exact False.elim q
end
end J

set_option Elab.async false
set_option linter.all false
set_option maxRecDepth 100000
set_option maxHeartbeats 4000000
namespace J
open PySem PySem.Spec PyProof.Rows L2

/-! ### values as trees -/
inductive D where
  | non | bl (b : Bool) | int (i : Int) | str (s : Str) | tup (xs : List D) | lst (xs : List D) | dct (ks vs : List D) | obj (c : Nat) (ns : List Nat) (vs : List D) | fn (n : Nat) | scr (xs : List D)

/-- what a proof says of the text: the written part, the classes' places, the exceptions' classes, the fields' names, the defs' places -/
structure Tab where
  K : PySem.W.Frag
  cls : Nat → Addr
  exc : Nat → Addr
  fnm : Nat → Str
  fna : Nat → Addr
  /-- in an except suite: the caught exception, its class, its dict -/
  ea : Option (Addr × Value × Option Addr) := none

def SOk (s : Str) : Prop := s.length ≤ sizeLine ∧ PyData.strOk s = true

instance (s : Str) : Decidable (SOk s) := inferInstanceAs (Decidable (_ ∧ _))
def keyD : D → Option Key
  | .int i => some (.inl i)
  | .str s => if SOk s then some (.inr s) else none
  | _ => none

mutual
def Rep (T : Tab) (G : Hp) : V → D → Prop
  | v, .non => v = .non
  | v, .bl b => v = .bl b
  | v, .int i => v = .int i
  | v, .str s => v = .str s ∧ SOk s
  | v, .tup ds => ∃ a xs, v = .ref a ∧ SqT T.K G a xs ∧ Reps T G xs ds
  | v, .lst ds => ∃ (a : Addr) (xs : List V), v = .ref a ∧ G a = some (.lst xs) ∧ Reps T G xs ds
  | v, .scr ds => ∃ a xs, v = .ref a ∧ SqL T.K G a xs ∧ Reps T G xs ds
  | v, .dct ks vs => ∃ (a : Addr) (kk : List (Key × V)) (od : Obj), v = .ref a ∧ G a = some (.frz od (.dK kk)) ∧ kk.map (fun p => some p.1) = ks.map keyD ∧ (kk.map (·.1)).Nodup ∧ Reps T G (kk.map (·.2)) vs
  | v, .obj c ns vs => ∃ (a dx : Addr) (fs : List (Str × V)), v = .ref a ∧ G a = some (.ins (T.cls c) dx fs) ∧ fs.map (·.1) = ns.map T.fnm ∧ Reps T G (fs.map (·.2)) vs
  | v, .fn n => v = .ref (T.fna n)
def Reps (T : Tab) (G : Hp) : List V → List D → Prop
  | xs, [] => xs = []
  | xs, d :: ds => ∃ x r, xs = x :: r ∧ Rep T G x d ∧ Reps T G r ds
end

theorem Same.seqT {K : PySem.W.Frag} {H H' : Hp} {a : Addr} {xs : List V} (e : L2.Same H H') (h : SqT K H a xs) : SqT K H' a xs := by
  rcases h with (h | ⟨o, h⟩) | h
  · exact .inl (.inl (e _ _ h))
  · exact .inl (.inr ⟨o, e _ _ h⟩)
  · exact .inr h

theorem Same.rd {H H' : Hp} {a : Addr} {u : HO} (e : L2.Same H H') (h : Rd H a u) : Rd H' a u := by
  rcases h with h | ⟨o, h⟩
  · exact .inl (e _ _ h)
  · exact .inr ⟨o, e _ _ h⟩
mutual
theorem Rep.mono {T : Tab} {G G' : Hp} (h : L2.Same G G') : ∀ {d : D} {v : V}, Rep T G v d → Rep T G' v d
  | .non, _, r => r
  | .bl _, _, r => r
  | .int _, _, r => r
  | .str _, _, r => r
  | .tup _, _, ⟨a, xs, e, q, r⟩ => ⟨a, xs, e, Same.seqT h q, Reps.mono h r⟩
  | .lst _, _, ⟨a, xs, e, q, r⟩ => ⟨a, xs, e, h _ _ q, Reps.mono h r⟩
  | .scr _, _, ⟨a, xs, e, q, r⟩ => ⟨a, xs, e, h.seq q, Reps.mono h r⟩
  | .dct _ _, _, ⟨a, kk, od, e, q, k, n, r⟩ => ⟨a, kk, od, e, h _ _ q, k, n, Reps.mono h r⟩
  | .obj _ _ _, _, ⟨a, dx, fs, e, q, k, r⟩ => ⟨a, dx, fs, e, h _ _ q, k, Reps.mono h r⟩
  | .fn _, _, r => r
theorem Reps.mono {T : Tab} {G G' : Hp} (h : L2.Same G G') : ∀ {ds : List D} {xs : List V}, Reps T G xs ds → Reps T G' xs ds
  | [], _, r => r
  | _ :: _, _, ⟨x, r, e, a, b⟩ => ⟨x, r, e, Rep.mono h a, Reps.mono h b⟩
end
theorem Reps.length {T : Tab} {G : Hp} : ∀ {ds : List D} {xs : List V}, Reps T G xs ds → xs.length = ds.length
  | [], _, r => by cases r; rfl
  | _ :: _, _, ⟨x, r, e, a, b⟩ => by subst e; simp [Reps.length b]
theorem Reps.get {T : Tab} {G : Hp} : ∀ {ds : List D} {xs : List V} {i : Nat} {x : V}, Reps T G xs ds → xs[i]? = some x → ∃ d, ds[i]? = some d ∧ Rep T G x d
  | [], _, _, _, r, h => by cases r; simp at h
  | d :: ds, _, 0, _, ⟨x, r, e, a, b⟩, h => by subst e; simp at h; subst h; exact ⟨d, rfl, a⟩
  | d :: ds, _, i + 1, _, ⟨x, r, e, a, b⟩, h => by
    subst e
    obtain ⟨d', e', a'⟩ := Reps.get (i := i) b (by simpa using h)
    exact ⟨d', by simpa using e', a'⟩
theorem Reps.getD {T : Tab} {G : Hp} : ∀ {ds : List D} {xs : List V} {i : Nat} {d : D}, Reps T G xs ds → ds[i]? = some d → ∃ x, xs[i]? = some x ∧ Rep T G x d
  | [], _, _, _, r, h => by simp at h
  | d :: ds, _, 0, _, ⟨x, r, e, a, b⟩, h => by subst e; simp at h; subst h; exact ⟨x, rfl, a⟩
  | d :: ds, _, i + 1, _, ⟨x, r, e, a, b⟩, h => by
    subst e
    obtain ⟨d', e', a'⟩ := Reps.getD (i := i) b (by simpa using h)
    exact ⟨d', by simpa using e', a'⟩
theorem Reps.app {T : Tab} {G : Hp} : ∀ {ds es : List D} {xs ys : List V}, Reps T G xs ds → Reps T G ys es → Reps T G (xs ++ ys) (ds ++ es)
  | [], _, _, _, r, q => by cases r; exact q
  | d :: ds, _, _, _, ⟨x, r, e, a, b⟩, q => by subst e; exact ⟨x, r ++ _, rfl, a, Reps.app b q⟩
theorem Reps.one {T : Tab} {G : Hp} {x : V} {d : D} (r : Rep T G x d) : Reps T G [x] [d] := ⟨x, [], rfl, r, rfl⟩
theorem Reps.take {T : Tab} {G : Hp} : ∀ {ds : List D} {xs : List V} (n : Nat), Reps T G xs ds → Reps T G (xs.take n) (ds.take n)
  | _, _, 0, _ => by simp [Reps]
  | [], _, _ + 1, r => by cases r; simp [Reps]
  | d :: ds, _, n + 1, ⟨x, r, e, a, b⟩ => by subst e; exact ⟨x, r.take n, rfl, a, Reps.take n b⟩
theorem Reps.drop {T : Tab} {G : Hp} : ∀ {ds : List D} {xs : List V} (n : Nat), Reps T G xs ds → Reps T G (xs.drop n) (ds.drop n)
  | _, _, 0, r => r
  | [], _, _ + 1, r => by cases r; simp [Reps]
  | d :: ds, _, n + 1, ⟨x, r, e, a, b⟩ => by subst e; exact Reps.drop n b
theorem Reps.set {T : Tab} {G : Hp} {y : V} {d' : D} (q : Rep T G y d') : ∀ {ds : List D} {xs : List V} (n : Nat), Reps T G xs ds → Reps T G (xs.set n y) (ds.set n d')
  | [], _, _, r => by cases r; simp [Reps]
  | d :: ds, _, 0, ⟨x, r, e, a, b⟩ => by subst e; exact ⟨y, r, rfl, q, b⟩
  | d :: ds, _, n + 1, ⟨x, r, e, a, b⟩ => by subst e; exact ⟨x, r.set n y, rfl, a, Reps.set q n b⟩
theorem Reps.of_get {T : Tab} {G : Hp} : ∀ {ds : List D} {xs : List V}, xs.length = ds.length → (∀ (i : Nat) (x : V) (d : D), xs[i]? = some x → ds[i]? = some d → Rep T G x d) → Reps T G xs ds
  | [], xs, hl, _ => by cases xs with | nil => rfl | cons => simp at hl
  | d :: ds, [], hl, _ => by simp at hl
  | d :: ds, x :: xs, hl, h => ⟨x, xs, rfl, h 0 x d rfl rfl, Reps.of_get (by simpa using hl) fun i y e h1 h2 => h (i + 1) y e (by simpa using h1) (by simpa using h2)⟩

/-- what an owned object holds -/
def RepO (T : Tab) (G : Hp) : HO → D → Prop
  | o, .lst ds => ∃ xs, o = .lst xs ∧ Reps T G xs ds
  | o, .dct ks vs => ∃ kk : List (Key × V), o = .dK kk ∧ kk.map (fun p => some p.1) = ks.map keyD ∧ (kk.map (·.1)).Nodup ∧ Reps T G (kk.map (·.2)) vs
  | o, .obj c ns vs => ∃ (dx : Addr) (fs : List (Str × V)), o = .ins (T.cls c) dx fs ∧ fs.map (·.1) = ns.map T.fnm ∧ Reps T G (fs.map (·.2)) vs
  | _, _ => False
theorem RepO.mono {T : Tab} {G G' : Hp} (h : L2.Same G G') {o : HO} {d : D} (r : RepO T G o d) : RepO T G' o d := by
  cases d with
  | lst ds => obtain ⟨xs, e, r⟩ := r; exact ⟨xs, e, r.mono h⟩
  | dct ks vs => obtain ⟨kk, e, k, n, r⟩ := r; exact ⟨kk, e, k, n, r.mono h⟩
  | obj c ns vs => obtain ⟨dx, fs, e, k, r⟩ := r; exact ⟨dx, fs, e, k, r.mono h⟩
  | _ => exact r.elim
/-- an owned object, frozen -/
def lkO (od : Obj) : HO → HO
  | .dK kk => .frz od (.dK kk)
  | o => o
theorem RepO.rep {T : Tab} {G : Hp} {o : HO} {d : D} {a : Addr} {od : Obj} (r : RepO T G o d) (hG : G a = some (lkO od o)) : Rep T G (.ref a) d := by
  cases d with
  | lst ds => obtain ⟨xs, rfl, r⟩ := r; exact ⟨a, xs, rfl, hG, r⟩
  | dct ks vs => obtain ⟨kk, rfl, k, n, r⟩ := r; exact ⟨a, kk, od, rfl, hG, k, n, r⟩
  | obj c ns vs => obtain ⟨dx, fs, rfl, k, r⟩ := r; exact ⟨a, dx, fs, rfl, hG, k, r⟩
  | _ => exact r.elim
theorem RepO.mut {T : Tab} {G : Hp} {o : HO} {d : D} (r : RepO T G o d) : Mut (some o) ∧ ∀ od, lkO od o = o ∨ ∃ kk, o = .dK kk := by
  cases d with
  | lst ds => obtain ⟨xs, rfl, r⟩ := r; exact ⟨True.intro, fun od => .inl rfl⟩
  | dct ks vs => obtain ⟨kk, rfl, k, n, r⟩ := r; exact ⟨True.intro, fun od => .inr ⟨_, rfl⟩⟩
  | obj c ns vs => obtain ⟨dx, fs, rfl, k, r⟩ := r; exact ⟨True.intro, fun od => .inl rfl⟩
  | _ => exact r.elim
/-- what is frozen is locked, if it is a dict -/
theorem pe_mlk {X : Cx} {e : Expr} {t : TE} (h : PE X e t) : PE X e (fun σ H Q => t σ H fun x H1 => Q x H1 ∨ ∃ a o, x = .ref a ∧ H1 a = some o ∧ (Mut (some o) ∧ ∀ od, lkO od o = o ∨ ∃ kk, o = .dK kk) ∧ ∀ od, Q x (upd H1 a (lkO od o))) := by
  refine ⟨fun pins s σ H Q I q => thn (h.run pins s σ H _ I q) fun u s1 ⟨x, H1, I1, rx, q1⟩ => ?_⟩
  rcases q1 with q1 | ⟨a, o, e, hh, ⟨mu, k⟩, q1⟩
  · exact ⟨x, H1, I1, rx, q1⟩
  · obtain ⟨od, I2⟩ := I1.lock hh mu
    rcases k od with k | ⟨kk, k⟩
    · have e2 : upd H1 a (lkO od o) = H1 := by
        rw [k]
        funext b
        by_cases hb : b = a
        · subst hb; rw [upd_same, hh]
        · rw [upd_ne hb]
      have q2 := q1 od
      rw [e2] at q2
      exact ⟨x, _, I1, rx, q2⟩
    · subst k
      exact ⟨x, _, I2, rx, q1 od⟩

/-- how an exception lies -/
def XRep (T : Tab) (G : Hp) (c : Nat) (ns : List Nat) (vs : List D) (cls : Value) (dx : Option Addr) : Prop :=
  cls = .ref (T.exc c) ∧ match dx with
    | none => ns = [] ∧ vs = []
    | some d => ∃ fs : List (Str × V), G d = some (.xd fs) ∧ fs.map (·.1) = ns.map T.fnm ∧ Reps T G (fs.map (·.2)) vs
theorem XRep.mono {T : Tab} {G G' : Hp} {c : Nat} {ns : List Nat} {vs : List D} {cls : Value} {dx : Option Addr} (h : L2.Same G G') (x : XRep T G c ns vs cls dx) : XRep T G' c ns vs cls dx := by
  obtain ⟨e, x⟩ := x
  refine ⟨e, ?_⟩
  cases dx with
  | none => exact x
  | some d =>
    obtain ⟨fs, h1, h2, h3⟩ := x
    exact ⟨fs, h _ _ h1, h2, h3.mono h⟩

/-- slot i holds the caught exception -/
def ExAt (T : Tab) (G : Hp) (σ : L2.St) (i c : Nat) (ns : List Nat) (vs : List D) : Prop := ∃ a cls dx, σ[i]? = some (some (.ref a)) ∧ T.ea = some (a, cls, dx) ∧ XRep T G c ns vs cls dx
theorem ExAt.mono {T : Tab} {G G' : Hp} {σ : L2.St} {i c : Nat} {ns : List Nat} {vs : List D} (x : ExAt T G σ i c ns vs) (h : L2.Same G G') : ExAt T G' σ i c ns vs := by
  obtain ⟨a, cls, dx, e1, e2, x⟩ := x
  exact ⟨a, cls, dx, e1, e2, x.mono h⟩
theorem ExAt.at {T : Tab} {G : Hp} {σ σ' : L2.St} {i c : Nat} {ns : List Nat} {vs : List D} (x : ExAt T G σ i c ns vs) (h : σ'[i]? = σ[i]?) : ExAt T G σ' i c ns vs := by
  obtain ⟨a, cls, dx, e1, e2, x⟩ := x
  exact ⟨a, cls, dx, h.trans e1, e2, x⟩

/-! ### slots -/
inductive Sl where
  | no | sh (d : D) | ow (d : D) | ex (c : Nat) (ns : List Nat) (vs : List D)
abbrev En := List Sl
/-- U: what others own; G: what is never changed any more -/
structure Rel (T : Tab) (U G H : Hp) (σ : L2.St) (ρ : En) : Prop where
  same : L2.Same G H
  len : σ.length = ρ.length
  sh : ∀ (i : Nat) (d : D), ρ[i]? = some (.sh d) → ∃ v, σ[i]? = some (some v) ∧ Rep T G v d
  ow : ∀ (i : Nat) (d : D), ρ[i]? = some (.ow d) → ∃ a o, σ[i]? = some (some (.ref a)) ∧ G a = none ∧ U a = none ∧ H a = some o ∧ RepO T G o d
  dist : ∀ (i j : Nat) (di dj : D) (a : Addr), ρ[i]? = some (.ow di) → ρ[j]? = some (.ow dj) → σ[i]? = some (some (.ref a)) → σ[j]? = some (some (.ref a)) → i = j
  out : ∀ a o, U a = some o → H a = some o ∧ G a = none
  exn : ∀ (i c : Nat) (ns : List Nat) (vs : List D), ρ[i]? = some (.ex c ns vs) → ExAt T G σ i c ns vs

theorem same_upd {G : Hp} {p : Addr} {o : HO} (h : G p = none) : L2.Same G (upd G p o) := fun b q e => by
  rw [upd_ne (ne_of_none e h)]; exact e
theorem same_upd2 {G H : Hp} {p : Addr} {o : HO} (h : L2.Same G H) : L2.Same (upd G p o) (upd H p o) := fun b q e => by
  by_cases hb : b = p
  · subst hb; rw [upd_same] at e ⊢; exact e
  · rw [upd_ne hb] at e ⊢; exact h _ _ e
theorem same_own {G H : Hp} {p : Addr} {o : HO} (h : L2.Same G H) (n : G p = none) : L2.Same G (upd H p o) := fun b q e => by
  rw [upd_ne (ne_of_none e n)]; exact h _ _ e
section
variable {T : Tab} {U G H : Hp} {σ : L2.St} {ρ : En} {p : Addr} {o : HO}
theorem Rel.gfree (R : Rel T U G H σ ρ) (h : H p = none) : G p = none := L2.Same.free R.same h
theorem Rel.ufree (R : Rel T U G H σ ρ) (h : H p = none) : U p = none := by
  cases e : U p with
  | none => rfl
  | some o => rw [(R.out p o e).1] at h; cases h
/-- a new object that is never changed -/
theorem Rel.alloc (R : Rel T U G H σ ρ) (h : H p = none) : Rel T U (upd G p o) (upd H p o) σ ρ := by
  have s := same_upd (o := o) (R.gfree h)
  refine ⟨same_upd2 R.same, R.len, fun i d e => ?_, fun i d e => ?_, R.dist, fun a q e => ?_, fun i c ns vs e => (R.exn i c ns vs e).mono s⟩
  · obtain ⟨v, e1, r⟩ := R.sh i d e
    exact ⟨v, e1, r.mono s⟩
  · obtain ⟨a, q, e1, g, u, hh, r⟩ := R.ow i d e
    have ne := ne_of_none hh h
    exact ⟨a, q, e1, by rw [upd_ne ne]; exact g, u, by rw [upd_ne ne]; exact hh, r.mono s⟩
  · obtain ⟨h1, h2⟩ := R.out a q e
    have ne := ne_of_none h1 h
    exact ⟨by rw [upd_ne ne]; exact h1, by rw [upd_ne ne]; exact h2⟩
/-- a new object that is owned by nobody's slot yet: it is held by U -/
theorem Rel.hold (R : Rel T U G H σ ρ) (h : H p = none) : Rel T (upd U p o) G (upd H p o) σ ρ := by
  refine ⟨same_own R.same (R.gfree h), R.len, R.sh, fun i d e => ?_, R.dist, fun a q e => ?_, R.exn⟩
  · obtain ⟨a, q, e1, g, u, hh, r⟩ := R.ow i d e
    have ne := ne_of_none hh h
    exact ⟨a, q, e1, g, by rw [upd_ne ne]; exact u, by rw [upd_ne ne]; exact hh, r⟩
  · by_cases ha : a = p
    · subst ha; rw [upd_same] at e ⊢; exact ⟨e, R.gfree h⟩
    · rw [upd_ne ha] at e
      obtain ⟨h1, h2⟩ := R.out a q e
      exact ⟨by rw [upd_ne ha]; exact h1, h2⟩
/-- a held object is changed -/
theorem Rel.held {o' : HO} (R : Rel T U G H σ ρ) (h : U p = some o) : Rel T (upd U p o') G (upd H p o') σ ρ := by
  obtain ⟨h1, h2⟩ := R.out p o h
  refine ⟨same_own R.same h2, R.len, R.sh, fun i d e => ?_, R.dist, fun a q e => ?_, R.exn⟩
  · obtain ⟨a, q, e1, g, u, hh, r⟩ := R.ow i d e
    have ne : a ≠ p := fun z => by subst z; rw [h] at u; cases u
    exact ⟨a, q, e1, g, by rw [upd_ne ne]; exact u, by rw [upd_ne ne]; exact hh, r⟩
  · by_cases ha : a = p
    · subst ha; rw [upd_same] at e ⊢; exact ⟨e, h2⟩
    · rw [upd_ne ha] at e
      obtain ⟨h3, h4⟩ := R.out a q e
      exact ⟨by rw [upd_ne ha]; exact h3, h4⟩
def unheld (U : Hp) (p : Addr) : Hp := fun b => if b = p then none else U b
theorem unheld_same {p : Addr} : unheld U p p = none := if_pos rfl
theorem unheld_ne {p b : Addr} (h : b ≠ p) : unheld U p b = U b := if_neg h
/-- .. is let go -/
theorem Rel.unhold (R : Rel T U G H σ ρ) : Rel T (unheld U p) G H σ ρ := by
  refine ⟨R.same, R.len, R.sh, fun i d e => ?_, R.dist, fun a q e => ?_, R.exn⟩
  · obtain ⟨a, q, e1, g, u, hh, r⟩ := R.ow i d e
    refine ⟨a, q, e1, g, ?_, hh, r⟩
    by_cases ha : a = p
    · subst ha; exact unheld_same
    · rw [unheld_ne ha]; exact u
  · by_cases ha : a = p
    · subst ha; rw [unheld_same] at e; cases e
    · rw [unheld_ne ha] at e; exact R.out a q e
/-- .. is frozen -/
theorem Rel.freeze (R : Rel T U G H σ ρ) (hU : U p = none) (hG : G p = none) (hH : H p = some o) (hn : ∀ (i : Nat) (d : D), ρ[i]? = some (.ow d) → σ[i]? ≠ some (some (.ref p))) : Rel T U (upd G p o) H σ ρ := by
  have s := same_upd (o := o) hG
  refine ⟨fun b q e => ?_, R.len, fun i d e => ?_, fun i d e => ?_, R.dist, fun a q e => ?_, fun i c ns vs e => (R.exn i c ns vs e).mono s⟩
  · by_cases hb : b = p
    · subst hb; rw [upd_same] at e; cases e; exact hH
    · rw [upd_ne hb] at e; exact R.same _ _ e
  · obtain ⟨v, e1, r⟩ := R.sh i d e
    exact ⟨v, e1, r.mono s⟩
  · obtain ⟨a, q, e1, g, u, hh, r⟩ := R.ow i d e
    have ne : a ≠ p := fun z => by subst z; exact hn i d e e1
    exact ⟨a, q, e1, by rw [upd_ne ne]; exact g, u, hh, r.mono s⟩
  · obtain ⟨h1, h2⟩ := R.out a q e
    have ne : a ≠ p := fun z => by subst z; rw [hU] at e; cases e
    exact ⟨h1, by rw [upd_ne ne]; exact h2⟩
theorem Rel.freezeTo {o' : HO} (R : Rel T U G H σ ρ) (hU : U p = none) (hG : G p = none) (hH : H p = some o) (hn : ∀ (i : Nat) (d : D), ρ[i]? = some (.ow d) → σ[i]? ≠ some (some (.ref p))) : Rel T U (upd G p o') (upd H p o') σ ρ := by
  have s := same_upd (o := o') hG
  refine ⟨same_upd2 R.same, R.len, fun i d e => ?_, fun i d e => ?_, R.dist, fun a q e => ?_, fun i c ns vs e => (R.exn i c ns vs e).mono s⟩
  · obtain ⟨v, e1, r⟩ := R.sh i d e
    exact ⟨v, e1, r.mono s⟩
  · obtain ⟨a, q, e1, g, u, hh, r⟩ := R.ow i d e
    have ne : a ≠ p := fun z => by subst z; exact hn i d e e1
    exact ⟨a, q, e1, by rw [upd_ne ne]; exact g, u, by rw [upd_ne ne]; exact hh, r.mono s⟩
  · obtain ⟨h1, h2⟩ := R.out a q e
    have ne : a ≠ p := fun z => by subst z; rw [hU] at e; cases e
    exact ⟨by rw [upd_ne ne]; exact h1, by rw [upd_ne ne]; exact h2⟩
theorem Rel.lt (R : Rel T U G H σ ρ) {i : Nat} {v : Option V} (h : σ[i]? = some v) : i < ρ.length := by
  rw [← R.len]; exact (List.getElem?_eq_some_iff.mp h).1
theorem get_set {α : Type} {l : List α} {i j : Nat} {x y : α} (h : (l.set i x)[j]? = some y) : (j = i ∧ x = y) ∨ (j ≠ i ∧ l[j]? = some y) := by
  by_cases hj : j = i
  · subst hj
    by_cases hl : j < l.length
    · rw [List.getElem?_set_self hl] at h; exact .inl ⟨rfl, Option.some.inj h⟩
    · rw [List.getElem?_eq_none (by simpa using hl)] at h; cases h
  · rw [List.getElem?_set_ne (Ne.symm hj)] at h; exact .inr ⟨hj, h⟩
theorem set_get_ne {α : Type} {l : List α} {i j : Nat} {x : α} (h : j ≠ i) : (l.set i x)[j]? = l[j]? := List.getElem?_set_ne (Ne.symm h)
theorem set_get_same {α : Type} {l : List α} {i : Nat} {x : α} (h : i < l.length) : (l.set i x)[i]? = some x := List.getElem?_set_self h
/-- a slot takes a value that is never changed -/
theorem Rel.setSh {i : Nat} {v : V} {d : D} (R : Rel T U G H σ ρ) (r : Rep T G v d) : Rel T U G H (σ.set i (some v)) (ρ.set i (.sh d)) := by
  refine ⟨R.same, by simp [R.len], fun j e h => ?_, fun j e h => ?_, fun j k dj dk a h1 h2 h3 h4 => ?_, R.out, fun j c ns vs h => by
    rcases get_set h with ⟨_, e1⟩ | ⟨hj, h⟩
    · cases e1
    · exact (R.exn j c ns vs h).at (set_get_ne hj)⟩
  · rcases get_set h with ⟨rfl, e1⟩ | ⟨hj, h⟩
    · cases e1
      have hl : j < ρ.length := by
        have := (List.getElem?_eq_some_iff.mp h).1
        simpa using this
      exact ⟨v, set_get_same (by rw [R.len]; exact hl), r⟩
    · obtain ⟨u, e1, q⟩ := R.sh j e h
      exact ⟨u, by rw [set_get_ne hj]; exact e1, q⟩
  · rcases get_set h with ⟨_, e1⟩ | ⟨hj, h⟩
    · cases e1
    · obtain ⟨a, q, e1, r⟩ := R.ow j e h
      exact ⟨a, q, by rw [set_get_ne hj]; exact e1, r⟩
  · rcases get_set h1 with ⟨_, e1⟩ | ⟨hj, h1⟩
    · cases e1
    · rcases get_set h2 with ⟨_, e1⟩ | ⟨hk, h2⟩
      · cases e1
      · rw [set_get_ne hj] at h3
        rw [set_get_ne hk] at h4
        exact R.dist j k dj dk a h1 h2 h3 h4
/-- a slot takes an owned object, held by nobody -/
theorem Rel.setOw {i : Nat} {d : D} (R : Rel T U G H σ ρ) (hU : U p = none) (hG : G p = none) (hH : H p = some o) (r : RepO T G o d) (hn : ∀ (i : Nat) (d : D), ρ[i]? = some (.ow d) → σ[i]? ≠ some (some (.ref p))) :
    Rel T U G H (σ.set i (some (.ref p))) (ρ.set i (.ow d)) := by
  refine ⟨R.same, by simp [R.len], fun j e h => ?_, fun j e h => ?_, fun j k dj dk a h1 h2 h3 h4 => ?_, R.out, fun j c ns vs h => by
    rcases get_set h with ⟨_, e1⟩ | ⟨hj, h⟩
    · cases e1
    · exact (R.exn j c ns vs h).at (set_get_ne hj)⟩
  · rcases get_set h with ⟨_, e1⟩ | ⟨hj, h⟩
    · cases e1
    · obtain ⟨u, e1, q⟩ := R.sh j e h
      exact ⟨u, by rw [set_get_ne hj]; exact e1, q⟩
  · rcases get_set h with ⟨rfl, e1⟩ | ⟨hj, h⟩
    · cases e1
      have hl : j < ρ.length := by
        have := (List.getElem?_eq_some_iff.mp h).1
        simpa using this
      exact ⟨p, o, set_get_same (by rw [R.len]; exact hl), hG, hU, hH, r⟩
    · obtain ⟨a, q, e1, r⟩ := R.ow j e h
      exact ⟨a, q, by rw [set_get_ne hj]; exact e1, r⟩
  · rcases get_set h1 with ⟨ej, _⟩ | ⟨hj, h1'⟩
    · rcases get_set h2 with ⟨ek, _⟩ | ⟨hk, h2'⟩
      · rw [ej, ek]
      · rw [set_get_ne hk] at h4
        rcases get_set h3 with ⟨_, e3⟩ | ⟨hj, _⟩
        · cases e3
          exact absurd h4 (hn k dk h2')
        · exact absurd ej hj
    · rcases get_set h2 with ⟨ek, _⟩ | ⟨hk, h2'⟩
      · rw [set_get_ne hj] at h3
        rcases get_set h4 with ⟨_, e4⟩ | ⟨hk, _⟩
        · cases e4
          exact absurd h3 (hn j dj h1')
        · exact absurd ek hk
      · rw [set_get_ne hj] at h3
        rw [set_get_ne hk] at h4
        exact R.dist j k dj dk a h1' h2' h3 h4
/-- a slot is forgotten; its object, if it was owned, is anybody's -/
theorem Rel.setNo {i : Nat} (R : Rel T U G H σ ρ) : Rel T U G H σ (ρ.set i .no) := by
  refine ⟨R.same, by simp [R.len], fun j e h => ?_, fun j e h => ?_, fun j k dj dk a h1 h2 h3 h4 => ?_, R.out, fun j c ns vs h => by
    rcases get_set h with ⟨_, e1⟩ | ⟨hj, h⟩
    · cases e1
    · exact R.exn j c ns vs h⟩
  · rcases get_set h with ⟨_, e1⟩ | ⟨hj, h⟩
    · cases e1
    · exact R.sh j e h
  · rcases get_set h with ⟨_, e1⟩ | ⟨hj, h⟩
    · cases e1
    · exact R.ow j e h
  · rcases get_set h1 with ⟨_, e1⟩ | ⟨hj, h1⟩
    · cases e1
    · rcases get_set h2 with ⟨_, e1⟩ | ⟨hk, h2⟩
      · cases e1
      · exact R.dist j k dj dk a h1 h2 h3 h4
/-- an owned slot's object is changed -/
theorem Rel.put {i : Nat} {d d' : D} {o' : HO} (R : Rel T U G H σ ρ) (hρ : ρ[i]? = some (.ow d)) (hσ : σ[i]? = some (some (.ref p))) (r : RepO T G o' d') :
    Rel T U G (upd H p o') σ (ρ.set i (.ow d')) := by
  obtain ⟨a, q, e1, g, u, hh, _⟩ := R.ow i d hρ
  rw [hσ] at e1
  have e1 := Option.some.inj (Option.some.inj e1)
  cases e1
  refine ⟨same_own R.same g, by simp [R.len], fun j e h => ?_, fun j e h => ?_, fun j k dj dk a h1 h2 h3 h4 => ?_, fun a q e => ?_, fun j c ns vs h => by
    rcases get_set h with ⟨_, e1⟩ | ⟨hj, h⟩
    · cases e1
    · exact R.exn j c ns vs h⟩
  · rcases get_set h with ⟨_, e1⟩ | ⟨hj, h⟩
    · cases e1
    · exact R.sh j e h
  · rcases get_set h with ⟨rfl, e1⟩ | ⟨hj, h⟩
    · cases e1
      exact ⟨p, o', hσ, g, u, upd_same, r⟩
    · obtain ⟨a, q, e2, g1, u1, h1, r1⟩ := R.ow j e h
      have ne : a ≠ p := fun z => by subst z; exact hj (R.dist j i e d a h hρ e2 hσ)
      exact ⟨a, q, e2, g1, u1, by rw [upd_ne ne]; exact h1, r1⟩
  · have key : ∀ {k : Nat} {dk : D}, (ρ.set i (Sl.ow d'))[k]? = some (Sl.ow dk) → ∃ dk', ρ[k]? = some (Sl.ow dk') := fun {k dk} h => by
      rcases get_set h with ⟨e, _⟩ | ⟨_, h⟩
      · exact ⟨d, by rw [e]; exact hρ⟩
      · exact ⟨dk, h⟩
    obtain ⟨d1, k1⟩ := key h1
    obtain ⟨d2, k2⟩ := key h2
    exact R.dist j k d1 d2 a k1 k2 h3 h4
  · obtain ⟨h1, h2⟩ := R.out a q e
    have ne : a ≠ p := fun z => by subst z; rw [u] at e; cases e
    exact ⟨by rw [upd_ne ne]; exact h1, h2⟩
/-- an owned slot is frozen -/
theorem Rel.share {i : Nat} {d : D} (R : Rel T U G H σ ρ) (hρ : ρ[i]? = some (.ow d)) : ∃ a o, σ[i]? = some (some (.ref a)) ∧ G a = none ∧ H a = some o ∧ RepO T G o d ∧ ∀ od, Rel T U (upd G a (lkO od o)) (upd H a (lkO od o)) σ (ρ.set i (.sh d)) := by
  obtain ⟨a, o, e1, g, u, hh, r⟩ := R.ow i d hρ
  refine ⟨a, o, e1, g, hh, r, fun od => ?_⟩
  have R1 := (R.setNo (i := i)).freezeTo (o' := lkO od o) u g hh (fun j e h z => by
    rcases get_set h with ⟨_, e1⟩ | ⟨hj, h⟩
    · cases e1
    · exact hj (R.dist j i e d a h hρ z e1))
  have q := R1.setSh (i := i) ((r.mono (same_upd g)).rep upd_same)
  have es : σ.set i (some (.ref a)) = σ := by
    apply List.ext_getElem?
    intro j
    by_cases hj : j = i
    · subst hj
      rw [set_get_same (by exact (List.getElem?_eq_some_iff.mp e1).1), e1]
    · rw [set_get_ne hj]
  have er : (ρ.set i .no).set i (.sh d) = ρ.set i (.sh d) := by rw [List.set_set]
  rw [es, er] at q
  exact q
end

/-! ### results -/
inductive Rs (α : Type) where
  | ok (a : α) (ρ : En)
  | ex (c : Nat) (ns : List Nat) (vs : List D) (ρ : En)
  | bad
def Rs.bnd {α β : Type} (r : Rs α) (k : α → En → Rs β) : Rs β :=
  match r with
  | .ok a ρ => k a ρ
  | .ex c ns vs ρ => .ex c ns vs ρ
  | .bad => .bad
@[simp] theorem Rs.bnd_ok {α β : Type} (a : α) (ρ : En) (k : α → En → Rs β) : (Rs.ok a ρ).bnd k = k a ρ := rfl
@[simp] theorem Rs.bnd_ex {α β : Type} (c : Nat) (ns : List Nat) (vs : List D) (ρ : En) (k : α → En → Rs β) : (Rs.ex c ns vs ρ : Rs α).bnd k = .ex c ns vs ρ := rfl
@[simp] theorem Rs.bnd_bad {α β : Type} (k : α → En → Rs β) : (Rs.bad : Rs α).bnd k = .bad := rfl

/-- what must hold behind an evaluation that gives an α -/
def Pst {α : Type} (T : Tab) (U : Hp) (σ : L2.St) (G : Hp) (r : Rs α) (Q : α → Hp → Hp → En → Prop) (W : WX) : Prop :=
  match r with
  | .ok a ρ' => ∀ G' H', Rel T U G' H' σ ρ' → L2.Same G G' → Q a G' H' ρ'
  | .ex c ns vs ρ' => ∀ cls dx G' H', Rel T U G' H' σ ρ' → L2.Same G G' → XRep T G' c ns vs cls dx → W cls dx σ H'
  | .bad => False
theorem Pst.mono {α : Type} {T : Tab} {U : Hp} {σ : L2.St} {G G1 : Hp} {r : Rs α} {Q Q' : α → Hp → Hp → En → Prop} {W : WX} (h : Pst T U σ G r Q W) (s : L2.Same G G1) (hq : ∀ a G' H' ρ', L2.Same G1 G' → Q a G' H' ρ' → Q' a G' H' ρ') : Pst T U σ G1 r Q' W := by
  cases r with
  | ok a ρ' => exact fun G' H' R s' => hq _ _ _ _ s' (h G' H' R (s.trans s'))
  | ex c ns vs ρ' => exact fun cls dx G' H' R s' x => h cls dx G' H' R (s.trans s') x
  | bad => exact h
theorem Pst.bnd {α β : Type} {T : Tab} {U : Hp} {σ : L2.St} {G : Hp} {r : Rs α} {k : α → En → Rs β} {Q : β → Hp → Hp → En → Prop} {W : WX} (h : Pst T U σ G (r.bnd k) Q W) :
    Pst T U σ G r (fun a G' H' ρ' => Rel T U G' H' σ ρ' ∧ L2.Same G G' ∧ Pst T U σ G' (k a ρ') Q W) W := by
  cases r with
  | ok a ρ' => exact fun G' H' R s => ⟨R, s, Pst.mono (r := k a ρ') h s fun _ _ _ _ _ z => z⟩
  | ex c ns vs ρ' => exact h
  | bad => exact h

abbrev EF := En → Rs D
abbrev TF := En → Rs Bool
abbrev LF := En → Rs (List D)
/-- an expression that gives a value never changed again -/
def tE (T : Tab) (W : WX) (f : EF) : TE := fun σ H Q => ∃ U G ρ, Rel T U G H σ ρ ∧ Pst T U σ G (f ρ) (fun d G' H' _ => ∀ v, Rep T G' v d → Q v H') W
/-- a test -/
def tT (T : Tab) (W : WX) (f : TF) : TT := fun σ H Q => ∃ U G ρ, Rel T U G H σ ρ ∧ Pst T U σ G (f ρ) (fun b _ H' _ => Q b H') W
/-- an expression that gives a new object, owned by nobody -/
def tO (T : Tab) (W : WX) (f : EF) : TE := fun σ H Q => ∃ U G ρ, Rel T U G H σ ρ ∧
  Pst T U σ G (f ρ) (fun d G' H' ρ' => ∀ p o, G' p = none → U p = none → H' p = some o → RepO T G' o d → (∀ (i : Nat) (d : D), ρ'[i]? = some (.ow d) → σ[i]? ≠ some (some (.ref p))) → Q (.ref p) H') W
/-- arguments: values, or owned slots that are lent -/
inductive Ar where
  | v (d : D) | s (i : Nat)
def ArOk (T : Tab) (G : Hp) (σ : L2.St) : V → Ar → Prop
  | v, .v d => Rep T G v d
  | v, .s i => σ[i]? = some (some v)
theorem ArOk.mono {T : Tab} {G G' : Hp} {σ : L2.St} (s : L2.Same G G') {v : V} {a : Ar} (h : ArOk T G σ v a) : ArOk T G' σ v a := by
  cases a with
  | v d => exact Rep.mono s h
  | s i => exact h
/-- an operand that is only looked at -/
def tR (T : Tab) (W : WX) (f : En → Rs Ar) : TE := fun σ H Q => ∃ U G ρ, Rel T U G H σ ρ ∧ Pst T U σ G (f ρ) (fun a G' H' _ => ∀ v, ArOk T G' σ v a → Q v H') W
abbrev AF := En → Rs (List Ar)
def ArsOk (T : Tab) (G : Hp) (σ : L2.St) : List V → List Ar → Prop
  | [], [] => True
  | v :: vs, a :: as => ArOk T G σ v a ∧ ArsOk T G σ vs as
  | _, _ => False
def tA (T : Tab) (W : WX) (f : AF) : TA := fun σ H Q => ∃ U G ρ, Rel T U G H σ ρ ∧ Pst T U σ G (f ρ) (fun as G' H' _ => ∀ vs, ArsOk T G' σ vs as → Q vs H') W

/-! ### the judgements -/
def Keeps (ws : List Nat) (σ σ' : L2.St) : Prop := σ'.length = σ.length ∧ ∀ (j : Nat), j ∉ ws → σ'[j]? = σ[j]?
inductive Fl where
  | nx | rt (d : D)
abbrev SF := En → Rs Fl
def PstS (T : Tab) (W : WX) (ws : List Nat) (D : Ends) (U : Hp) (σ : L2.St) (G : Hp) (r : Rs Fl) : Prop :=
  match r with
  | .ok .nx ρ' => ∀ σ' G' H', Rel T U G' H' σ' ρ' → L2.Same G G' → Keeps ws σ σ' → D.nx σ' H'
  | .ok (.rt d) ρ' => ∀ v σ' G' H', Rel T U G' H' σ' ρ' → L2.Same G G' → Keeps ws σ σ' → Rep T G' v d → D.rt v H'
  | .ex c ns vs ρ' => ∀ cls dx σ' G' H', Rel T U G' H' σ' ρ' → L2.Same G G' → Keeps ws σ σ' → XRep T G' c ns vs cls dx → W cls dx σ' H'
  | .bad => False
/-- a statement that stores into the slots ws -/
def tS (T : Tab) (W : WX) (ws : List Nat) (f : SF) : TS := fun D σ H => ∃ U G ρ, Rel T U G H σ ρ ∧ PstS T W ws D U σ G (f ρ)

structure JE (X : Cx) (T : Tab) (W : WX) (e : Expr) (f : EF) : Prop where
  k : X.K = T.K
  run : PE X e (tE T W f)
structure JO (X : Cx) (T : Tab) (W : WX) (e : Expr) (f : EF) : Prop where
  k : X.K = T.K
  run : PE X e (tO T W f)
structure JR (X : Cx) (T : Tab) (W : WX) (e : Expr) (f : En → Rs Ar) : Prop where
  k : X.K = T.K
  run : PE X e (tR T W f)
structure JT (X : Cx) (T : Tab) (W : WX) (e : Expr) (f : TF) : Prop where
  k : X.K = T.K
  run : PT X e (tT T W f)
structure JA (X : Cx) (T : Tab) (W : WX) (es : List Expr) (f : AF) : Prop where
  k : X.K = T.K
  len : ∀ ρ as ρ', f ρ = .ok as ρ' → as.length = es.length
  run : PA X es (tA T W f)
structure JS (X : Cx) (T : Tab) (W : WX) (ws : List Nat) (st : Stmt) (f : SF) : Prop where
  k : X.K = T.K
  run : PS X st (tS T W ws f)
structure JSs (X : Cx) (T : Tab) (W : WX) (ws : List Nat) (sts : List Stmt) (f : SF) : Prop where
  k : X.K = T.K
  run : PSs X sts (tS T W ws f)

theorem pe_imp {X : Cx} {e : Expr} {t t' : TE} (h : PE X e t) (hi : ∀ σ H Q, t' σ H Q → t σ H Q) : PE X e t' := ⟨fun pins s σ H Q I q => h.run pins s σ H Q I (hi _ _ _ q)⟩
theorem pt_imp {X : Cx} {e : Expr} {t t' : TT} (h : PT X e t) (hi : ∀ σ H Q, t' σ H Q → t σ H Q) : PT X e t' := ⟨fun pins s σ H Q I q => h.run pins s σ H Q I (hi _ _ _ q)⟩
theorem pa_imp {X : Cx} {e : List Expr} {t t' : TA} (h : PA X e t) (hi : ∀ σ H Q, t' σ H Q → t σ H Q) : PA X e t' := ⟨fun pos pins s σ H Q I q => h.run pos pins s σ H Q I (hi _ _ _ q)⟩
theorem ps_imp {X : Cx} {e : Stmt} {t t' : TS} (h : PS X e t) (hi : ∀ D σ H, t' D σ H → t D σ H) : PS X e t' := ⟨fun pins s σ H D I q => h.run pins s σ H D I (hi _ _ _ q)⟩
theorem pss_imp {X : Cx} {e : List Stmt} {t t' : TS} (h : PSs X e t) (hi : ∀ D σ H, t' D σ H → t D σ H) : PSs X e t' := ⟨fun pins s σ H D I q => h.run pins s σ H D I (hi _ _ _ q)⟩
end J

set_option Elab.async false
set_option linter.all false
set_option maxRecDepth 100000
set_option maxHeartbeats 4000000
namespace J
open PySem PySem.Spec PyProof.Rows L2

/-! ### operands -/
def look (ρ : En) : Ar → Option D
  | .v d => some d
  | .s i => match ρ[i]? with
    | some (.sh d) => some d
    | some (.ow d) => some d
    | _ => none
@[simp] theorem look_v (ρ : En) (d : D) : look ρ (.v d) = some d := rfl
def RepH (T : Tab) (G H : Hp) (v : V) (d : D) : Prop := Rep T G v d ∨ ∃ p o, v = .ref p ∧ H p = some o ∧ RepO T G o d
section
variable {T : Tab} {U G H : Hp} {σ : L2.St} {ρ : En}
theorem look_ok (R : Rel T U G H σ ρ) {v : V} {a : Ar} {d : D} (h : ArOk T G σ v a) (e : look ρ a = some d) : RepH T G H v d := by
  cases a with
  | v d' => cases e; exact .inl h
  | s i =>
    have e : (match ρ[i]? with | some (.sh d) => some d | some (.ow d) => some d | _ => none) = some d := e
    cases q : ρ[i]? with
    | none => rw [q] at e; cases e
    | some sl =>
      rw [q] at e
      cases sl with
      | no => cases e
      | ex _ _ _ => cases e
      | sh d' =>
        cases e
        obtain ⟨u, e1, r⟩ := R.sh i _ q
        rw [show σ[i]? = some (some v) from h] at e1
        cases e1
        exact .inl r
      | ow d' =>
        cases e
        obtain ⟨p, o, e1, g, u, hh, r⟩ := R.ow i _ q
        rw [show σ[i]? = some (some v) from h] at e1
        cases e1
        exact .inr ⟨p, o, rfl, hh, r⟩
theorem RepH.int {v : V} {i : Int} (h : RepH T G H v (.int i)) : v = .int i := by
  rcases h with h | ⟨_, _, _, _, h⟩
  · exact h
  · exact h.elim
theorem RepH.bl {v : V} {i : Bool} (h : RepH T G H v (.bl i)) : v = .bl i := by
  rcases h with h | ⟨_, _, _, _, h⟩
  · exact h
  · exact h.elim
theorem RepH.str {v : V} {i : Str} (h : RepH T G H v (.str i)) : v = .str i ∧ SOk i := by
  rcases h with h | ⟨_, _, _, _, h⟩
  · exact h
  · exact h.elim
theorem RepH.non {v : V} (h : RepH T G H v .non) : v = .non := by
  rcases h with h | ⟨_, _, _, _, h⟩
  · exact h
  · exact h.elim
theorem RepH.tup {v : V} {ds : List D} (s : L2.Same G H) (h : RepH T G H v (.tup ds)) : ∃ a xs, v = .ref a ∧ SqT T.K H a xs ∧ SqT T.K G a xs ∧ Reps T G xs ds := by
  rcases h with ⟨a, xs, e, q, r⟩ | ⟨_, _, _, _, h⟩
  · exact ⟨a, xs, e, Same.seqT s q, q, r⟩
  · exact h.elim
theorem RepH.lst {v : V} {ds : List D} (s : L2.Same G H) (h : RepH T G H v (.lst ds)) : ∃ (a : Addr) (xs : List V), v = .ref a ∧ H a = some (.lst xs) ∧ Reps T G xs ds := by
  rcases h with ⟨a, xs, e, q, r⟩ | ⟨p, o, e, hh, xs, rfl, r⟩
  · exact ⟨a, xs, e, s _ _ q, r⟩
  · exact ⟨p, xs, e, hh, r⟩
theorem RepH.scr {v : V} {ds : List D} (s : L2.Same G H) (h : RepH T G H v (.scr ds)) : ∃ (a : Addr) (xs : List V), v = .ref a ∧ SqL T.K H a xs ∧ Reps T G xs ds := by
  rcases h with ⟨a, xs, e, q, r⟩ | ⟨_, _, _, _, h⟩
  · exact ⟨a, xs, e, s.seq q, r⟩
  · exact h.elim
theorem RepH.dct {v : V} {ks vs : List D} (s : L2.Same G H) (h : RepH T G H v (.dct ks vs)) : ∃ (a : Addr) (kk : List (Key × V)), v = .ref a ∧ Rd H a (.dK kk) ∧ kk.map (fun p => some p.1) = ks.map keyD ∧ (kk.map (·.1)).Nodup ∧ Reps T G (kk.map (·.2)) vs := by
  rcases h with ⟨a, kk, od, e, q, r⟩ | ⟨p, o, e, hh, kk, rfl, r⟩
  · exact ⟨a, kk, e, .inr ⟨od, s _ _ q⟩, r⟩
  · exact ⟨p, kk, e, .inl hh, r⟩
theorem RepH.obj {v : V} {c : Nat} {ns : List Nat} {vs : List D} (s : L2.Same G H) (h : RepH T G H v (.obj c ns vs)) : ∃ (a dx : Addr) (fs : List (Str × V)), v = .ref a ∧ H a = some (.ins (T.cls c) dx fs) ∧ fs.map (·.1) = ns.map T.fnm ∧ Reps T G (fs.map (·.2)) vs := by
  rcases h with ⟨a, dx, fs, e, q, r⟩ | ⟨p, o, e, hh, dx, fs, rfl, r⟩
  · exact ⟨a, dx, fs, e, s _ _ q, r⟩
  · exact ⟨p, dx, fs, e, hh, r⟩
end

def opt {α : Type} (o : Option α) (ρ : En) : Rs α := match o with
  | some a => .ok a ρ
  | none => .bad
@[simp] theorem opt_some {α : Type} (a : α) (ρ : En) : opt (some a) ρ = .ok a ρ := rfl
@[simp] theorem opt_none {α : Type} (ρ : En) : opt (none : Option α) ρ = .bad := rfl
theorem Pst.opt {α : Type} {T : Tab} {U : Hp} {σ : L2.St} {G : Hp} {o : Option α} {ρ : En} {Q : α → Hp → Hp → En → Prop} {W : WX} (h : Pst T U σ G (opt o ρ) Q W) : ∃ a, o = some a ∧ ∀ G' H', Rel T U G' H' σ ρ → L2.Same G G' → Q a G' H' ρ := by
  cases o with
  | none => exact h.elim
  | some a => exact ⟨a, rfl, h⟩

/-! ### names and constants -/
section
variable {X : Cx} {T : Tab} {W : WX}
def eVar (i : Nat) : EF := fun ρ => match ρ[i]? with
  | some (.sh d) => .ok d ρ
  | some (.ow d) => (match d with
    | .lst _ => .ok d (ρ.set i (.sh d))
    | .dct _ _ => .ok d (ρ.set i (.sh d))
    | .obj _ _ _ => .ok d (ρ.set i (.sh d))
    | _ => .bad)
  | _ => .bad
theorem j_var (k : X.K = T.K) (i : Nat) {x : Str} {pos : Pos} (hN : X.N[i]? = some x := by rfl) (hv : Vis X.env.scope x := by first | exact Or.inl rfl | exact Or.inr (Or.inl rfl) | exact Or.inr (Or.inr rfl)) (hd : (x == ("__debug__" : Str)) = false := by decide)
    (hcd : (x == ("__classdict__" : Str)) = false := by decide) : JE X T W (.Name x pos) (eVar i) := by
  refine ⟨k, pe_imp (pe_mlk (pe_var hN hv hd hcd)) fun σ H Q h => ?_⟩
  obtain ⟨U, G, ρ, R, h⟩ := h
  unfold eVar at h
  cases q : ρ[i]? with
  | none => rw [q] at h; exact h.elim
  | some sl =>
    rw [q] at h
    cases sl with
    | no => exact h.elim
    | ex _ _ _ => exact h.elim
    | sh d =>
      obtain ⟨v, e, r⟩ := R.sh i d q
      exact ⟨v, e, .inl (h G H R (L2.Same.refl _) v r)⟩
    | ow d =>
      have fin : Pst T U σ G (.ok d (ρ.set i (.sh d))) (fun d G' H' _ => ∀ v, Rep T G' v d → Q v H') W → tVar i σ H (fun x H1 => Q x H1 ∨ ∃ a o, x = .ref a ∧ H1 a = some o ∧ (Mut (some o) ∧ ∀ od, lkO od o = o ∨ ∃ kk, o = .dK kk) ∧ ∀ od, Q x (upd H1 a (lkO od o))) := fun h => by
        obtain ⟨a, o, e, g, hh, r, R'⟩ := R.share q
        exact ⟨.ref a, e, .inr ⟨a, o, rfl, hh, r.mut, fun od => h _ _ (R' od) (same_upd g) _ ((r.mono (same_upd g)).rep upd_same)⟩⟩
      cases d with
      | lst ds => exact fin h
      | dct ks vs => exact fin h
      | obj c ns vs => exact fin h
      | _ => exact h.elim
def rVar (i : Nat) : En → Rs Ar := fun ρ => match ρ[i]? with
  | some (.sh _) => .ok (.s i) ρ
  | some (.ow _) => .ok (.s i) ρ
  | _ => .bad
theorem j_rvar (k : X.K = T.K) (i : Nat) {x : Str} {pos : Pos} (hN : X.N[i]? = some x := by rfl) (hv : Vis X.env.scope x := by first | exact Or.inl rfl | exact Or.inr (Or.inl rfl) | exact Or.inr (Or.inr rfl)) (hd : (x == ("__debug__" : Str)) = false := by decide)
    (hcd : (x == ("__classdict__" : Str)) = false := by decide) : JR X T W (.Name x pos) (rVar i) := by
  refine ⟨k, pe_imp (pe_var hN hv hd hcd) fun σ H Q h => ?_⟩
  obtain ⟨U, G, ρ, R, h⟩ := h
  unfold rVar at h
  cases q : ρ[i]? with
  | none => rw [q] at h; exact h.elim
  | some sl =>
    rw [q] at h
    cases sl with
    | no => exact h.elim
    | ex _ _ _ => exact h.elim
    | sh d =>
      obtain ⟨v, e, r⟩ := R.sh i d q
      exact ⟨v, e, h G H R (L2.Same.refl _) v e⟩
    | ow d =>
      obtain ⟨a, o, e, _⟩ := R.ow i d q
      exact ⟨_, e, h G H R (L2.Same.refl _) _ e⟩
def rVal (f : EF) : En → Rs Ar := fun ρ => (f ρ).bnd fun d ρ' => .ok (.v d) ρ'
theorem j_rval {e : Expr} {f : EF} (h : JE X T W e f) : JR X T W e (rVal f) := by
  refine ⟨h.k, pe_imp h.run fun σ H Q q => ?_⟩
  obtain ⟨U, G, ρ, R, q⟩ := q
  refine ⟨U, G, ρ, R, (Pst.bnd q).mono (L2.Same.refl _) fun d G' H' ρ' _ ⟨R', s, p⟩ v r => ?_⟩
  exact p G' H' R' (L2.Same.refl _) v r
def eC (d : D) : EF := fun ρ => .ok d ρ
theorem j_C {e : Expr} {v : V} {d : D} (k : X.K = T.K) (h : PE X e (tC v)) (r : ∀ G, Rep T G v d) : JE X T W e (eC d) := by
  refine ⟨k, pe_imp h fun σ H Q q => ?_⟩
  obtain ⟨U, G, ρ, R, q⟩ := q
  exact q G H R (L2.Same.refl _) v (r G)
theorem j_int (k : X.K = T.K) {i j pos} : JE X T W (.Constant (.int i) j pos) (eC (.int i)) := j_C k pe_int fun _ => rfl
theorem j_bl (k : X.K = T.K) {i j pos} : JE X T W (.Constant (.bool i) j pos) (eC (.bl i)) := j_C k pe_bl fun _ => rfl
theorem j_non (k : X.K = T.K) {j pos} : JE X T W (.Constant .none j pos) (eC .non) := j_C k pe_non fun _ => rfl
theorem j_str (k : X.K = T.K) {x j pos} (h : SOk x := by exact ⟨by decide +kernel, by decide +kernel⟩) : JE X T W (.Constant (.str x) j pos) (eC (.str x)) := j_C k pe_str fun _ => ⟨rfl, h⟩

/-! ### two operands, a value -/
def r2 (g : D → D → Option D) (a b : Ar) (ρ : En) : Rs D := match look ρ a, look ρ b with
  | some d, some e => opt (g d e) ρ
  | _, _ => .bad
def f2 (g : D → D → Option D) (fa fb : En → Rs Ar) : EF := fun ρ => (fa ρ).bnd fun a ρ1 => (fb ρ1).bnd fun b ρ2 => r2 g a b ρ2
def Op2 (T : Tab) (r : R2) (g : D → D → Option D) : Prop := ∀ U G H σ ρ x y d e c (Q : VK), Rel T U G H σ ρ → RepH T G H x d → RepH T G H y e → g d e = some c →
  (∀ v G' H', Rel T U G' H' σ ρ → L2.Same G G' → Rep T G' v c → Q v H') → r x y H Q
theorem op2_run {a b : Expr} {r : R2} {g : D → D → Option D} {fa fb : En → Rs Ar} (hg : Op2 T r g) {ta tb : TE} (ea : ta = tR T W fa) (eb : tb = tR T W fb) : ∀ σ H Q, tE T W (f2 g fa fb) σ H Q → tOp r ta tb σ H Q := by
  subst ea eb
  intro σ H Q q
  obtain ⟨U, G, ρ, R, q⟩ := q
  refine ⟨U, G, ρ, R, (Pst.bnd q).mono (L2.Same.refl _) fun x G1 H1 ρ1 _ ⟨R1, s1, p1⟩ v av => ?_⟩
  refine ⟨U, G1, ρ1, R1, (Pst.bnd p1).mono (L2.Same.refl _) fun y G2 H2 ρ2 _ ⟨R2, s2, p2⟩ u au => ?_⟩
  unfold r2 at p2
  cases e1 : look ρ2 x with
  | none => rw [e1] at p2; exact p2.elim
  | some d =>
    cases e2 : look ρ2 y with
    | none => rw [e1, e2] at p2; exact p2.elim
    | some e =>
      rw [e1, e2] at p2
      obtain ⟨c, e3, p3⟩ := Pst.opt p2
      exact hg U G2 H2 σ ρ2 v u d e c Q R2 (look_ok R2 (av.mono s2) e1) (look_ok R2 au e2) e3 fun w G' H' R' s' r' => p3 G' H' R' s' w r'
theorem j_op {op : Operator} {a b : Expr} {pos : Pos} {r : R2} {g : D → D → Option D} {fa fb : En → Rs Ar} (ho : OpR X (binaryOp op) r) (hg : Op2 T r g) (ha : JR X T W a fa) (hb : JR X T W b fb) : JE X T W (.BinOp a op b pos) (f2 g fa fb) :=
  ⟨ha.k, pe_imp (pe_op ho ha.run hb.run) (op2_run (a := a) (b := b) hg rfl rfl)⟩
theorem j_cmpE {op : CmpOp} {a b : Expr} {pos : Pos} {r : R2} {g : D → D → Option D} {fa fb : En → Rs Ar} (ho : OpR X (compareOp op) r) (hg : Op2 T r g) (ha : JR X T W a fa) (hb : JR X T W b fb) (hm : behindInMarks op b = false := by first | exact nomark _ | rfl) :
    JE X T W (.Compare a [op] [b] pos) (f2 g fa fb) :=
  ⟨ha.k, pe_imp (pe_cmpR ho ha.run hb.run hm) (op2_run (a := a) (b := b) hg rfl rfl)⟩
/-- a value that is a truth, as a test -/
def tB (f : EF) : TF := fun ρ => (f ρ).bnd fun d ρ' => match d with
  | .bl b => .ok b ρ'
  | _ => .bad
theorem tB_run {f : EF} {t : TE} (ht : ∀ σ H Q, tE T W f σ H Q → t σ H Q) : ∀ σ H Q, tT T W (tB f) σ H Q → t σ H fun x H' => ∃ k, x = .bl k ∧ Q k H' := by
  intro σ H Q q
  obtain ⟨U, G, ρ, R, q⟩ := q
  refine ht _ _ _ ⟨U, G, ρ, R, (Pst.bnd q).mono (L2.Same.refl _) fun d G' H' ρ' _ ⟨R', s, p⟩ v r => ?_⟩
  cases d with
  | bl b =>
    have e : v = .bl b := r
    exact ⟨b, e, p G' H' R' (L2.Same.refl _)⟩
  | _ => exact p.elim
theorem j_cmp {op : CmpOp} {a b : Expr} {pos : Pos} {r : R2} {g : D → D → Option D} {fa fb : En → Rs Ar} (ho : OpR X (compareOp op) r) (hg : Op2 T r g) (ha : JR X T W a fa) (hb : JR X T W b fb) (hm : behindInMarks op b = false := by first | exact nomark _ | rfl) :
    JT X T W (.Compare a [op] [b] pos) (tB (f2 g fa fb)) :=
  ⟨ha.k, pt_imp (pt_cmpR ho ha.run hb.run hm) (tB_run (op2_run (a := a) (b := b) hg rfl rfl))⟩
/-- an expression whose value is a truth, as a test -/
theorem j_test {e : Expr} {f : EF} (h : JE X T W e f) (he : ∀ whole, isTrue e X.env whole = (do let v ← whole; standAt e.pos; holding [v] (truthy v)) := by intro _; rfl) : JT X T W e (tB f) := by
  refine ⟨h.k, pt_imp (pt_val h.run he) fun σ H Q q => ?_⟩
  exact tB_run (fun _ _ _ z => z) σ H Q q

/-! ### arithmetic -/
def addD : D → D → Option D
  | .int a, .int b => some (.int (a + b))
  | .str a, .str b => if a.length + b.length ≤ sizeLine then some (.str (a ++ b)) else none
  | .tup a, .tup b => if a.length + b.length ≤ sizeLine then some (.tup (a ++ b)) else none
  | .lst a, .lst b => if a.length + b.length ≤ sizeLine then some (.lst (a ++ b)) else none
  | _, _ => none
theorem SOk.app {a b : Str} (ha : SOk a) (hb : SOk b) (h : a.length + b.length ≤ sizeLine) : SOk (a ++ b) := by
  refine ⟨?_, ?_⟩
  · have e : (a ++ b).length = a.length + b.length := by
      show (a.cps ++ b.cps).size = a.cps.size + b.cps.size
      simp
    rw [e]; exact h
  · show (a.cps ++ b.cps).all (· < 0x110000) = true
    rw [Array.all_append]
    have h1 : a.cps.all (· < 0x110000) = true := ha.2
    have h2 : b.cps.all (· < 0x110000) = true := hb.2
    rw [h1, h2]; rfl
abbrev rAddJ (K : PySem.W.Frag) : R2 := fun x y H Q => (rI0 fun i j => .int (i + j)) x y H Q ∨ (∃ i j, x = .str i ∧ y = .str j ∧ i.length + j.length ≤ sizeLine ∧ Q (.str (i ++ j)) H) ∨ rCatA K x y H Q ∨ rCat x y H Q
theorem op_addJ : OpR X (binaryOp .Add) (rAddJ X.K) := OpR.or op_add (OpR.or op_add_str (OpR.or op_catA op_cat))
theorem add_J (k : X.K = T.K) : Op2 T (rAddJ X.K) addD := by
  intro U G H σ ρ x y d e c Q R rx ry hg q
  rw [k]
  cases d <;> cases e <;> simp only [addD] at hg <;> first | (cases hg; done) | skip
  · cases hg
    exact .inl ⟨_, _, rx.int, ry.int, q _ G H R (L2.Same.refl _) rfl⟩
  · rename_i a b
    split at hg
    · rename_i hl
      cases hg
      obtain ⟨e1, o1⟩ := rx.str
      obtain ⟨e2, o2⟩ := ry.str
      exact .inr (.inl ⟨_, _, e1, e2, hl, q _ G H R (L2.Same.refl _) ⟨rfl, o1.app o2 hl⟩⟩)
    · cases hg
  · rename_i a b
    split at hg
    · rename_i hl
      cases hg
      obtain ⟨p, xs, rfl, h1, g1, r1⟩ := rx.tup R.same
      obtain ⟨p', ys, rfl, h2, g2, r2⟩ := ry.tup R.same
      refine .inr (.inr (.inl ⟨p, p', xs, ys, rfl, rfl, h1, h2, by rw [r1.length, r2.length]; exact hl, fun e => ?_, fun e e' => ?_, fun _ _ l hl => ?_⟩))
      · subst e
        have : a = [] := by have := r1.length; cases a <;> simp_all
        subst this
        exact q _ G H R (L2.Same.refl _) ⟨p', ys, rfl, g2, r2⟩
      · subst e'
        have : b = [] := by have := r2.length; cases b <;> simp_all
        subst this
        exact q _ G H R (L2.Same.refl _) ⟨p, xs, rfl, g1, by rw [List.append_nil]; exact r1⟩
      · have s := same_upd (o := .tup (xs ++ ys)) (R.gfree hl)
        exact q _ _ _ (R.alloc hl) s ⟨l, _, rfl, .of upd_same, (r1.app r2).mono s⟩
    · cases hg
  · rename_i a b
    split at hg
    · rename_i hl
      cases hg
      obtain ⟨p, xs, rfl, h1, r1⟩ := rx.lst R.same
      obtain ⟨p', ys, rfl, h2, r2⟩ := ry.lst R.same
      refine .inr (.inr (.inr ⟨p, p', xs, ys, rfl, rfl, h1, h2, by rw [r1.length, r2.length]; exact hl, fun l hl => ?_⟩))
      have s := same_upd (o := .lst (xs ++ ys)) (R.gfree hl)
      exact q _ _ _ (R.alloc hl) s ⟨l, _, rfl, upd_same, (r1.app r2).mono s⟩
    · cases hg
theorem j_add {a b : Expr} {pos : Pos} {fa fb : En → Rs Ar} (ha : JR X T W a fa) (hb : JR X T W b fb) : JE X T W (.BinOp a .Add b pos) (f2 addD fa fb) := j_op op_addJ (add_J ha.k) ha hb
/-- ints in, under C, a scalar out -/
theorem op2_I {C : Int → Int → Prop} {gv : Int → Int → V} {g : D → D → Option D} (h : ∀ d e c, g d e = some c → ∃ i j, d = .int i ∧ e = .int j ∧ C i j ∧ ∀ G, Rep T G (gv i j) c) : Op2 T (rI C gv) g := by
  intro U G H σ ρ x y d e c Q R rx ry hg q
  obtain ⟨i, j, rfl, rfl, hc, r⟩ := h d e c hg
  exact ⟨i, j, rx.int, ry.int, hc, q _ G H R (L2.Same.refl _) (r G)⟩
theorem op2_I0 {gv : Int → Int → V} {g : D → D → Option D} (h : ∀ d e c, g d e = some c → ∃ i j, d = .int i ∧ e = .int j ∧ ∀ G, Rep T G (gv i j) c) : Op2 T (rI0 gv) g := by
  intro U G H σ ρ x y d e c Q R rx ry hg q
  obtain ⟨i, j, rfl, rfl, r⟩ := h d e c hg
  exact ⟨i, j, rx.int, ry.int, q _ G H R (L2.Same.refl _) (r G)⟩
def subD : D → D → Option D
  | .int a, .int b => some (.int (a - b))
  | _, _ => none
theorem j_sub {a b : Expr} {pos : Pos} {fa fb : En → Rs Ar} (ha : JR X T W a fa) (hb : JR X T W b fb) : JE X T W (.BinOp a .Sub b pos) (f2 subD fa fb) :=
  j_op op_sub (op2_I0 fun d e c h => by cases d <;> cases e <;> simp only [subD] at h <;> first | (cases h; done) | (cases h; exact ⟨_, _, rfl, rfl, fun _ => rfl⟩)) ha hb
instance (i j : Int) : Decidable (CMul i j) := by unfold CMul; infer_instance
instance (i j : Int) : Decidable (CDivN i j) := by unfold CDivN; infer_instance
instance (i j : Int) : Decidable (CPow i j) := by unfold CPow; infer_instance
def mulD : D → D → Option D
  | .int a, .int b => if CMul a b then some (.int (a * b)) else none
  | .lst a, .int k => if -(2 ^ 63) ≤ k ∧ k < 2 ^ 63 ∧ a.length * k.toNat ≤ sizeLine then some (.lst (List.replicate k.toNat a).flatten) else none
  | _, _ => none
theorem Reps.rep {T : Tab} {G : Hp} {xs : List V} {ds : List D} (r : Reps T G xs ds) : ∀ n : Nat, Reps T G (List.replicate n xs).flatten (List.replicate n ds).flatten
  | 0 => rfl
  | n + 1 => by rw [List.replicate_succ, List.replicate_succ, List.flatten_cons, List.flatten_cons]; exact r.app (Reps.rep r n)
theorem mul_J : Op2 T (fun x y H Q => (rI CMul fun i j => .int (i * j)) x y H Q ∨ rRep x y H Q) mulD := by
  intro U G H σ ρ x y d e c Q R rx ry hg q
  cases d <;> cases e <;> simp only [mulD] at hg <;> first | (cases hg; done) | skip
  · split at hg
    · rename_i hc
      cases hg
      exact .inl ⟨_, _, rx.int, ry.int, hc, q _ G H R (L2.Same.refl _) rfl⟩
    · cases hg
  · rename_i a kk
    split at hg
    · rename_i hc
      cases hg
      obtain ⟨p, xs, rfl, h1, r1⟩ := rx.lst R.same
      refine .inr ⟨p, _, xs, rfl, ry.int, h1, hc.1, hc.2.1, by rw [r1.length]; exact hc.2.2, fun l hl => ?_⟩
      have s := same_upd (o := .lst (List.replicate kk.toNat xs).flatten) (R.gfree hl)
      exact q _ _ _ (R.alloc hl) s ⟨l, _, rfl, upd_same, (r1.rep _).mono s⟩
    · cases hg
theorem j_mul {a b : Expr} {pos : Pos} {fa fb : En → Rs Ar} (ha : JR X T W a fa) (hb : JR X T W b fb) : JE X T W (.BinOp a .Mult b pos) (f2 mulD fa fb) := j_op (OpR.or op_mul op_rep) mul_J ha hb
def fdivD : D → D → Option D
  | .int a, .int b => if CDivN a b then some (.int (a.fdiv b)) else none
  | _, _ => none
theorem j_fdiv {a b : Expr} {pos : Pos} {fa fb : En → Rs Ar} (ha : JR X T W a fa) (hb : JR X T W b fb) : JE X T W (.BinOp a .FloorDiv b pos) (f2 fdivD fa fb) :=
  j_op op_fdivN (op2_I fun d e c h => by
    cases d <;> cases e <;> simp only [fdivD] at h <;> first | (cases h; done) | skip
    split at h
    · rename_i hc; cases h; exact ⟨_, _, rfl, rfl, hc, fun _ => rfl⟩
    · cases h) ha hb
def modD : D → D → Option D
  | .int a, .int b => if b ≠ 0 then some (.int (a.fmod b)) else none
  | _, _ => none
theorem j_mod {a b : Expr} {pos : Pos} {fa fb : En → Rs Ar} (ha : JR X T W a fa) (hb : JR X T W b fb) : JE X T W (.BinOp a .Mod b pos) (f2 modD fa fb) :=
  j_op op_modN (op2_I fun d e c h => by
    cases d <;> cases e <;> simp only [modD] at h <;> first | (cases h; done) | skip
    split at h
    · rename_i hc; cases h; exact ⟨_, _, rfl, rfl, hc, fun _ => rfl⟩
    · cases h) ha hb
def powD : D → D → Option D
  | .int a, .int b => if CPow a b then some (.int (a ^ b.toNat)) else none
  | _, _ => none
theorem j_pow {a b : Expr} {pos : Pos} {fa fb : En → Rs Ar} (ha : JR X T W a fa) (hb : JR X T W b fb) : JE X T W (.BinOp a .Pow b pos) (f2 powD fa fb) :=
  j_op op_pow (op2_I fun d e c h => by
    cases d <;> cases e <;> simp only [powD] at h <;> first | (cases h; done) | skip
    split at h
    · rename_i hc; cases h; exact ⟨_, _, rfl, rfl, hc, fun _ => rfl⟩
    · cases h) ha hb

/-! ### order of ints, None -/
def icmp (p : Int → Int → Bool) : D → D → Option D
  | .int a, .int b => some (.bl (p a b))
  | _, _ => none
theorem icmp_J {p : Int → Int → Bool} : Op2 T (rI0 fun i j => .bl (p i j)) (icmp p) := op2_I0 fun d e c h => by
  cases d <;> cases e <;> simp only [icmp] at h <;> first | (cases h; done) | (cases h; exact ⟨_, _, rfl, rfl, fun _ => rfl⟩)
abbrev ltD := icmp fun i j => decide (i < j)
abbrev leD := icmp fun i j => decide (i ≤ j)
abbrev gtD := icmp fun i j => decide (j < i)
abbrev geD := icmp fun i j => decide (j ≤ i)
def isNonD : D → D → Option D
  | .non, .non => some (.bl true)
  | _, .non => some (.bl false)
  | _, _ => none
def notNonD : D → D → Option D
  | .non, .non => some (.bl false)
  | _, .non => some (.bl true)
  | _, _ => none
theorem RepH.ne_non {G H : Hp} {v : V} {d : D} (h : RepH T G H v d) (hd : d ≠ .non) : v ≠ .non := by
  intro e
  subst e
  rcases h with h | ⟨_, _, e, _⟩
  · cases d <;> first | exact hd rfl | (cases h; done) | (obtain ⟨_, _, e, _⟩ := h; cases e; done) | (obtain ⟨e, _⟩ := h; cases e; done) | (obtain ⟨_, _, _, e, _⟩ := h; cases e)
  · cases e
theorem isNon_J : Op2 T (fun x y H Q => y = .non ∧ Q (.bl (decide (x = .non))) H) isNonD := by
  intro U G H σ ρ x y d e c Q R rx ry hg q
  cases e with
  | non =>
    refine ⟨ry.non, ?_⟩
    cases d with
    | non =>
      cases hg
      rw [decide_eq_true rx.non]
      exact q _ G H R (L2.Same.refl _) rfl
    | _ =>
      cases hg
      rw [decide_eq_false (rx.ne_non (by intro z; cases z))]
      exact q _ G H R (L2.Same.refl _) rfl
  | _ => cases d <;> cases hg
theorem notNon_J : Op2 T (fun x y H Q => y = .non ∧ Q (.bl (!decide (x = .non))) H) notNonD := by
  intro U G H σ ρ x y d e c Q R rx ry hg q
  cases e with
  | non =>
    refine ⟨ry.non, ?_⟩
    cases d with
    | non =>
      cases hg
      rw [decide_eq_true rx.non]
      exact q _ G H R (L2.Same.refl _) rfl
    | _ =>
      cases hg
      rw [decide_eq_false (rx.ne_non (by intro z; cases z))]
      exact q _ G H R (L2.Same.refl _) rfl
  | _ => cases d <;> cases hg

/-! ### equality of data -/
mutual
/-- a tree of nothing but None, truths, ints, texts, tuples and lists, at most n deep -/
def okE : Nat → D → Bool
  | _, .non => true
  | _, .bl _ => true
  | _, .int _ => true
  | _, .str _ => true
  | n + 1, .tup ds => okEs n ds
  | n + 1, .lst ds => okEs n ds
  | _, _ => false
def okEs : Nat → List D → Bool
  | _, [] => true
  | n, d :: ds => okE n d && okEs n ds
end
mutual
def toPy : D → PyData
  | .non => .none
  | .bl b => .bool b
  | .int i => .int i
  | .str s => .str s
  | .tup ds => .tuple (toPys ds)
  | .lst ds => .list (toPys ds)
  | _ => .none
def toPys : List D → List PyData
  | [] => []
  | d :: ds => toPy d :: toPys ds
end
mutual
def eqv : D → D → Bool
  | .non, .non => true
  | .bl a, .bl b => a == b
  | .bl a, .int j => (if a then 1 else 0) == j
  | .int i, .bl b => i == (if b then 1 else 0)
  | .int i, .int j => i == j
  | .str x, .str y => x == y
  | .lst xs, .lst ys => eqvs xs ys
  | .tup xs, .tup ys => eqvs xs ys
  | _, _ => false
def eqvs : List D → List D → Bool
  | [], [] => true
  | x :: xs, y :: ys => eqv x y && eqvs xs ys
  | _, _ => false
end
mutual
theorem okE_dp {T : Tab} {H : Hp} : ∀ {n : Nat} {d : D} {v : V}, okE n d = true → Rep T H v d → Dp T.K H v (toPy d) ∧ (toPy d).canLay0 = true ∧ (toPy d).depth ≤ n
  | n, .non, v, _, r => by cases r; cases n <;> exact ⟨.non, rfl, Nat.zero_le _⟩
  | n, .bl b, v, _, r => by cases r; cases n <;> exact ⟨.bl b, rfl, Nat.zero_le _⟩
  | n, .int b, v, _, r => by cases r; cases n <;> exact ⟨.int b, rfl, Nat.zero_le _⟩
  | n, .str b, v, _, r => by obtain ⟨rfl, o⟩ := r; cases n <;> exact ⟨.str b, o.2, Nat.zero_le _⟩
  | n + 1, .tup ds, v, h, r => by
    obtain ⟨a, xs, rfl, q, r⟩ := r
    obtain ⟨h1, h2, h3⟩ := okEs_dp (n := n) (by simpa [okE] using h) r
    exact ⟨.tup q h1, h2, Nat.succ_le_succ h3⟩
  | n + 1, .lst ds, v, h, r => by
    obtain ⟨a, xs, rfl, q, r⟩ := r
    obtain ⟨h1, h2, h3⟩ := okEs_dp (n := n) (by simpa [okE] using h) r
    exact ⟨.lst (.of q) h1, h2, Nat.succ_le_succ h3⟩
  | 0, .tup ds, v, h, r => by simp [okE] at h
  | 0, .lst ds, v, h, r => by simp [okE] at h
  | n, .dct _ _, v, h, r => by cases n <;> simp [okE] at h
  | n, .obj _ _ _, v, h, r => by cases n <;> simp [okE] at h
  | n, .fn _, v, h, r => by cases n <;> simp [okE] at h
  | n, .scr _, v, h, r => by cases n <;> simp [okE] at h
theorem okEs_dp {T : Tab} {H : Hp} : ∀ {n : Nat} {ds : List D} {xs : List V}, okEs n ds = true → Reps T H xs ds → DpAll T.K H xs (toPys ds) ∧ PyData.canLayAll0 (toPys ds) = true ∧ PyData.depthAll (toPys ds) ≤ n
  | n, [], xs, _, r => by cases r; exact ⟨.nil, rfl, Nat.zero_le _⟩
  | n, d :: ds, xs, h, r => by
    obtain ⟨x, rest, rfl, r1, r2⟩ := r
    have h' : okE n d = true ∧ okEs n ds = true := by simpa [okEs] using h
    obtain ⟨a1, a2, a3⟩ := okE_dp h'.1 r1
    obtain ⟨b1, b2, b3⟩ := okEs_dp h'.2 r2
    refine ⟨.cons a1 b1, ?_, Nat.max_le.mpr ⟨a3, b3⟩⟩
    show ((toPy d).canLay0 && PyData.canLayAll0 (toPys ds)) = true
    rw [a2, b2]; rfl
end
mutual
theorem eqv_py : ∀ {n m : Nat} {d e : D}, okE n d = true → okE m e = true → PyData.eqv (toPy d) (toPy e) = eqv d e
  | n + 1, m + 1, .tup ds, .tup es, h, h' => by
    have h1 : okEs n ds = true := by simpa [okE] using h
    have h2 : okEs m es = true := by simpa [okE] using h'
    simp [toPy, PyData.eqv, eqv, eqvs_py h1 h2]
  | n + 1, m + 1, .lst ds, .lst es, h, h' => by
    have h1 : okEs n ds = true := by simpa [okE] using h
    have h2 : okEs m es = true := by simpa [okE] using h'
    simp [toPy, PyData.eqv, eqv, eqvs_py h1 h2]
  | n, m, .non, e, h, h' => by cases e <;> cases m <;> first | rfl | simp [okE] at h'
  | n, m, .bl _, e, h, h' => by cases e <;> cases m <;> first | rfl | simp [okE] at h'
  | n, m, .int _, e, h, h' => by cases e <;> cases m <;> first | rfl | simp [okE] at h'
  | n, m, .str _, e, h, h' => by cases e <;> cases m <;> first | rfl | simp [okE] at h'
  | 0, m, .tup _, e, h, h' => by simp [okE] at h
  | 0, m, .lst _, e, h, h' => by simp [okE] at h
  | n, m, .dct _ _, e, h, h' => by cases n <;> simp [okE] at h
  | n, m, .obj _ _ _, e, h, h' => by cases n <;> simp [okE] at h
  | n, m, .fn _, e, h, h' => by cases n <;> simp [okE] at h
  | n, m, .scr _, e, h, h' => by cases n <;> simp [okE] at h
  | n + 1, 0, .tup _, e, h, h' => by cases e <;> first | rfl | simp [okE] at h'
  | n + 1, 0, .lst _, e, h, h' => by cases e <;> first | rfl | simp [okE] at h'
  | n + 1, m + 1, .tup _, .non, h, h' => rfl
  | n + 1, m + 1, .tup _, .bl _, h, h' => rfl
  | n + 1, m + 1, .tup _, .int _, h, h' => rfl
  | n + 1, m + 1, .tup _, .str _, h, h' => rfl
  | n + 1, m + 1, .tup _, .lst _, h, h' => rfl
  | n + 1, m + 1, .lst _, .non, h, h' => rfl
  | n + 1, m + 1, .lst _, .bl _, h, h' => rfl
  | n + 1, m + 1, .lst _, .int _, h, h' => rfl
  | n + 1, m + 1, .lst _, .str _, h, h' => rfl
  | n + 1, m + 1, .lst _, .tup _, h, h' => rfl
  | n + 1, m + 1, .lst _, .dct _ _, h, h' => by simp [okE] at h'
  | n + 1, m + 1, .lst _, .obj _ _ _, h, h' => by simp [okE] at h'
  | n + 1, m + 1, .lst _, .fn _, h, h' => by simp [okE] at h'
  | n + 1, m + 1, .lst _, .scr _, h, h' => by simp [okE] at h'
  | n + 1, m + 1, .tup _, .dct _ _, h, h' => by simp [okE] at h'
  | n + 1, m + 1, .tup _, .obj _ _ _, h, h' => by simp [okE] at h'
  | n + 1, m + 1, .tup _, .fn _, h, h' => by simp [okE] at h'
  | n + 1, m + 1, .tup _, .scr _, h, h' => by simp [okE] at h'
theorem eqvs_py : ∀ {n m : Nat} {d e : List D}, okEs n d = true → okEs m e = true → PyData.eqvAll (toPys d) (toPys e) = eqvs d e
  | _, _, [], [], _, _ => rfl
  | _, _, [], _ :: _, _, _ => rfl
  | _, _, _ :: _, [], _, _ => rfl
  | n, m, d :: ds, e :: es, h, h' => by
    have h1 : okE n d = true ∧ okEs n ds = true := by simpa [okEs] using h
    have h2 : okE m e = true ∧ okEs m es = true := by simpa [okEs] using h'
    simp [toPys, PyData.eqvAll, eqvs, eqv_py h1.1 h2.1, eqvs_py h1.2 h2.2]
end
/-- a RepH value, as data -/
theorem okE_dpH {T : Tab} {G H : Hp} {n : Nat} {d : D} {v : V} (s : L2.Same G H) (h : okE n d = true) (r : RepH T G H v d) : Dp T.K H v (toPy d) ∧ (toPy d).canLay0 = true ∧ (toPy d).depth ≤ n := by
  rcases r with r | ⟨p, o, rfl, hh, r⟩
  · exact okE_dp h (r.mono s)
  · cases d with
    | lst ds =>
      obtain ⟨xs, rfl, r⟩ := r
      exact okE_dp h (show Rep T H (.ref p) (.lst ds) from ⟨p, xs, rfl, hh, r.mono s⟩)
    | dct _ _ => cases n <;> simp [okE] at h
    | obj _ _ _ => cases n <;> simp [okE] at h
    | _ => exact r.elim
theorem shaped_of {d : PyData} (h1 : d.canLay0 = true) (h2 : d.depth ≤ 60) : SeqAt.shaped d = true := by
  unfold SeqAt.shaped
  rw [h1, decide_eq_true (by omega)]; rfl
def eqD (d e : D) : Option D := if okE 60 d = true ∧ okE 60 e = true then some (.bl (eqv d e)) else none
def neD (d e : D) : Option D := if okE 60 d = true ∧ okE 60 e = true then some (.bl (!eqv d e)) else none
theorem eq_J (k : X.K = T.K) : Op2 T (rEqD X.K) eqD := by
  intro U G H σ ρ x y d e c Q R rx ry hg q
  unfold eqD at hg
  split at hg
  · rename_i h
    cases hg
    obtain ⟨a1, a2, a3⟩ := okE_dpH R.same h.1 rx
    obtain ⟨b1, b2, b3⟩ := okE_dpH R.same h.2 ry
    rw [k]
    exact ⟨_, _, a1, b1, shaped_of a2 a3, shaped_of b2 b3, q _ G H R (L2.Same.refl _) (by rw [eqv_py h.1 h.2]; rfl)⟩
  · cases hg
theorem ne_J (k : X.K = T.K) : Op2 T (rNeD X.K) neD := by
  intro U G H σ ρ x y d e c Q R rx ry hg q
  unfold neD at hg
  split at hg
  · rename_i h
    cases hg
    obtain ⟨a1, a2, a3⟩ := okE_dpH R.same h.1 rx
    obtain ⟨b1, b2, b3⟩ := okE_dpH R.same h.2 ry
    rw [k]
    exact ⟨_, _, a1, b1, shaped_of a2 a3, shaped_of b2 b3, q _ G H R (L2.Same.refl _) (by rw [eqv_py h.1 h.2]; rfl)⟩
  · cases hg
/-- x in y: y a list -/
def inD (neg : Bool) (d : D) : D → Option D
  | .lst es => if okE 60 d = true ∧ okE 60 (.lst es) = true then some (.bl (if neg then !(es.any fun z => eqv z d) else es.any fun z => eqv z d)) else none
  | _ => none
theorem any_py {n m : Nat} {d : D} (h : okE n d = true) : ∀ {es : List D}, okEs m es = true → ((toPys es).any fun z => PyData.eqv z (toPy d)) = es.any fun z => eqv z d
  | [], _ => rfl
  | e :: es, h' => by
    have h2 : okE m e = true ∧ okEs m es = true := by simpa [okEs] using h'
    simp [toPys, eqv_py h2.1 h, any_py h h2.2]
theorem in_J (k : X.K = T.K) : Op2 T (rInD X.K) (inD false) := by
  intro U G H σ ρ x y d e c Q R rx ry hg q
  cases e <;> simp only [inD] at hg <;> first | (cases hg; done) | skip
  rename_i es
  split at hg
  · rename_i h
    cases hg
    obtain ⟨a1, a2, a3⟩ := okE_dpH R.same h.1 rx
    obtain ⟨b1, b2, b3⟩ := okE_dpH R.same h.2 ry
    have h3 : okEs 59 es = true := by simpa [okE] using h.2
    rw [k]
    exact ⟨_, toPys es, a1, b1, shaped_of a2 a3, shaped_of b2 b3, q _ G H R (L2.Same.refl _) (by rw [any_py h.1 h3]; rfl)⟩
  · cases hg
theorem notIn_J (k : X.K = T.K) : Op2 T (rNotInD X.K) (inD true) := by
  intro U G H σ ρ x y d e c Q R rx ry hg q
  cases e <;> simp only [inD] at hg <;> first | (cases hg; done) | skip
  rename_i es
  split at hg
  · rename_i h
    cases hg
    obtain ⟨a1, a2, a3⟩ := okE_dpH R.same h.1 rx
    obtain ⟨b1, b2, b3⟩ := okE_dpH R.same h.2 ry
    have h3 : okEs 59 es = true := by simpa [okE] using h.2
    rw [k]
    exact ⟨_, toPys es, a1, b1, shaped_of a2 a3, shaped_of b2 b3, q _ G H R (L2.Same.refl _) (by rw [any_py h.1 h3]; rfl)⟩
  · cases hg

/-! ### and, or, not, if -/
structure JW (X : Cx) (T : Tab) (W : WX) (e : Expr) (f : TF) : Prop where
  k : X.K = T.K
  run : PW X e (tT T W f)
theorem pw_imp {X : Cx} {e : Expr} {t t' : TT} (h : PW X e t) (hi : ∀ σ H Q, t' σ H Q → t σ H Q) : PW X e t' := ⟨fun wh pins s σ H Q I q => h.run wh pins s σ H Q I (hi _ _ _ q)⟩
theorem JW.jt {e : Expr} {f : TF} (h : JW X T W e f) : JT X T W e f := ⟨h.k, h.run.pt⟩
theorem j_and1 {a : Expr} {pos : Pos} {f : TF} (h : JT X T W a f) : JW X T W (.BoolOp .And [a] pos) f := ⟨h.k, pw_and1 h.run⟩
theorem j_or1 {a : Expr} {pos : Pos} {f : TF} (h : JT X T W a f) : JW X T W (.BoolOp .Or [a] pos) f := ⟨h.k, pw_or1 h.run⟩
def tAndJ (f g : TF) : TF := fun ρ => (f ρ).bnd fun b ρ' => if b = true then g ρ' else .ok false ρ'
def tOrJ (f g : TF) : TF := fun ρ => (f ρ).bnd fun b ρ' => if b = true then .ok true ρ' else g ρ'
def tNotJ (f : TF) : TF := fun ρ => (f ρ).bnd fun b ρ' => .ok (!b) ρ'
theorem j_and {a b : Expr} {rest : List Expr} {pos : Pos} {f g : TF} (h : JT X T W a f) (h' : JW X T W (.BoolOp .And (b :: rest) pos) g) : JW X T W (.BoolOp .And (a :: b :: rest) pos) (tAndJ f g) := by
  refine ⟨h.k, pw_imp (pw_and h.run h'.run) fun σ H Q q => ?_⟩
  obtain ⟨U, G, ρ, R, q⟩ := q
  refine ⟨U, G, ρ, R, (Pst.bnd q).mono (L2.Same.refl _) fun b G' H' ρ' _ ⟨R', s, p⟩ => ?_⟩
  cases b with
  | true => exact ⟨U, G', ρ', R', p⟩
  | false => exact p G' H' R' (L2.Same.refl _)
theorem j_or {a b : Expr} {rest : List Expr} {pos : Pos} {f g : TF} (h : JT X T W a f) (h' : JW X T W (.BoolOp .Or (b :: rest) pos) g) : JW X T W (.BoolOp .Or (a :: b :: rest) pos) (tOrJ f g) := by
  refine ⟨h.k, pw_imp (pw_or h.run h'.run) fun σ H Q q => ?_⟩
  obtain ⟨U, G, ρ, R, q⟩ := q
  refine ⟨U, G, ρ, R, (Pst.bnd q).mono (L2.Same.refl _) fun b G' H' ρ' _ ⟨R', s, p⟩ => ?_⟩
  cases b with
  | true => exact p G' H' R' (L2.Same.refl _)
  | false => exact ⟨U, G', ρ', R', p⟩
theorem j_not {a : Expr} {pos : Pos} {f : TF} (h : JT X T W a f) : JT X T W (.UnaryOp .Not a pos) (tNotJ f) := by
  refine ⟨h.k, pt_imp (pt_not h.run) fun σ H Q q => ?_⟩
  obtain ⟨U, G, ρ, R, q⟩ := q
  exact ⟨U, G, ρ, R, (Pst.bnd q).mono (L2.Same.refl _) fun b G' H' ρ' _ ⟨R', s, p⟩ => p G' H' R' (L2.Same.refl _)⟩
/-- .. as values -/
def eBl (f : TF) : EF := fun ρ => (f ρ).bnd fun b ρ' => .ok (.bl b) ρ'
def eAndJ (f g : EF) : EF := fun ρ => (f ρ).bnd fun d ρ' => match d with
  | .bl true => g ρ'
  | .bl false => .ok (.bl false) ρ'
  | _ => .bad
def eOrJ (f g : EF) : EF := fun ρ => (f ρ).bnd fun d ρ' => match d with
  | .bl true => .ok (.bl true) ρ'
  | .bl false => g ρ'
  | _ => .bad
def eNotJ (f : EF) : EF := fun ρ => (f ρ).bnd fun d ρ' => match d with
  | .bl b => .ok (.bl (!b)) ρ'
  | _ => .bad
theorem j_one {op} {a : Expr} {pos : Pos} {f : EF} (h : JE X T W a f) : JE X T W (.BoolOp op [a] pos) f := ⟨h.k, pe_one h.run⟩
theorem j_vand {a b : Expr} {rest : List Expr} {pos : Pos} {f g : EF} (h : JE X T W a f) (h' : JE X T W (.BoolOp .And (b :: rest) pos) g) : JE X T W (.BoolOp .And (a :: b :: rest) pos) (eAndJ f g) := by
  refine ⟨h.k, pe_imp (pe_and h.run h'.run) fun σ H Q q => ?_⟩
  obtain ⟨U, G, ρ, R, q⟩ := q
  refine ⟨U, G, ρ, R, (Pst.bnd q).mono (L2.Same.refl _) fun d G' H' ρ' _ ⟨R', s, p⟩ v r => ?_⟩
  cases d with
  | bl b =>
    have e : v = .bl b := r
    refine ⟨b, e, ?_⟩
    cases b with
    | true => exact ⟨U, G', ρ', R', p⟩
    | false => exact p G' H' R' (L2.Same.refl _) (.bl false) rfl
  | _ => exact p.elim
theorem j_vor {a b : Expr} {rest : List Expr} {pos : Pos} {f g : EF} (h : JE X T W a f) (h' : JE X T W (.BoolOp .Or (b :: rest) pos) g) : JE X T W (.BoolOp .Or (a :: b :: rest) pos) (eOrJ f g) := by
  refine ⟨h.k, pe_imp (pe_or h.run h'.run) fun σ H Q q => ?_⟩
  obtain ⟨U, G, ρ, R, q⟩ := q
  refine ⟨U, G, ρ, R, (Pst.bnd q).mono (L2.Same.refl _) fun d G' H' ρ' _ ⟨R', s, p⟩ v r => ?_⟩
  cases d with
  | bl b =>
    have e : v = .bl b := r
    refine ⟨b, e, ?_⟩
    cases b with
    | true => exact p G' H' R' (L2.Same.refl _) (.bl true) rfl
    | false => exact ⟨U, G', ρ', R', p⟩
  | _ => exact p.elim
theorem j_vnot {a : Expr} {pos : Pos} {f : EF} (h : JE X T W a f) : JE X T W (.UnaryOp .Not a pos) (eNotJ f) := by
  refine ⟨h.k, pe_imp (pe_not h.run) fun σ H Q q => ?_⟩
  obtain ⟨U, G, ρ, R, q⟩ := q
  refine ⟨U, G, ρ, R, (Pst.bnd q).mono (L2.Same.refl _) fun d G' H' ρ' _ ⟨R', s, p⟩ v r => ?_⟩
  cases d with
  | bl b =>
    have e : v = .bl b := r
    exact ⟨b, e, p G' H' R' (L2.Same.refl _) (.bl (!b)) rfl⟩
  | _ => exact p.elim
def eIf (t : TF) (f g : EF) : EF := fun ρ => (t ρ).bnd fun b ρ' => if b = true then f ρ' else g ρ'
theorem j_if {c a b : Expr} {pos : Pos} {t : TF} {f g : EF} (hc : JT X T W c t) (ha : JE X T W a f) (hb : JE X T W b g) : JE X T W (.IfExp c a b pos) (eIf t f g) := by
  refine ⟨hc.k, pe_imp (pe_ifExp hc.run ha.run hb.run) fun σ H Q q => ?_⟩
  obtain ⟨U, G, ρ, R, q⟩ := q
  refine ⟨U, G, ρ, R, (Pst.bnd q).mono (L2.Same.refl _) fun b G' H' ρ' _ ⟨R', s, p⟩ => ?_⟩
  cases b with
  | true => exact ⟨U, G', ρ', R', p⟩
  | false => exact ⟨U, G', ρ', R', p⟩
def f1 (g : D → Option D) (fa : En → Rs Ar) : EF := fun ρ => (fa ρ).bnd fun a ρ1 => match look ρ1 a with
  | some d => opt (g d) ρ1
  | none => .bad
def negD : D → Option D
  | .int i => some (.int (-i))
  | _ => none
theorem j_neg {a : Expr} {pos : Pos} {fa : En → Rs Ar} (ha : JR X T W a fa) : JE X T W (.UnaryOp .USub a pos) (f1 negD fa) := by
  refine ⟨ha.k, pe_imp (pe_un un_neg ha.run) fun σ H Q q => ?_⟩
  obtain ⟨U, G, ρ, R, q⟩ := q
  refine ⟨U, G, ρ, R, (Pst.bnd q).mono (L2.Same.refl _) fun a G' H' ρ' _ ⟨R', s, p⟩ v av => ?_⟩
  cases e : look ρ' a with
  | none => rw [e] at p; exact p.elim
  | some d =>
    rw [e] at p
    have rv := look_ok R' av e
    cases d with
    | int i => exact ⟨i, rv.int, p G' H' R' (L2.Same.refl _) _ rfl⟩
    | _ => exact p.elim
end
end J

set_option Elab.async false
set_option linter.all false
set_option maxRecDepth 100000
set_option maxHeartbeats 4000000
namespace J
open PySem PySem.Spec PyProof.Rows L2

/-! ### arguments -/
section
variable {X : Cx} {T : Tab} {W : WX}
def aNil : AF := fun ρ => .ok [] ρ
def aCons (f : En → Rs Ar) (g : AF) : AF := fun ρ => (f ρ).bnd fun a ρ1 => (g ρ1).bnd fun as ρ2 => .ok (a :: as) ρ2
theorem ja_nil (k : X.K = T.K) : JA X T W [] aNil := by
  refine ⟨k, fun ρ as ρ' h => (by cases h; rfl), pa_imp pa_nil fun σ H Q q => ?_⟩
  obtain ⟨U, G, ρ, R, q⟩ := q
  exact q G H R (L2.Same.refl _) [] True.intro
theorem ja_cons {e : Expr} {es : List Expr} {f : En → Rs Ar} {g : AF} (h : JR X T W e f) (h' : JA X T W es g) (hs : starEach (e :: es) X.env = (false, eval e X.env) :: starEach es X.env := by rfl) : JA X T W (e :: es) (aCons f g) := by
  refine ⟨h.k, fun ρ as ρ' e => ?_, pa_imp (pa_cons h.run h'.run hs) fun σ H Q q => ?_⟩
  · unfold aCons at e
    cases e1 : f ρ with
    | ok a ρ1 =>
      rw [e1] at e
      cases e2 : g ρ1 with
      | ok as2 ρ2 =>
        have e : (g ρ1).bnd (fun as ρ2 => .ok (a :: as) ρ2) = .ok as ρ' := e
        rw [e2] at e
        cases e
        simp [h'.len _ _ _ e2]
      | ex _ _ _ _ =>
        have e : (g ρ1).bnd (fun as ρ2 => .ok (a :: as) ρ2) = .ok as ρ' := e
        rw [e2] at e; cases e
      | bad =>
        have e : (g ρ1).bnd (fun as ρ2 => .ok (a :: as) ρ2) = .ok as ρ' := e
        rw [e2] at e; cases e
    | ex _ _ _ _ => rw [e1] at e; cases e
    | bad => rw [e1] at e; cases e
  obtain ⟨U, G, ρ, R, q⟩ := q
  refine ⟨U, G, ρ, R, (Pst.bnd q).mono (L2.Same.refl _) fun a G1 H1 ρ1 _ ⟨R1, s1, p1⟩ v av => ?_⟩
  refine ⟨U, G1, ρ1, R1, (Pst.bnd p1).mono (L2.Same.refl _) fun as G2 H2 ρ2 _ ⟨R2, s2, p2⟩ vs avs => ?_⟩
  exact p2 G2 H2 R2 (L2.Same.refl _) (v :: vs) ⟨av.mono s2, avs⟩
def looks (ρ : En) : List Ar → Option (List D)
  | [] => some []
  | a :: as => match look ρ a, looks ρ as with
    | some d, some ds => some (d :: ds)
    | _, _ => none
@[simp] theorem looks_nil (ρ : En) : looks ρ [] = some [] := rfl
@[simp] theorem looks_cons (ρ : En) (a : Ar) (as : List Ar) : looks ρ (a :: as) = (match look ρ a, looks ρ as with | some d, some ds => some (d :: ds) | _, _ => none) := rfl
def RepHs (T : Tab) (G H : Hp) : List V → List D → Prop
  | [], [] => True
  | v :: vs, d :: ds => RepH T G H v d ∧ RepHs T G H vs ds
  | _, _ => False
theorem looks_ok {U G H : Hp} {σ : L2.St} {ρ : En} (R : Rel T U G H σ ρ) : ∀ {as : List Ar} {vs : List V} {ds : List D}, ArsOk T G σ vs as → looks ρ as = some ds → RepHs T G H vs ds
  | [], [], ds, _, e => by cases e; exact True.intro
  | [], _ :: _, _, h, _ => h.elim
  | _ :: _, [], _, h, _ => h.elim
  | a :: as, v :: vs, ds, h, e => by
    rw [looks_cons] at e
    cases e1 : look ρ a with
    | none => rw [e1] at e; cases e
    | some d =>
      cases e2 : looks ρ as with
      | none => rw [e1, e2] at e; cases e
      | some es =>
        rw [e1, e2] at e
        cases e
        exact ⟨look_ok R h.1 e1, looks_ok R h.2 e2⟩
/-- all of them values -/
def vals : List Ar → Option (List D)
  | [] => some []
  | .v d :: as => (vals as).map (d :: ·)
  | .s _ :: _ => none
@[simp] theorem vals_nil : vals [] = some [] := rfl
@[simp] theorem vals_cons (d : D) (as : List Ar) : vals (.v d :: as) = (vals as).map (d :: ·) := rfl
theorem vals_ok {G : Hp} {σ : L2.St} : ∀ {as : List Ar} {vs : List V} {ds : List D}, ArsOk T G σ vs as → vals as = some ds → Reps T G vs ds
  | [], [], ds, _, e => by cases e; rfl
  | [], _ :: _, _, h, _ => h.elim
  | _ :: _, [], _, h, _ => h.elim
  | .s _ :: as, v :: vs, ds, h, e => by cases e
  | .v d :: as, v :: vs, ds, h, e => by
    rw [vals_cons] at e
    cases e2 : vals as with
    | none => rw [e2] at e; cases e
    | some es =>
      rw [e2] at e
      cases e
      exact ⟨v, vs, rfl, h.1, vals_ok h.2 e2⟩

/-! ### new objects -/
theorem Rel.fresh {U G H : Hp} {σ : L2.St} {ρ : En} {p : Addr} {o : HO} (R : Rel T U G H σ ρ) (h : H p = none) : Rel T U G (upd H p o) σ ρ ∧ ∀ (i : Nat) (d : D), ρ[i]? = some (.ow d) → σ[i]? ≠ some (some (.ref p)) := by
  have e : unheld (upd U p o) p = U := by
    funext b
    by_cases hb : b = p
    · subst hb; rw [unheld_same, R.ufree h]
    · rw [unheld_ne hb, upd_ne hb]
  refine ⟨e ▸ (R.hold (o := o) h).unhold (p := p), fun i d e1 e2 => ?_⟩
  obtain ⟨a, q, e3, _, _, hh, _⟩ := R.ow i d e1
  rw [e2] at e3
  cases e3
  rw [h] at hh; cases hh
/-- an owned result, frozen -/
theorem j_frz {e : Expr} {f : EF} (h : JO X T W e f) : JE X T W e f := by
  refine ⟨h.k, pe_imp (pe_mlk h.run) fun σ H Q q => ?_⟩
  obtain ⟨U, G, ρ, R, q⟩ := q
  refine ⟨U, G, ρ, R, ?_⟩
  cases hf : f ρ with
  | ok d ρ' =>
    rw [hf] at q
    intro G' H' R' s p o g u hh r hn
    refine .inr ⟨p, o, rfl, hh, r.mut, fun od => ?_⟩
    have s2 := same_upd (o := lkO od o) g
    exact q _ _ (R'.freezeTo u g hh hn) (s.trans s2) (.ref p) ((r.mono s2).rep upd_same)
  | ex c ns vs ρ' => rw [hf] at q; exact q
  | bad => rw [hf] at q; exact q
theorem ars_len {G : Hp} {σ : L2.St} : ∀ {as : List Ar} {vs : List V}, ArsOk T G σ vs as → vs.length = as.length
  | [], [], _ => rfl
  | [], _ :: _, h => h.elim
  | _ :: _, [], h => h.elim
  | _ :: as, _ :: vs, h => by simp [ars_len h.2]
def eSeq (c : List D → D) (f : AF) : EF := fun ρ => (f ρ).bnd fun as ρ' => opt ((vals as).map c) ρ'
theorem seq_run {es : List Expr} {f : AF} {c : List D → D} {Q : VK} {Q' : V → Hp → Hp → En → Prop} (h : JA X T W es f) (hl : es.length ≤ 1000) {U G : Hp} {σ : L2.St} {ρ : En} {P : D → Hp → Hp → En → Prop} (q : Pst T U σ G (eSeq c f ρ) P W) :
    Pst T U σ G (f ρ) (fun as G' H' ρ' => ∀ vs, ArsOk T G' σ vs as → Rel T U G' H' σ ρ' ∧ vs.length ≤ 1000 ∧ ∃ ds, Reps T G' vs ds ∧ ∀ G2 H2, Rel T U G2 H2 σ ρ' → L2.Same G' G2 → P (c ds) G2 H2 ρ') W := by
  have q' := Pst.bnd q
  cases hf : f ρ with
  | ok as ρ' =>
    rw [hf] at q'
    intro G1 H1 R1 s1 vs avs
    obtain ⟨_, _, p⟩ := q' G1 H1 R1 s1
    obtain ⟨c', e, p⟩ := Pst.opt p
    cases e2 : vals as with
    | none => rw [e2] at e; cases e
    | some ds =>
      rw [e2] at e
      cases e
      refine ⟨R1, ?_, ds, vals_ok avs e2, p⟩
      rw [ars_len avs, h.len _ _ _ hf]
      exact hl
  | ex c ns vs ρ' => rw [hf] at q'; exact q'
  | bad => rw [hf] at q'; exact q'
theorem le_line {n : Nat} (h : n ≤ 1000) : n ≤ sizeLine := by rw [sizeLine_eq]; omega
theorem j_tup {es : List Expr} {f : AF} {x1} {pos : Pos} (h : JA X T W es f) (hl : es.length ≤ 1000 := by decide) : JE X T W (.Tuple es x1 pos) (eSeq .tup f) := by
  refine ⟨h.k, pe_imp (pe_tup h.run) fun σ H Q q => ?_⟩
  obtain ⟨U, G, ρ, R, q⟩ := q
  refine ⟨U, G, ρ, R, (seq_run (Q := Q) (Q' := fun _ _ _ _ => True) h hl q).mono (L2.Same.refl _) fun as G1 H1 ρ1 _ p vs avs => ?_⟩
  obtain ⟨R1, hz, ds, r, p⟩ := p vs avs
  refine ⟨le_line hz, fun l hl => ?_⟩
  have s := same_upd (o := .tup vs) (R1.gfree hl)
  exact p _ _ (R1.alloc hl) s _ ⟨l, vs, rfl, .of upd_same, r.mono s⟩
theorem j_lstO {es : List Expr} {f : AF} {pos : Pos} (h : JA X T W es f) (hl : es.length ≤ 1000 := by decide) : JO X T W (.List es pos) (eSeq .lst f) := by
  refine ⟨h.k, pe_imp (pe_lst h.run) fun σ H Q q => ?_⟩
  obtain ⟨U, G, ρ, R, q⟩ := q
  refine ⟨U, G, ρ, R, (seq_run (Q := Q) (Q' := fun _ _ _ _ => True) h hl q).mono (L2.Same.refl _) fun as G1 H1 ρ1 _ p vs avs => ?_⟩
  obtain ⟨R1, hz, ds, r, p⟩ := p vs avs
  refine ⟨le_line hz, fun l hl => ?_⟩
  obtain ⟨R2, hn⟩ := R1.fresh (o := .lst vs) hl
  exact p _ _ R2 (L2.Same.refl _) l _ (R1.gfree hl) (R1.ufree hl) upd_same ⟨vs, rfl, r⟩ hn
end

/-! ### built-in functions -/
section
variable {X : Cx} {T : Tab} {W : WX}
/-- a call by values, its answer a value -/
def OpL (T : Tab) (r : List V → Hp → VK → Prop) (g : List D → Option D) : Prop := ∀ U G H σ ρ xs ds c (Q : VK), Rel T U G H σ ρ → RepHs T G H xs ds → g ds = some c → (∀ v G' H', Rel T U G' H' σ ρ → L2.Same G G' → Rep T G' v c → Q v H') → r xs H Q
/-- .. a new object -/
def OpLO (T : Tab) (r : List V → Hp → VK → Prop) (g : List D → Option D) : Prop := ∀ U G H σ ρ xs ds c (Q : VK), Rel T U G H σ ρ → RepHs T G H xs ds → g ds = some c →
  (∀ p o G' H', Rel T U G' H' σ ρ → L2.Same G G' → G' p = none → U p = none → H' p = some o → RepO T G' o c → (∀ (i : Nat) (d : D), ρ[i]? = some (.ow d) → σ[i]? ≠ some (some (.ref p))) → Q (.ref p) H') → r xs H Q
def eCallB (g : List D → Option D) (f : AF) : EF := fun ρ => (f ρ).bnd fun as ρ' => match looks ρ' as with
  | some ds => opt (g ds) ρ'
  | none => .bad
theorem callB_run {r : List V → Hp → VK → Prop} {g : List D → Option D} {f : AF} (hg : OpL T r g) : ∀ σ H Q, tE T W (eCallB g f) σ H Q → tCB r (tA T W f) σ H Q := by
  intro σ H Q q
  obtain ⟨U, G, ρ, R, q⟩ := q
  refine ⟨U, G, ρ, R, (Pst.bnd q).mono (L2.Same.refl _) fun as G1 H1 ρ1 _ ⟨R1, s1, p⟩ vs avs => ?_⟩
  cases e : looks ρ1 as with
  | none => rw [e] at p; exact p.elim
  | some ds =>
    rw [e] at p
    obtain ⟨c, e2, p⟩ := Pst.opt p
    exact hg U G1 H1 σ ρ1 vs ds c Q R1 (looks_ok R1 avs e) e2 fun v G' H' R' s' r' => p G' H' R' s' v r'
theorem callO_run {r : List V → Hp → VK → Prop} {g : List D → Option D} {f : AF} (hg : OpLO T r g) : ∀ σ H Q, tO T W (eCallB g f) σ H Q → tCB r (tA T W f) σ H Q := by
  intro σ H Q q
  obtain ⟨U, G, ρ, R, q⟩ := q
  refine ⟨U, G, ρ, R, (Pst.bnd q).mono (L2.Same.refl _) fun as G1 H1 ρ1 _ ⟨R1, s1, p⟩ vs avs => ?_⟩
  cases e : looks ρ1 as with
  | none => rw [e] at p; exact p.elim
  | some ds =>
    rw [e] at p
    obtain ⟨c, e2, p⟩ := Pst.opt p
    exact hg U G1 H1 σ ρ1 vs ds c Q R1 (looks_ok R1 avs e) e2 fun v o G' H' R' s' g u hh r' hn => p G' H' R' s' v o g u hh r' hn
variable {x : Str} {p pos : Pos} {e : Expr} {es : List Expr} {f : AF} {id ty : String} {r : List V → Hp → VK → Prop} {g : List D → Option D}
theorem j_callB (hc : CallR X (.builtin id) r) (hg : OpL T r g) (ha : JA X T W (e :: es) f) (hm : X.mg x = none) (hv : bootBuiltins x = some (.builtin id)) (hgl : Gl X x := by rfl) (hn : x ≠ "__name__" := by decide) (hdb : (x == ("__debug__" : Str)) = false := by decide)
    (he : starEach (e :: es) X.env = (false, eval e X.env) :: starEach es X.env := by rfl) (hpl : (backTo pos (starEach es X.env)).any (·.1) = false := by rfl) : JE X T W (.Call (.Name x p) (e :: es) [] pos) (eCallB g f) :=
  ⟨ha.k, pe_imp (pe_callB hc hgl hm hv ha.run hn hdb he hpl) (callB_run hg)⟩
theorem j_callT (hc : CallR X (.type ty) r) (hg : OpL T r g) (ha : JA X T W (e :: es) f) (hm : X.mg x = none) (hv : bootBuiltins x = some (.type ty)) (hgl : Gl X x := by rfl) (hn : x ≠ "__name__" := by decide) (hdb : (x == ("__debug__" : Str)) = false := by decide)
    (he : starEach (e :: es) X.env = (false, eval e X.env) :: starEach es X.env := by rfl) (hpl : (backTo pos (starEach es X.env)).any (·.1) = false := by rfl) : JE X T W (.Call (.Name x p) (e :: es) [] pos) (eCallB g f) :=
  ⟨ha.k, pe_imp (pe_callTy hc hgl hm hv ha.run hn hdb he hpl) (callB_run hg)⟩
theorem j_callBO (hc : CallR X (.builtin id) r) (hg : OpLO T r g) (ha : JA X T W (e :: es) f) (hm : X.mg x = none) (hv : bootBuiltins x = some (.builtin id)) (hgl : Gl X x := by rfl) (hn : x ≠ "__name__" := by decide) (hdb : (x == ("__debug__" : Str)) = false := by decide)
    (he : starEach (e :: es) X.env = (false, eval e X.env) :: starEach es X.env := by rfl) (hpl : (backTo pos (starEach es X.env)).any (·.1) = false := by rfl) : JO X T W (.Call (.Name x p) (e :: es) [] pos) (eCallB g f) :=
  ⟨ha.k, pe_imp (pe_callB hc hgl hm hv ha.run hn hdb he hpl) (callO_run hg)⟩
theorem j_callTO (hc : CallR X (.type ty) r) (hg : OpLO T r g) (ha : JA X T W (e :: es) f) (hm : X.mg x = none) (hv : bootBuiltins x = some (.type ty)) (hgl : Gl X x := by rfl) (hn : x ≠ "__name__" := by decide) (hdb : (x == ("__debug__" : Str)) = false := by decide)
    (he : starEach (e :: es) X.env = (false, eval e X.env) :: starEach es X.env := by rfl) (hpl : (backTo pos (starEach es X.env)).any (·.1) = false := by rfl) : JO X T W (.Call (.Name x p) (e :: es) [] pos) (eCallB g f) :=
  ⟨ha.k, pe_imp (pe_callTy hc hgl hm hv ha.run hn hdb he hpl) (callO_run hg)⟩

theorem RepHs.one {G H : Hp} {xs : List V} {d : D} (h : RepHs T G H xs [d]) : ∃ x, xs = [x] ∧ RepH T G H x d := by
  match xs, h with
  | [x], h => exact ⟨x, rfl, h.1⟩
  | [], h => exact h.elim
  | _ :: _ :: _, h => exact h.2.elim
theorem RepHs.two {G H : Hp} {xs : List V} {d e : D} (h : RepHs T G H xs [d, e]) : ∃ x y, xs = [x, y] ∧ RepH T G H x d ∧ RepH T G H y e := by
  match xs, h with
  | [x, y], h => exact ⟨x, y, rfl, h.1, h.2.1⟩
  | [], h => exact h.elim
  | [_], h => exact h.2.elim
  | _ :: _ :: _ :: _, h => exact h.2.2.elim
/-- one argument -/
def on1 (g : D → Option D) : List D → Option D
  | [d] => g d
  | _ => none
def on2 (g : D → D → Option D) : List D → Option D
  | [d, e] => g d e
  | _ => none
@[simp] theorem on1_one (g : D → Option D) (d : D) : on1 g [d] = g d := rfl
@[simp] theorem on2_two (g : D → D → Option D) (d e : D) : on2 g [d, e] = g d e := rfl
theorem opL_1 {r : List V → Hp → VK → Prop} {g : D → Option D} (h : ∀ U G H σ ρ x d c (Q : VK), Rel T U G H σ ρ → RepH T G H x d → g d = some c → (∀ v G' H', Rel T U G' H' σ ρ → L2.Same G G' → Rep T G' v c → Q v H') → r [x] H Q) : OpL T r (on1 g) := by
  intro U G H σ ρ xs ds c Q R rx hg q
  match ds, rx, hg with
  | [d], rx, hg =>
    obtain ⟨x, rfl, rx'⟩ := rx.one
    exact h U G H σ ρ x d c Q R rx' hg q
  | [], _, hg => cases hg
  | _ :: _ :: _, _, hg => cases hg
theorem opL_2 {r : List V → Hp → VK → Prop} {g : D → D → Option D} (h : ∀ U G H σ ρ x y d e c (Q : VK), Rel T U G H σ ρ → RepH T G H x d → RepH T G H y e → g d e = some c → (∀ v G' H', Rel T U G' H' σ ρ → L2.Same G G' → Rep T G' v c → Q v H') → r [x, y] H Q) : OpL T r (on2 g) := by
  intro U G H σ ρ xs ds c Q R rx hg q
  match ds, rx, hg with
  | [d, e], rx, hg =>
    obtain ⟨x, y, rfl, rx', ry'⟩ := rx.two
    exact h U G H σ ρ x y d e c Q R rx' ry' hg q
  | [], _, hg => cases hg
  | [_], _, hg => cases hg
  | _ :: _ :: _ :: _, _, hg => cases hg
theorem opLO_1 {r : List V → Hp → VK → Prop} {g : D → Option D} (h : ∀ U G H σ ρ x d c (Q : VK), Rel T U G H σ ρ → RepH T G H x d → g d = some c →
    (∀ p o G' H', Rel T U G' H' σ ρ → L2.Same G G' → G' p = none → U p = none → H' p = some o → RepO T G' o c → (∀ (i : Nat) (d : D), ρ[i]? = some (.ow d) → σ[i]? ≠ some (some (.ref p))) → Q (.ref p) H') → r [x] H Q) : OpLO T r (on1 g) := by
  intro U G H σ ρ xs ds c Q R rx hg q
  match ds, rx, hg with
  | [d], rx, hg =>
    obtain ⟨x, rfl, rx'⟩ := rx.one
    exact h U G H σ ρ x d c Q R rx' hg q
  | [], _, hg => cases hg
  | _ :: _ :: _, _, hg => cases hg
/-- a new list -/
theorem mkList {U G H : Hp} {σ : L2.St} {ρ : En} {Q : VK} {c : List D} {vs : List V} (R : Rel T U G H σ ρ) (r : Reps T G vs c)
    (q : ∀ p o G' H', Rel T U G' H' σ ρ → L2.Same G G' → G' p = none → U p = none → H' p = some o → RepO T G' o (.lst c) → (∀ (i : Nat) (d : D), ρ[i]? = some (.ow d) → σ[i]? ≠ some (some (.ref p))) → Q (.ref p) H') : ∀ p, H p = none → Q (.ref p) (upd H p (.lst vs)) := fun l hl => by
  obtain ⟨R2, hn⟩ := R.fresh (o := .lst vs) hl
  exact q l _ G _ R2 (L2.Same.refl _) (R.gfree hl) (R.ufree hl) upd_same ⟨vs, rfl, r⟩ hn
theorem mkTup {U G H : Hp} {σ : L2.St} {ρ : En} {Q : VK} {c : List D} {vs : List V} (R : Rel T U G H σ ρ) (r : Reps T G vs c)
    (q : ∀ v G' H', Rel T U G' H' σ ρ → L2.Same G G' → Rep T G' v (.tup c) → Q v H') : ∀ p, H p = none → Q (.ref p) (upd H p (.tup vs)) := fun l hl => by
  have s := same_upd (o := .tup vs) (R.gfree hl)
  exact q _ _ _ (R.alloc hl) s ⟨l, vs, rfl, .of upd_same, r.mono s⟩

def lenD : D → Option D
  | .str s => some (.int s.length)
  | .tup ds => some (.int ds.length)
  | .lst ds => some (.int ds.length)
  | .scr ds => some (.int ds.length)
  | .dct ks _ => some (.int ks.length)
  | _ => none
theorem call_lenR : CallR X (.builtin "len") (fun xs H Q => ∃ a kvs, xs = [V.ref a] ∧ Rd H a (.dK kvs) ∧ Q (.int kvs.length) H) := by
  intro pins s σ H xs us Q I r h
  obtain ⟨a, kvs, rfl, ha, q⟩ := h
  obtain ⟨u, rfl, ru⟩ := vals1 r
  cases ru
  exact d_len I ha fun t s' I' => ⟨.int kvs.length, H, I', ⟨t, rfl⟩, q⟩
theorem len_J (k : X.K = T.K) : OpL T (fun xs H Q => (∃ x n, xs = [x] ∧ LenV X.K x H n ∧ Q (.int n) H) ∨ ∃ a kvs, xs = [V.ref a] ∧ Rd H a (.dK kvs) ∧ Q (.int kvs.length) H) (on1 lenD) := opL_1 fun U G H σ ρ x d c Q R rx hg q => by
  rw [k]
  cases d <;> simp only [lenD] at hg <;> first | (cases hg; done) | skip
  · cases hg
    obtain ⟨rfl, o⟩ := rx.str
    exact .inl ⟨_, _, rfl, ⟨o.1, rfl⟩, q _ G H R (L2.Same.refl _) rfl⟩
  · cases hg
    obtain ⟨a, xs, rfl, h, _, r⟩ := rx.tup R.same
    exact .inl ⟨_, xs.length, rfl, .inr ⟨xs, h, rfl⟩, q _ G H R (L2.Same.refl _) (by rw [r.length]; rfl)⟩
  · cases hg
    obtain ⟨a, xs, rfl, h, r⟩ := rx.lst R.same
    exact .inl ⟨_, xs.length, rfl, .inl ⟨xs, .of h, rfl⟩, q _ G H R (L2.Same.refl _) (by rw [r.length]; rfl)⟩
  · cases hg
    obtain ⟨a, kk, rfl, h, e, _, r⟩ := rx.dct R.same
    rename_i ks vs nd
    have hl : kk.length = ks.length := by have := congrArg List.length e; simpa using this
    exact .inr ⟨a, kk, rfl, h, q _ G H R (L2.Same.refl _) (show V.int _ = V.int _ by rw [hl])⟩
  · cases hg
    obtain ⟨a, xs, rfl, h, r⟩ := rx.scr R.same
    exact .inl ⟨_, xs.length, rfl, .inl ⟨xs, h, rfl⟩, q _ G H R (L2.Same.refl _) (by rw [r.length]; rfl)⟩
theorem j_len (ha : JA X T W [e] f) (hm : X.mg "len" = none) (hgl : Gl X "len" := by rfl) (he : starEach [e] X.env = (false, eval e X.env) :: starEach [] X.env := by rfl) : JE X T W (.Call (.Name "len" p) [e] [] pos) (eCallB (on1 lenD) f) :=
  j_callB (CallR.or call_len call_lenR) (len_J ha.k) ha hm PySem.boot_len hgl (by decide) (by decide) he rfl
def absD : D → Option D
  | .int i => some (.int (if i < 0 then -i else i))
  | _ => none
theorem abs_J : OpL T (fun xs H Q => ∃ i, xs = [.int i] ∧ Q (.int (if i < 0 then -i else i)) H) (on1 absD) := opL_1 fun U G H σ ρ x d c Q R rx hg q => by
  cases d <;> simp only [absD] at hg <;> first | (cases hg; done) | skip
  cases hg
  exact ⟨_, by rw [rx.int], q _ G H R (L2.Same.refl _) rfl⟩
def intD : D → Option D
  | .int i => some (.int i)
  | .bl b => some (.int (if b then 1 else 0))
  | _ => none
theorem int_J : OpL T (fun xs H Q => (∃ i, xs = [.int i] ∧ Q (.int i) H) ∨ ∃ k, xs = [.bl k] ∧ Q (.int (if k then 1 else 0)) H) (on1 intD) := opL_1 fun U G H σ ρ x d c Q R rx hg q => by
  cases d <;> simp only [intD] at hg <;> first | (cases hg; done) | skip
  · cases hg
    exact .inr ⟨_, by rw [rx.bl], q _ G H R (L2.Same.refl _) rfl⟩
  · cases hg
    exact .inl ⟨_, by rw [rx.int], q _ G H R (L2.Same.refl _) rfl⟩
/-- tuple(x) -/
def tupD : D → Option D
  | .tup ds => some (.tup ds)
  | .lst ds => some (.tup ds)
  | _ => none
theorem tup_J (k : X.K = T.K) : OpL T (fun xs H Q => ∃ p ys, xs = [.ref p] ∧ ((SqL X.K H p ys ∧ ∀ l, H l = none → Q (.ref l) (upd H l (.tup ys))) ∨ (SqT X.K H p ys ∧ Q (.ref p) H))) (on1 tupD) := opL_1 fun U G H σ ρ x d c Q R rx hg q => by
  rw [k]
  cases d <;> simp only [tupD] at hg <;> first | (cases hg; done) | skip
  · cases hg
    obtain ⟨a, xs, rfl, h, hG, r⟩ := rx.tup R.same
    exact ⟨a, xs, rfl, .inr ⟨h, q _ G H R (L2.Same.refl _) ⟨a, xs, rfl, hG, r⟩⟩⟩
  · cases hg
    obtain ⟨a, xs, rfl, h, r⟩ := rx.lst R.same
    exact ⟨a, xs, rfl, .inl ⟨.of h, mkTup R r q⟩⟩
/-- list(x) -/
def lstD : D → Option D
  | .tup ds => some (.lst ds)
  | .lst ds => some (.lst ds)
  | _ => none
theorem lst_J (k : X.K = T.K) : OpLO T (fun xs H Q => ∃ p ys, xs = [.ref p] ∧ (SqL X.K H p ys ∨ SqT X.K H p ys) ∧ ∀ l, H l = none → Q (.ref l) (upd H l (.lst ys))) (on1 lstD) := opLO_1 fun U G H σ ρ x d c Q R rx hg q => by
  rw [k]
  cases d <;> simp only [lstD] at hg <;> first | (cases hg; done) | skip
  · cases hg
    obtain ⟨a, xs, rfl, h, hG, r⟩ := rx.tup R.same
    exact ⟨a, xs, rfl, .inr h, mkList R r q⟩
  · cases hg
    obtain ⟨a, xs, rfl, h, r⟩ := rx.lst R.same
    exact ⟨a, xs, rfl, .inl (.of h), mkList R r q⟩
/-- lists of ints, of truths -/
def intsD : List D → Option (List Int)
  | [] => some []
  | .int i :: r => (intsD r).map (i :: ·)
  | _ => none
theorem ints_ok {G : Hp} : ∀ {ds : List D} {xs : List V} {ns : List Int}, Reps T G xs ds → intsD ds = some ns → xs = ns.map V.int
  | [], _, _, r, e => by cases e; exact r
  | d :: ds, _, ns, ⟨x, r, ex, rx, rr⟩, e => by
    cases d <;> simp only [intsD] at e <;> first | (cases e; done) | skip
    rename_i i
    cases e2 : intsD ds with
    | none => rw [e2] at e; cases e
    | some ms =>
      rw [e2] at e
      cases e
      rw [ex, ints_ok rr e2, show x = .int i from rx]; rfl
def blsD : List D → Option (List Bool)
  | [] => some []
  | .bl i :: r => (blsD r).map (i :: ·)
  | _ => none
theorem bls_ok {G : Hp} : ∀ {ds : List D} {xs : List V} {ns : List Bool}, Reps T G xs ds → blsD ds = some ns → xs = ns.map V.bl
  | [], _, _, r, e => by cases e; exact r
  | d :: ds, _, ns, ⟨x, r, ex, rx, rr⟩, e => by
    cases d <;> simp only [blsD] at e <;> first | (cases e; done) | skip
    rename_i i
    cases e2 : blsD ds with
    | none => rw [e2] at e; cases e
    | some ms =>
      rw [e2] at e
      cases e
      rw [ex, bls_ok rr e2, show x = .bl i from rx]; rfl
@[simp] theorem intsD_map (ns : List Int) : intsD (ns.map D.int) = some ns := by
  induction ns with
  | nil => rfl
  | cons a r ih => simp [intsD, ih]
@[simp] theorem blsD_map (ns : List Bool) : blsD (ns.map D.bl) = some ns := by
  induction ns with
  | nil => rfl
  | cons a r ih => simp [blsD, ih]
def onL {α : Type} (rd : List D → Option α) (g : α → Option D) : D → Option D
  | .lst ds => (rd ds).bind g
  | _ => none
def sumD : D → Option D := onL intsD fun ns => some (.int ns.sum)
theorem sum_J (k : X.K = T.K) : OpL T (rSum X.K) (on1 sumD) := opL_1 fun U G H σ ρ x d c Q R rx hg q => by
  rw [k]
  cases d <;> simp only [sumD, onL] at hg <;> first | (cases hg; done) | skip
  rename_i ds
  cases e : intsD ds with
  | none => rw [e] at hg; cases hg
  | some ns =>
    rw [e] at hg
    cases hg
    obtain ⟨a, xs, rfl, h, r⟩ := rx.lst R.same
    exact ⟨a, ns, rfl, .of (by rw [← ints_ok r e]; exact h), q _ G H R (L2.Same.refl _) rfl⟩
def maxL : List Int → Option Int
  | [] => none
  | a :: r => some (r.foldl max a)
def minL : List Int → Option Int
  | [] => none
  | a :: r => some (r.foldl min a)
theorem foldl_max (r : List Int) : ∀ a : Int, (a ≤ r.foldl max a ∧ ∀ y ∈ r, y ≤ r.foldl max a) ∧ (r.foldl max a = a ∨ r.foldl max a ∈ r) := by
  induction r with
  | nil => intro a; simp
  | cons b r ih =>
    intro a
    obtain ⟨⟨h1, h2⟩, h3⟩ := ih (max a b)
    refine ⟨⟨by simp only [List.foldl_cons]; omega, fun y hy => ?_⟩, ?_⟩
    · rcases List.mem_cons.mp hy with rfl | hy
      · simp only [List.foldl_cons]; omega
      · exact h2 y hy
    · simp only [List.foldl_cons]
      rcases h3 with h3 | h3
      · by_cases hab : a ≤ b
        · right; rw [h3, show max a b = b by omega]; exact List.mem_cons_self
        · left; rw [h3]; omega
      · right; exact List.mem_cons_of_mem _ h3
theorem foldl_min (r : List Int) : ∀ a : Int, (r.foldl min a ≤ a ∧ ∀ y ∈ r, r.foldl min a ≤ y) ∧ (r.foldl min a = a ∨ r.foldl min a ∈ r) := by
  induction r with
  | nil => intro a; simp
  | cons b r ih =>
    intro a
    obtain ⟨⟨h1, h2⟩, h3⟩ := ih (min a b)
    refine ⟨⟨by simp only [List.foldl_cons]; omega, fun y hy => ?_⟩, ?_⟩
    · rcases List.mem_cons.mp hy with rfl | hy
      · simp only [List.foldl_cons]; omega
      · exact h2 y hy
    · simp only [List.foldl_cons]
      rcases h3 with h3 | h3
      · by_cases hab : a ≤ b
        · left; rw [h3]; omega
        · right; rw [h3, show min a b = b by omega]; exact List.mem_cons_self
      · right; exact List.mem_cons_of_mem _ h3
theorem maxL_ok {ns : List Int} {m n : Int} (h : maxL ns = some m) (hn : n ∈ ns) (hh : ∀ y, y ∈ ns → y ≤ n) : n = m := by
  cases ns with
  | nil => cases h
  | cons a r =>
    cases h
    obtain ⟨⟨h1, h2⟩, h3⟩ := foldl_max r a
    have q : n ≤ r.foldl max a := by
      rcases List.mem_cons.mp hn with rfl | hn
      · exact h1
      · exact h2 n hn
    have q2 : r.foldl max a ≤ n := by
      rcases h3 with h3 | h3
      · rw [h3]; exact hh a List.mem_cons_self
      · exact hh _ (List.mem_cons_of_mem _ h3)
    omega
theorem minL_ok {ns : List Int} {m n : Int} (h : minL ns = some m) (hn : n ∈ ns) (hh : ∀ y, y ∈ ns → n ≤ y) : n = m := by
  cases ns with
  | nil => cases h
  | cons a r =>
    cases h
    obtain ⟨⟨h1, h2⟩, h3⟩ := foldl_min r a
    have q : r.foldl min a ≤ n := by
      rcases List.mem_cons.mp hn with rfl | hn
      · exact h1
      · exact h2 n hn
    have q2 : n ≤ r.foldl min a := by
      rcases h3 with h3 | h3
      · rw [h3]; exact hh a List.mem_cons_self
      · exact hh _ (List.mem_cons_of_mem _ h3)
    omega
def maxD : D → Option D := onL intsD fun ns => (maxL ns).map D.int
def minD : D → Option D := onL intsD fun ns => (minL ns).map D.int
theorem max_J (k : X.K = T.K) : OpL T (rMax X.K) (on1 maxD) := opL_1 fun U G H σ ρ x d c Q R rx hg q => by
  rw [k]
  cases d <;> simp only [maxD, onL] at hg <;> first | (cases hg; done) | skip
  rename_i ds
  cases e : intsD ds with
  | none => rw [e] at hg; cases hg
  | some ns =>
    rw [e] at hg
    simp only [Option.bind_some] at hg
    cases e2 : maxL ns with
    | none => rw [e2] at hg; cases hg
    | some m =>
      rw [e2] at hg
      cases hg
      obtain ⟨a, xs, rfl, h, r⟩ := rx.lst R.same
      refine ⟨a, ns, rfl, .of (by rw [← ints_ok r e]; exact h), by cases ns <;> simp_all [maxL], fun n h1 h2 => ?_⟩
      rw [maxL_ok e2 h1 h2]
      exact q _ G H R (L2.Same.refl _) rfl
theorem min_J (k : X.K = T.K) : OpL T (rMin X.K) (on1 minD) := opL_1 fun U G H σ ρ x d c Q R rx hg q => by
  rw [k]
  cases d <;> simp only [minD, onL] at hg <;> first | (cases hg; done) | skip
  rename_i ds
  cases e : intsD ds with
  | none => rw [e] at hg; cases hg
  | some ns =>
    rw [e] at hg
    simp only [Option.bind_some] at hg
    cases e2 : minL ns with
    | none => rw [e2] at hg; cases hg
    | some m =>
      rw [e2] at hg
      cases hg
      obtain ⟨a, xs, rfl, h, r⟩ := rx.lst R.same
      refine ⟨a, ns, rfl, .of (by rw [← ints_ok r e]; exact h), by cases ns <;> simp_all [minL], fun n h1 h2 => ?_⟩
      rw [minL_ok e2 h1 h2]
      exact q _ G H R (L2.Same.refl _) rfl
def max2D : D → D → Option D
  | .int i, .int j => some (.int (if j > i then j else i))
  | _, _ => none
def min2D : D → D → Option D
  | .int i, .int j => some (.int (if j < i then j else i))
  | _, _ => none
theorem max2_J : OpL T (fun xs H Q => ∃ i j, xs = [.int i, .int j] ∧ Q (.int (if j > i then j else i)) H) (on2 max2D) := opL_2 fun U G H σ ρ x y d e c Q R rx ry hg q => by
  cases d <;> cases e <;> simp only [max2D] at hg <;> first | (cases hg; done) | skip
  cases hg
  exact ⟨_, _, by rw [rx.int, ry.int], q _ G H R (L2.Same.refl _) rfl⟩
theorem min2_J : OpL T (fun xs H Q => ∃ i j, xs = [.int i, .int j] ∧ Q (.int (if j < i then j else i)) H) (on2 min2D) := opL_2 fun U G H σ ρ x y d e c Q R rx ry hg q => by
  cases d <;> cases e <;> simp only [min2D] at hg <;> first | (cases hg; done) | skip
  cases hg
  exact ⟨_, _, by rw [rx.int, ry.int], q _ G H R (L2.Same.refl _) rfl⟩
def anyD : D → Option D := onL blsD fun bs => some (.bl (bs.any _root_.id))
def allD : D → Option D := onL blsD fun bs => some (.bl (bs.all _root_.id))
theorem any_J (k : X.K = T.K) : OpL T (rAny X.K) (on1 anyD) := opL_1 fun U G H σ ρ x d c Q R rx hg q => by
  rw [k]
  cases d <;> simp only [anyD, onL] at hg <;> first | (cases hg; done) | skip
  rename_i ds
  cases e : blsD ds with
  | none => rw [e] at hg; cases hg
  | some ns =>
    rw [e] at hg
    cases hg
    obtain ⟨a, xs, rfl, h, r⟩ := rx.lst R.same
    exact ⟨a, ns, rfl, .of (by rw [← bls_ok r e]; exact h), q _ G H R (L2.Same.refl _) rfl⟩
theorem all_J (k : X.K = T.K) : OpL T (rAll X.K) (on1 allD) := opL_1 fun U G H σ ρ x d c Q R rx hg q => by
  rw [k]
  cases d <;> simp only [allD, onL] at hg <;> first | (cases hg; done) | skip
  rename_i ds
  cases e : blsD ds with
  | none => rw [e] at hg; cases hg
  | some ns =>
    rw [e] at hg
    cases hg
    obtain ⟨a, xs, rfl, h, r⟩ := rx.lst R.same
    exact ⟨a, ns, rfl, .of (by rw [← bls_ok r e]; exact h), q _ G H R (L2.Same.refl _) rfl⟩
def strD : D → Option D
  | .int i => if i.natAbs.log2 < 1920 then some (.str (toString i)) else none
  | _ => none
end

/-! ### isinstance -/
section
variable {X : Cx} {T : Tab} {W : WX}
def tyN : D → Option String
  | .non => some "NoneType"
  | .bl _ => some "bool"
  | .int _ => some "int"
  | .str _ => some "str"
  | .tup _ => some "tuple"
  | .lst _ => some "list"
  | .dct _ _ => some "dict"
  | .scr _ => some "list"
  | _ => none
theorem ty_ok {G H : Hp} {v : V} {d : D} {t : String} (s : L2.Same G H) (r : RepH T G H v d) (e : tyN d = some t) : TyX T.K H v (.type t) := by
  cases d <;> simp only [tyN] at e <;> first | (cases e; done) | skip
  · cases e; rw [r.non]; exact .base .non
  · cases e; rw [r.bl]; exact .base (.bl _)
  · cases e; rw [r.int]; exact .base (.int _)
  · cases e; rw [r.str.1]; exact .base (.str _)
  · cases e
    obtain ⟨a, xs, rfl, h, _, _⟩ := r.tup s
    rcases h with (h | ⟨o, h⟩) | ⟨o, its, n, hk, hc, _⟩
    · exact .base (.tup h)
    · exact .fTuple h
    · exact .kTuple hk hc
  · cases e
    obtain ⟨a, xs, rfl, h, _⟩ := r.lst s
    exact .base (.lst h)
  · cases e
    obtain ⟨a, kk, rfl, h, _⟩ := r.dct s
    rcases h with h | ⟨o, h⟩
    · exact .base (.dK h)
    · exact .fDict h
  · cases e
    obtain ⟨a, xs, rfl, h, _⟩ := r.scr s
    rcases h with (h | ⟨o, h⟩) | ⟨o, its, n, hk, hc, _⟩
    · exact .base (.lst h)
    · exact .base (.frz h)
    · exact .kList hk hc
/-- isinstance(x, t) -/
def isTD (t : String) (d : D) : Option D := (tyN d).bind fun a => (kitB a t).map D.bl
/-- isinstance(x, (t, ..)) -/
def anyTD : List String → String → Option Bool
  | [], _ => some false
  | t :: ts, a => match kitB a t with
    | some true => some true
    | some false => anyTD ts a
    | none => none
def isTsD (ts : List String) (d : D) : Option D := (tyN d).bind fun a => (anyTD ts a).map D.bl
theorem kitAny_ok {K : PySem.W.Frag} : ∀ {ts : List String} {a : String} {b : Bool}, anyTD ts a = some b → PySem.W.kitAny K (.type a) (ts.map Value.type) = some b
  | [], a, b, h => by cases h; rfl
  | t :: ts, a, b, h => by
    simp only [anyTD] at h
    cases e : kitB a t with
    | none => rw [e] at h; cases h
    | some c =>
      rw [e] at h
      cases c with
      | true => cases h; exact kitAny_cons (kit_ty e) (fun z => by cases z) (fun _ => rfl)
      | false => exact kitAny_cons (kit_ty e) (fun _ => kitAny_ok h) (fun z => by cases z)
end
end J

set_option Elab.async false
set_option linter.all false
set_option maxRecDepth 100000
set_option maxHeartbeats 4000000
namespace J
open PySem PySem.Spec PyProof.Rows L2
section
variable {X : Cx} {T : Tab} {W : WX}
/-! ### places and slices -/
theorem Reps.atI {G : Hp} {ds : List D} {xs : List V} {i : Int} {d : D} (r : Reps T G xs ds) (h : L2.atI ds i = some d) : ∃ x, L2.atI xs i = some x ∧ Rep T G x d := by
  unfold L2.atI at h ⊢
  rw [r.length]
  cases e : ixN ds.length i with
  | none => rw [e] at h; cases h
  | some j =>
    rw [e] at h
    exact r.getD (show ds[j]? = some d from h)
def sign (c : Nat) : Str := ⟨#[c]⟩
def ixD : D → D → Option D
  | .lst ds, .int i => atI ds i
  | .tup ds, .int i => atI ds i
  | .scr ds, .int i => atI ds i
  | .str z, .int i => (atI z.cps.toList i).map fun c => .str (sign c)
  | _, _ => none
theorem SOk.sign {z : Str} (h : SOk z) {c : Nat} (hc : c ∈ z.cps.toList) : SOk (sign c) := by
  refine ⟨by show 1 ≤ sizeLine; rw [sizeLine_eq]; omega, ?_⟩
  have h2 : z.cps.all (· < 0x110000) = true := h.2
  rw [← Array.all_toList, List.all_eq_true] at h2
  show (#[c] : Array Nat).all (· < 0x110000) = true
  have := h2 c hc
  simpa using this
theorem atI_mem {α : Type} {xs : List α} {i : Int} {c : α} (h : L2.atI xs i = some c) : c ∈ xs := by
  unfold L2.atI at h
  cases e : ixN xs.length i with
  | none => rw [e] at h; cases h
  | some j => rw [e] at h; exact List.mem_of_getElem? (show xs[j]? = some c from h)
theorem ix_J (k : X.K = T.K) : Op2 T (rIx X.K) ixD := by
  intro U G H σ ρ x y d e c Q R rx ry hg q
  rw [k]
  cases d <;> cases e <;> simp only [ixD] at hg <;> first | (cases hg; done) | skip
  · rename_i z i
    cases e : atI z.cps.toList i with
    | none => rw [e] at hg; cases hg
    | some cc =>
      rw [e] at hg
      cases hg
      obtain ⟨rfl, o⟩ := rx.str
      exact .inr (.inr ⟨z, i, cc, rfl, ry.int, o.1, e, q _ G H R (L2.Same.refl _) ⟨rfl, o.sign (atI_mem e)⟩⟩)
  · obtain ⟨a, xs, rfl, h, hG, r⟩ := rx.tup R.same
    obtain ⟨v, e, rv⟩ := r.atI hg
    exact .inr (.inl ⟨a, xs, _, v, rfl, ry.int, h, e, q _ G H R (L2.Same.refl _) rv⟩)
  · obtain ⟨a, xs, rfl, h, r⟩ := rx.lst R.same
    obtain ⟨v, e, rv⟩ := r.atI hg
    exact .inl ⟨a, xs, _, v, rfl, ry.int, .of h, e, q _ G H R (L2.Same.refl _) rv⟩
  · obtain ⟨a, xs, rfl, h, r⟩ := rx.scr R.same
    obtain ⟨v, e, rv⟩ := r.atI hg
    exact .inl ⟨a, xs, _, v, rfl, ry.int, h, e, q _ G H R (L2.Same.refl _) rv⟩
theorem j_ix {a b : Expr} {pos : Pos} {fa fb : En → Rs Ar} (ha : JR X T W a fa) (hb : JR X T W b fb) (hs : PlainIx b := by exact fun _ _ => rfl) : JE X T W (.Subscript a b pos) (f2 ixD fa fb) :=
  ⟨ha.k, pe_imp (pe_ix ix_seq ha.run hb.run hs) (op2_run (a := a) (b := b) (ix_J ha.k) rfl rfl)⟩
/-- a part of a slice -/
structure JP (X : Cx) (T : Tab) (W : WX) (e : Option Expr) (f : En → Rs (Option Int)) : Prop where
  run : PO X e (fun σ H Q => ∃ U G ρ, Rel T U G H σ ρ ∧ Pst T U σ G (f ρ) (fun o _ H' _ => Q o H') W)
theorem po_imp {X : Cx} {e : Option Expr} {t t' : TO} (h : PO X e t) (hi : ∀ σ H Q, t' σ H Q → t σ H Q) : PO X e t' := ⟨fun pins s σ H Q I q => h.run pins s σ H Q I (hi _ _ _ q)⟩
def pNo : En → Rs (Option Int) := fun ρ => .ok none ρ
def pSome (f : EF) : En → Rs (Option Int) := fun ρ => (f ρ).bnd fun d ρ' => match d with
  | .int i => .ok (some i) ρ'
  | _ => .bad
theorem jp_no : JP X T W none pNo := ⟨po_imp po_none fun σ H Q ⟨U, G, ρ, R, q⟩ => q G H R (L2.Same.refl _)⟩
theorem jp_some {e : Expr} {f : EF} (h : JE X T W e f) : JP X T W (some e) (pSome f) := by
  refine ⟨po_imp (po_some h.run) fun σ H Q ⟨U, G, ρ, R, q⟩ => ?_⟩
  refine ⟨U, G, ρ, R, (Pst.bnd q).mono (L2.Same.refl _) fun d G1 H1 ρ1 _ ⟨R1, s1, p⟩ v r => ?_⟩
  cases d with
  | int i => exact ⟨i, r, p G1 H1 R1 (L2.Same.refl _)⟩
  | _ => exact p.elim
def cutL {α : Type} (xs : List α) (lo hi : Option Int) : List α := (xs.drop (HT.sIx xs.length 0 lo)).take (HT.sIx xs.length xs.length hi - HT.sIx xs.length 0 lo)
def cutD (lo hi : Option Int) : D → Option D
  | .lst ds => some (.lst (cutL ds lo hi))
  | .tup ds => some (.tup (cutL ds lo hi))
  | .str z => some (.str (cutS z lo hi))
  | _ => none
theorem Reps.cut {G : Hp} {ds : List D} {xs : List V} {lo hi : Option Int} (r : Reps T G xs ds) : Reps T G (cutV xs lo hi) (cutL ds lo hi) := by
  unfold cutV cutL
  rw [r.length]
  exact (r.drop _).take _
theorem cutL_whole {α : Type} {xs : List α} {lo hi : Option Int} (h : HT.sIx xs.length 0 lo = 0 ∧ HT.sIx xs.length xs.length hi = xs.length) : cutL xs lo hi = xs := by
  unfold cutL
  rw [h.1, h.2]
  simp
theorem SOk.cut {z : Str} (h : SOk z) (lo hi : Option Int) : SOk (cutS z lo hi) := by
  have hl : z.cps.toList.length = z.length := by simp [Str.length]
  refine ⟨?_, ?_⟩
  · show (cutS z lo hi).cps.size ≤ sizeLine
    unfold cutS
    rw [List.size_toArray, List.length_take, List.length_drop, hl]
    have := h.1
    omega
  · have h2 : z.cps.all (· < 0x110000) = true := h.2
    rw [← Array.all_toList, List.all_eq_true] at h2
    show (cutS z lo hi).cps.all (· < 0x110000) = true
    rw [← Array.all_toList, List.all_eq_true]
    intro c hc
    unfold cutS at hc
    exact h2 c (List.mem_of_mem_drop (List.mem_of_mem_take hc))
def eCut (fa : En → Rs Ar) (fl fh : En → Rs (Option Int)) : EF := fun ρ => (fa ρ).bnd fun a ρ1 => (fl ρ1).bnd fun lo ρ2 => (fh ρ2).bnd fun hi ρ3 => match look ρ3 a with
  | some d => opt (cutD lo hi d) ρ3
  | none => .bad
abbrev rSlJ (K : PySem.W.Frag) : V → Option Int → Option Int → Hp → VK → Prop := fun x lo hi H Q => rSlL K x lo hi H Q ∨ rSlA K x lo hi H Q ∨ rSlS x lo hi H Q
theorem sl_J : SlR X (rSlJ X.K) := SlR.or sl_list (SlR.or sl_tupA sl_str)
theorem j_slice {a : Expr} {lo hi : Option Expr} {p2 pos : Pos} {fa : En → Rs Ar} {fl fh : En → Rs (Option Int)} (ha : JR X T W a fa) (hl : JP X T W lo fl) (hh : JP X T W hi fh) : JE X T W (.Subscript a (.Slice lo hi none p2) pos) (eCut fa fl fh) := by
  refine ⟨ha.k, pe_imp (pe_slice sl_J ha.run hl.run hh.run) fun σ H Q ⟨U, G, ρ, R, q⟩ => ?_⟩
  refine ⟨U, G, ρ, R, (Pst.bnd q).mono (L2.Same.refl _) fun d G1 H1 ρ1 _ ⟨R1, s1, p1⟩ v av => ?_⟩
  refine ⟨U, G1, ρ1, R1, (Pst.bnd p1).mono (L2.Same.refl _) fun l G2 H2 ρ2 _ ⟨R2, s2, p2⟩ => ?_⟩
  refine ⟨U, G2, ρ2, R2, (Pst.bnd p2).mono (L2.Same.refl _) fun u G3 H3 ρ3 _ ⟨R3, s3, p3⟩ => ?_⟩
  cases e : look ρ3 d with
  | none => rw [e] at p3; exact p3.elim
  | some dd =>
    rw [e] at p3
    obtain ⟨c, e2, p⟩ := Pst.opt p3
    have rx := look_ok R3 (av.mono (s2.trans s3)) e
    rw [ha.k]
    cases dd <;> simp only [cutD] at e2 <;> first | (cases e2; done) | skip
    · cases e2
      obtain ⟨rfl, o⟩ := rx.str
      exact .inr (.inr ⟨_, rfl, o.1, p G3 H3 R3 (L2.Same.refl _) _ ⟨rfl, o.cut l u⟩⟩)
    · cases e2
      rename_i ds _
      obtain ⟨b, xs, rfl, h, hG, r⟩ := rx.tup R3.same
      refine .inr (.inl ⟨b, xs, rfl, h, fun hw => ?_, fun _ => mkTup R3 r.cut fun v G' H' R' s' rv => p G' H' R' s' v rv⟩)
      refine p G3 H3 R3 (L2.Same.refl _) _ ⟨b, xs, rfl, hG, ?_⟩
      rw [r.length] at hw
      rw [cutL_whole hw]
      exact r
    · cases e2
      obtain ⟨b, xs, rfl, h, r⟩ := rx.lst R3.same
      refine .inl ⟨b, xs, rfl, .of h, fun lp hlp => ?_⟩
      have s := same_upd (o := .lst (cutV xs l u)) (R3.gfree hlp)
      exact p _ _ (R3.alloc hlp) s _ ⟨lp, _, rfl, upd_same, r.cut.mono s⟩

/-! ### isinstance -/
def eIsT (t : String) (f : En → Rs Ar) : EF := fun ρ => (f ρ).bnd fun a ρ1 => match look ρ1 a with
  | some d => opt (isTD t d) ρ1
  | none => .bad
def eIsTs (ts : List String) (f : En → Rs Ar) : EF := fun ρ => (f ρ).bnd fun a ρ1 => match look ρ1 a with
  | some d => opt (isTsD ts d) ρ1
  | none => .bad
theorem j_isT {a b : Expr} {p pos : Pos} {t : String} {f : En → Rs Ar} (ha : JR X T W a f) (hb : PE X b (tC (.ty t))) (hm : X.mg "isinstance" = none) (hgl : Gl X "isinstance" := by rfl)
    (hs : starEach [a, b] X.env = (false, eval a X.env) :: starEach [b] X.env := by rfl) (hs2 : starEach [b] X.env = (false, eval b X.env) :: starEach [] X.env := by rfl) (hpl : (backTo pos (starEach [b] X.env)).any (·.1) = false := by rfl) :
    JE X T W (.Call (.Name "isinstance" p) [a, b] [] pos) (eIsT t f) := by
  refine ⟨ha.k, pe_imp (pe_callB call_isi hgl hm (by decide +kernel) (pa_cons ha.run (pa_cons hb pa_nil hs2) hs) (by decide) (by decide) hs hpl) fun σ H Q ⟨U, G, ρ, R, q⟩ => ?_⟩
  refine ⟨U, G, ρ, R, (Pst.bnd q).mono (L2.Same.refl _) fun d G1 H1 ρ1 _ ⟨R1, s1, p1⟩ v av => ?_⟩
  cases e : look ρ1 d with
  | none => rw [e] at p1; exact p1.elim
  | some dd =>
    rw [e] at p1
    obtain ⟨c, e2, p2⟩ := Pst.opt p1
    have rx := look_ok R1 av e
    unfold isTD at e2
    cases e3 : tyN dd with
    | none => rw [e3] at e2; cases e2
    | some ty =>
      rw [e3] at e2
      simp only [Option.bind_some] at e2
      cases e4 : kitB ty t with
      | none => rw [e4] at e2; cases e2
      | some b =>
        rw [e4] at e2
        cases e2
        rw [ha.k]
        exact ⟨v, .ty t, _, .type t, b, rfl, .ty t, ty_ok R1.same rx e3, kit_ty e4, p2 G1 H1 R1 (L2.Same.refl _) _ rfl⟩
theorem clsV_tys : ∀ ts : List String, Paired ClsV (ts.map V.ty) (ts.map Value.type)
  | [] => .nil
  | t :: ts => .cons (.ty t) (clsV_tys ts)
/-- the tuple of built-in classes that is written as the second argument -/
theorem j_isTs {a b : Expr} {p pos : Pos} {ts : List String} {f : En → Rs Ar} (ha : JR X T W a f) (hb : PE X b (fun σ H Q => ∀ l, H l = none → Q (.ref l) (upd H l (.tup (ts.map V.ty))))) (hm : X.mg "isinstance" = none) (hgl : Gl X "isinstance" := by rfl)
    (hs : starEach [a, b] X.env = (false, eval a X.env) :: starEach [b] X.env := by rfl) (hs2 : starEach [b] X.env = (false, eval b X.env) :: starEach [] X.env := by rfl) (hpl : (backTo pos (starEach [b] X.env)).any (·.1) = false := by rfl) :
    JE X T W (.Call (.Name "isinstance" p) [a, b] [] pos) (eIsTs ts f) := by
  refine ⟨ha.k, pe_imp (pe_callB call_isiT hgl hm (by decide +kernel) (pa_cons ha.run (pa_cons hb pa_nil hs2) hs) (by decide) (by decide) hs hpl) fun σ H Q ⟨U, G, ρ, R, q⟩ => ?_⟩
  refine ⟨U, G, ρ, R, (Pst.bnd q).mono (L2.Same.refl _) fun d G1 H1 ρ1 _ ⟨R1, s1, p1⟩ v av => fun l hl => ?_⟩
  cases e : look ρ1 d with
  | none => rw [e] at p1; exact p1.elim
  | some dd =>
    rw [e] at p1
    obtain ⟨c, e2, p2⟩ := Pst.opt p1
    have s := same_upd (o := .tup (ts.map V.ty)) (R1.gfree hl)
    have R2 := R1.alloc (o := .tup (ts.map V.ty)) hl
    have rx := look_ok R2 (av.mono s) e
    unfold isTsD at e2
    cases e3 : tyN dd with
    | none => rw [e3] at e2; cases e2
    | some ty =>
      rw [e3] at e2
      simp only [Option.bind_some] at e2
      cases e4 : anyTD ts ty with
      | none => rw [e4] at e2; cases e2
      | some b =>
        rw [e4] at e2
        cases e2
        rw [ha.k]
        exact ⟨v, l, _, _, _, b, rfl, upd_same, clsV_tys ts, ty_ok R2.same rx e3, kitAny_ok e4, p2 _ _ R2 s _ rfl⟩
theorem ty1 {x : Str} {t : String} {pos : Pos} (hm : X.mg x = none) (hv : bootBuiltins x = some (.type t)) (hgl : Gl X x := by rfl) (hn : x ≠ "__name__" := by decide) (hd : (x == ("__debug__" : Str)) = false := by decide) : PE X (.Name x pos) (tC (.ty t)) := pe_bltn hgl hm hv rfl hn hd
theorem ty2 {a b : Expr} {t u : String} {x1} {pos : Pos} (ha : PE X a (tC (.ty t))) (hb : PE X b (tC (.ty u))) (hs : starEach [a, b] X.env = (false, eval a X.env) :: starEach [b] X.env := by rfl) (hs2 : starEach [b] X.env = (false, eval b X.env) :: starEach [] X.env := by rfl) :
    PE X (.Tuple [a, b] x1 pos) (fun σ H Q => ∀ l, H l = none → Q (.ref l) (upd H l (.tup ([t, u].map V.ty)))) :=
  pe_imp (pe_tup (pa_cons ha (pa_cons hb pa_nil hs2) hs)) fun σ H Q q => ⟨by show 2 ≤ sizeLine; rw [sizeLine_eq]; omega, q⟩
end
end J

set_option Elab.async false
set_option linter.all false
set_option maxRecDepth 100000
set_option maxHeartbeats 4000000
namespace J
open PySem PySem.Spec PyProof.Rows L2
section
variable {X : Cx} {T : Tab} {W : WX}
theorem Keeps.refl (ws : List Nat) (σ : L2.St) : Keeps ws σ σ := ⟨rfl, fun _ _ => rfl⟩
theorem Keeps.trans {ws : List Nat} {σ σ' σ'' : L2.St} (a : Keeps ws σ σ') (b : Keeps ws σ' σ'') : Keeps ws σ σ'' := ⟨b.1.trans a.1, fun j h => (b.2 j h).trans (a.2 j h)⟩
theorem Keeps.mono {ws ws' : List Nat} {σ σ' : L2.St} (a : Keeps ws σ σ') (h : ∀ j, j ∈ ws → j ∈ ws') : Keeps ws' σ σ' := ⟨a.1, fun j hj => a.2 j fun z => hj (h j z)⟩
theorem Keeps.set {i : Nat} {σ : L2.St} {v : Option V} : Keeps [i] σ (σ.set i v) := ⟨by simp, fun j h => set_get_ne (by simpa using h)⟩
theorem PstS.mono {ws ws' : List Nat} {D D' : Ends} {U G G1 : Hp} {σ σ1 : L2.St} {r : Rs Fl} (h : PstS T W ws D U σ G r) (s : L2.Same G G1) (k : Keeps ws σ σ1) (hn : ∀ σ' H', D.nx σ' H' → D'.nx σ' H') (hr : ∀ v H', D.rt v H' → D'.rt v H') : PstS T W ws D' U σ1 G1 r := by
  cases r with
  | ok a ρ' =>
    cases a with
    | nx => exact fun σ' G' H' R s' k' => hn _ _ (h σ' G' H' R (s.trans s') (k.trans k'))
    | rt d => exact fun v σ' G' H' R s' k' r => hr _ _ (h v σ' G' H' R (s.trans s') (k.trans k') r)
  | ex c ns vs ρ' => exact fun cls dx σ' G' H' R s' k' x => h cls dx σ' G' H' R (s.trans s') (k.trans k') x
  | bad => exact h
theorem PstS.wide {ws ws' : List Nat} {D : Ends} {U G : Hp} {σ : L2.St} {r : Rs Fl} (h : PstS T W ws' D U σ G r) (hw : ∀ j, j ∈ ws → j ∈ ws') : PstS T W ws D U σ G r := by
  cases r with
  | ok a ρ' =>
    cases a with
    | nx => exact fun σ' G' H' R s' k' => h σ' G' H' R s' (k'.mono hw)
    | rt d => exact fun v σ' G' H' R s' k' r => h v σ' G' H' R s' (k'.mono hw) r
  | ex c ns vs ρ' => exact fun cls dx σ' G' H' R s' k' x => h cls dx σ' G' H' R s' (k'.mono hw) x
  | bad => exact h
/-- an expression first -/
theorem PstS.bndE {α : Type} {ws : List Nat} {D : Ends} {U G : Hp} {σ : L2.St} {r : Rs α} {k : α → En → Rs Fl} (h : PstS T W ws D U σ G (r.bnd k)) :
    Pst T U σ G r (fun a G' H' ρ' => Rel T U G' H' σ ρ' ∧ L2.Same G G' ∧ PstS T W ws D U σ G' (k a ρ')) W := by
  cases r with
  | ok a ρ' => exact fun G' H' R s => ⟨R, s, PstS.mono (r := k a ρ') (ws' := ws) h s (Keeps.refl _ _) (fun _ _ z => z) fun _ _ z => z⟩
  | ex c ns vs ρ' => exact fun cls dx G' H' R s x => h cls dx σ G' H' R s (Keeps.refl _ _) x
  | bad => exact h
/-- a statement first -/
def Rs.sq (r : Rs Fl) (k : SF) : Rs Fl := r.bnd fun fl ρ => match fl with
  | .nx => k ρ
  | .rt d => .ok (.rt d) ρ
@[simp] theorem Rs.sq_nx (ρ : En) (k : SF) : (Rs.ok .nx ρ : Rs Fl).sq k = k ρ := rfl
@[simp] theorem Rs.sq_rt (d : D) (ρ : En) (k : SF) : (Rs.ok (.rt d) ρ : Rs Fl).sq k = .ok (.rt d) ρ := rfl
@[simp] theorem Rs.sq_ex (c : Nat) (ns : List Nat) (vs : List D) (ρ : En) (k : SF) : (Rs.ex c ns vs ρ : Rs Fl).sq k = .ex c ns vs ρ := rfl
@[simp] theorem Rs.sq_bad (k : SF) : (Rs.bad : Rs Fl).sq k = .bad := rfl
theorem PstS.sq {ws : List Nat} {D : Ends} {U G : Hp} {σ : L2.St} {r : Rs Fl} {k : SF} (h : PstS T W ws D U σ G (r.sq k)) {D' : Ends} (hr : ∀ v H', D.rt v H' → D'.rt v H')
    (hn : ∀ σ' G' H' ρ', Rel T U G' H' σ' ρ' → L2.Same G G' → Keeps ws σ σ' → PstS T W ws D U σ' G' (k ρ') → D'.nx σ' H') : PstS T W ws D' U σ G r := by
  cases r with
  | ok a ρ' =>
    cases a with
    | nx => exact fun σ' G' H' R s k' => hn σ' G' H' ρ' R s k' (PstS.mono (r := k ρ') (ws' := ws) h s k' (fun _ _ z => z) fun _ _ z => z)
    | rt d => exact fun v σ' G' H' R s k' r => hr _ _ (h v σ' G' H' R s k' r)
  | ex c ns vs ρ' => exact h
  | bad => exact h

/-! ### blocks -/
def sNil : SF := fun ρ => .ok .nx ρ
def sCons (f g : SF) : SF := fun ρ => (f ρ).sq g
theorem js_nil (k : X.K = T.K) : JSs X T W [] [] sNil := by
  refine ⟨k, pss_imp pss_nil fun D σ H ⟨U, G, ρ, R, q⟩ => ?_⟩
  exact q σ G H R (L2.Same.refl _) (Keeps.refl _ _)
theorem js_cons {st : Stmt} {sts : List Stmt} {ws ws' : List Nat} {f g : SF} (h : JS X T W ws st f) (h' : JSs X T W ws' sts g) : JSs X T W (ws ++ ws') (st :: sts) (sCons f g) := by
  refine ⟨h.k, pss_imp (pss_cons h.run h'.run) fun D σ H ⟨U, G, ρ, R, q⟩ => ?_⟩
  refine ⟨U, G, ρ, R, PstS.wide (ws' := ws ++ ws') ?_ fun j hj => List.mem_append_left _ hj⟩
  refine PstS.sq q (fun _ _ z => z) fun σ' G' H' ρ' R' s' k' p => ?_
  exact ⟨U, G', ρ', R', p.wide fun j hj => List.mem_append_right _ hj⟩
theorem js_one {st : Stmt} {ws : List Nat} {f : SF} (h : JS X T W ws st f) : JSs X T W ws [st] f := ⟨h.k, pss_one h.run⟩
theorem j_pass (k : X.K = T.K) {pos : Pos} : JS X T W [] (.Pass pos) sNil := by
  refine ⟨k, ps_imp ps_pass fun D σ H ⟨U, G, ρ, R, q⟩ => ?_⟩
  exact q σ G H R (L2.Same.refl _) (Keeps.refl _ _)
theorem j_doc (k : X.K = T.K) {x j pos pos'} : JS X T W [] (.Expr (.Constant (.str x) j pos) pos') sNil := by
  refine ⟨k, ps_imp ps_doc fun D σ H ⟨U, G, ρ, R, q⟩ => ?_⟩
  exact q σ G H R (L2.Same.refl _) (Keeps.refl _ _)
def sExpr (f : EF) : SF := fun ρ => (f ρ).bnd fun _ ρ' => .ok .nx ρ'
theorem j_expr {e : Expr} {pos : Pos} {f : EF} (h : JE X T W e f) (hs : swapsWith e none pos.line X.env = pure false := by rfl) : JS X T W [] (.Expr e pos) (sExpr f) := by
  refine ⟨h.k, ps_imp (ps_expr h.run hs) fun D σ H ⟨U, G, ρ, R, q⟩ => ?_⟩
  refine ⟨U, G, ρ, R, (PstS.bndE q).mono (L2.Same.refl _) fun d G' H' ρ' _ ⟨R', s, p⟩ v r => ?_⟩
  exact p σ G' H' R' (L2.Same.refl _) (Keeps.refl _ _)
def sRet (f : EF) : SF := fun ρ => (f ρ).bnd fun d ρ' => .ok (.rt d) ρ'
theorem j_ret {e : Expr} {pos : Pos} {f : EF} (h : JE X T W e f) : JS X T W [] (.Return (some e) pos) (sRet f) := by
  refine ⟨h.k, ps_imp (ps_ret h.run) fun D σ H ⟨U, G, ρ, R, q⟩ => ?_⟩
  refine ⟨U, G, ρ, R, (PstS.bndE q).mono (L2.Same.refl _) fun d G' H' ρ' _ ⟨R', s, p⟩ v r => ?_⟩
  exact p v σ G' H' R' (L2.Same.refl _) (Keeps.refl _ _) r
def sIf (t : TF) (f g : SF) : SF := fun ρ => (t ρ).bnd fun b ρ' => if b = true then f ρ' else g ρ'
theorem j_ifs {c : Expr} {a b : List Stmt} {pos : Pos} {t : TF} {f g : SF} {ws ws' : List Nat} (hc : JT X T W c t) (ha : JSs X T W ws a f) (hb : JSs X T W ws' b g) : JS X T W (ws ++ ws') (.If c a b pos) (sIf t f g) := by
  refine ⟨hc.k, ps_imp (ps_if hc.run ha.run hb.run) fun D σ H ⟨U, G, ρ, R, q⟩ => ?_⟩
  refine ⟨U, G, ρ, R, (PstS.bndE q).mono (L2.Same.refl _) fun d G' H' ρ' _ ⟨R', s, p⟩ => ?_⟩
  cases d with
  | true => exact ⟨U, G', ρ', R', PstS.wide p fun j hj => List.mem_append_left _ hj⟩
  | false => exact ⟨U, G', ρ', R', PstS.wide p fun j hj => List.mem_append_right _ hj⟩

/-! ### stores -/
def sSet (i : Nat) (f : EF) : SF := fun ρ => (f ρ).bnd fun d ρ' => .ok .nx (ρ'.set i (.sh d))
def sSetO (i : Nat) (f : EF) : SF := fun ρ => (f ρ).bnd fun d ρ' => .ok .nx (ρ'.set i (.ow d))
theorem j_set {i : Nat} {x : Str} {e : Expr} {pos pos' : Pos} {f : EF} (hN : X.N.Nodup) (h : JE X T W e f) (hi : X.N[i]? = some x := by rfl) (hx : Loc X.env.scope x := by first | exact Or.inl rfl | exact Or.inr rfl)
    (hs : swapsWith e (some (.Name x pos')) pos.line X.env = pure false := by rfl) (hf : X.fn x = true ∨ X.env.scope.names.lookup x = some .local := by first | exact .inl rfl | exact .inr rfl) : JS X T W [i] (.Assign [.Name x pos'] e pos) (sSet i f) := by
  refine ⟨h.k, ps_imp (ps_set hN hi hx h.run hs hf) fun D σ H ⟨U, G, ρ, R, q⟩ => ?_⟩
  refine ⟨U, G, ρ, R, (PstS.bndE q).mono (L2.Same.refl _) fun d G' H' ρ' _ ⟨R', s, p⟩ v r => ?_⟩
  exact p _ G' H' (R'.setSh r) (L2.Same.refl _) Keeps.set
theorem j_setO {i : Nat} {x : Str} {e : Expr} {pos pos' : Pos} {f : EF} (hN : X.N.Nodup) (h : JO X T W e f) (hi : X.N[i]? = some x := by rfl) (hx : Loc X.env.scope x := by first | exact Or.inl rfl | exact Or.inr rfl)
    (hs : swapsWith e (some (.Name x pos')) pos.line X.env = pure false := by rfl) (hf : X.fn x = true ∨ X.env.scope.names.lookup x = some .local := by first | exact .inl rfl | exact .inr rfl) : JS X T W [i] (.Assign [.Name x pos'] e pos) (sSetO i f) := by
  refine ⟨h.k, ps_imp (ps_set hN hi hx h.run hs hf) fun D σ H ⟨U, G, ρ, R, q⟩ => ?_⟩
  refine ⟨U, G, ρ, R, (PstS.bndE q).mono (L2.Same.refl _) fun d G' H' ρ' _ ⟨R', s, p⟩ a o g u hh r hn => ?_⟩
  exact p _ G' H' (R'.setOw u g hh r hn) (L2.Same.refl _) Keeps.set

/-! ### while -/
def whileS (c : TF) (b : SF) : Nat → SF
  | 0, _ => .bad
  | n + 1, ρ => (c ρ).bnd fun t ρ1 => if t = true then (b ρ1).sq (whileS c b n) else .ok .nx ρ1
theorem j_while (n : Nat) {c : Expr} {body : List Stmt} {pos : Pos} {t : TF} {f : SF} {ws : List Nat} (hp : PassesOwn (model X.prog X.w) X.A X.env X.xe) (hc : JT X T W c t) (hb : JSs X T W ws body f) : JS X T W ws (.While c body [] pos) (whileS t f n) := by
  refine ⟨hc.k, ps_imp (ps_while hp hc.run hb.run) fun D σ H ⟨U, G, ρ, R, q⟩ => ?_⟩
  refine ⟨fun m σ' H' => ∃ G' ρ', Rel T U G' H' σ' ρ' ∧ PstS T W ws D U σ' G' (whileS t f m ρ'), ⟨n, G, ρ, R, q⟩, ?_⟩
  rintro m σ' H' ⟨G', ρ', R', q'⟩
  cases m with
  | zero => exact False.elim q'
  | succ m =>
    refine ⟨U, G', ρ', R', (PstS.bndE q').mono (L2.Same.refl _) fun b G2 H2 ρ2 _ ⟨R2, s2, p2⟩ => ?_⟩
    cases b with
    | true =>
      rw [if_pos rfl]
      refine ⟨fun σ3 H3 => ∃ G3 ρ3, Rel T U G3 H3 σ3 ρ3 ∧ PstS T W ws D U σ3 G3 (whileS t f m ρ3), fun σ3 H3 z => ⟨m, Nat.lt_succ_self _, z⟩, U, G2, ρ2, R2, ?_⟩
      refine PstS.sq p2 (fun _ _ z => z) fun σ3 G3 H3 ρ3 R3 s3 k3 p3 => ⟨G3, ρ3, R3, p3⟩
    | false =>
      rw [if_neg Bool.false_ne_true]
      exact p2 σ' G2 H2 R2 (L2.Same.refl _) (Keeps.refl _ _)

/-! ### targets -/
abbrev BF := D → En → Option En
def tG (T : Tab) (ws : List Nat) (b : BF) : TG := fun v σ H Q => ∃ U G ρ d ρ', Rel T U G H σ ρ ∧ Rep T G v d ∧ b d ρ = some ρ' ∧ ∀ σ', Rel T U G H σ' ρ' → Keeps ws σ σ' → Q σ' H
abbrev BFs := List D → En → Option En
def tGs (T : Tab) (ws : List Nat) (b : BFs) : TGs := fun vs σ H Q => ∃ U G ρ ds ρ', Rel T U G H σ ρ ∧ Reps T G vs ds ∧ b ds ρ = some ρ' ∧ ∀ σ', Rel T U G H σ' ρ' → Keeps ws σ σ' → Q σ' H
structure JG (X : Cx) (T : Tab) (ws : List Nat) (e : Expr) (b : BF) : Prop where
  run : PG X e (tG T ws b)
structure JGs (X : Cx) (T : Tab) (ws : List Nat) (es : List Expr) (b : BFs) : Prop where
  run : PGs X es (tGs T ws b)
theorem pg_imp {X : Cx} {e : Expr} {t t' : TG} (h : PG X e t) (hi : ∀ v σ H Q, t' v σ H Q → t v σ H Q) : PG X e t' := ⟨fun pins s σ H v u Q I r q => h.run pins s σ H v u Q I r (hi _ _ _ _ q)⟩
theorem pgs_imp {X : Cx} {e : List Expr} {t t' : TGs} (h : PGs X e t) (hi : ∀ v σ H Q, t' v σ H Q → t v σ H Q) : PGs X e t' := ⟨fun pins s σ H v u Q I r q => h.run pins s σ H v u Q I r (hi _ _ _ _ q)⟩
def bName (i : Nat) : BF := fun d ρ => some (ρ.set i (.sh d))
theorem jg_name {i : Nat} {x : Str} {pos : Pos} (hN : X.N.Nodup) (hi : X.N[i]? = some x := by rfl) (hx : Loc X.env.scope x := by first | exact Or.inl rfl | exact Or.inr rfl)
    (hf : X.fn x = true ∨ X.env.scope.names.lookup x = some .local := by first | exact .inl rfl | exact .inr rfl) : JG X T [i] (.Name x pos) (bName i) := by
  refine ⟨pg_imp (pg_name hN hi hx hf) fun v σ H Q ⟨U, G, ρ, d, ρ', R, r, e, q⟩ => ?_⟩
  cases e
  exact q _ (R.setSh r) Keeps.set
def bNil : BFs := fun ds ρ => match ds with
  | [] => some ρ
  | _ => none
def bCons (b : BF) (c : BFs) : BFs := fun ds ρ => match ds with
  | d :: r => (b d ρ).bind (c r)
  | [] => none
theorem jgs_nil : JGs X T [] [] bNil := by
  refine ⟨pgs_imp pgs_nil fun v σ H Q ⟨U, G, ρ, ds, ρ', R, r, e, q⟩ => ?_⟩
  cases ds with
  | nil => cases e; exact ⟨r, q σ R (Keeps.refl _ _)⟩
  | cons _ _ => cases e
theorem jgs_cons {e : Expr} {es : List Expr} {ws ws' : List Nat} {b : BF} {c : BFs} (h : JG X T ws e b) (h' : JGs X T ws' es c) (hs : (assignEach (e :: es) X.env).map (·.2) = assign e X.env :: (assignEach es X.env).map (·.2) := by rfl) : JGs X T (ws ++ ws') (e :: es) (bCons b c) := by
  refine ⟨pgs_imp (pgs_cons h.run h'.run hs) fun vs σ H Q ⟨U, G, ρ, ds, ρ', R, r, e, q⟩ => ?_⟩
  cases ds with
  | nil => cases e
  | cons d ds =>
    obtain ⟨x, rest, rfl, r1, r2⟩ := r
    simp only [bCons] at e
    cases e1 : b d ρ with
    | none => rw [e1] at e; cases e
    | some ρ1 =>
      rw [e1] at e
      refine ⟨x, rest, rfl, U, G, ρ, d, ρ1, R, r1, e1, fun σ1 R1 k1 => ?_⟩
      exact ⟨U, G, ρ1, ds, ρ', R1, r2, e, fun σ2 R2 k2 => q σ2 R2 ((k1.mono fun j hj => List.mem_append_left _ hj).trans (k2.mono fun j hj => List.mem_append_right _ hj))⟩
def bTup (n : Nat) (b : BFs) : BF := fun d ρ => match d with
  | .tup ds => if ds.length = n then b ds ρ else none
  | _ => none
theorem jg_tup {es : List Expr} {k : Nat} {pos : Pos} {ws : List Nat} {b : BFs} {n : Nat} (hc : X.calm = true) (hk : X.K = T.K) (h : JGs X T ws es b)
    (hn : (assignEach es X.env).length = n := by rfl) (hst : (assignEach es X.env).findIdx? (·.1) = none := by rfl) : JG X T ws (.Tuple es k pos) (bTup n b) := by
  refine ⟨pg_imp (pg_tup hc h.run hn hst) fun v σ H Q ⟨U, G, ρ, d, ρ', R, r, e, q⟩ => ?_⟩
  cases d <;> simp only [bTup] at e <;> first | (cases e; done) | skip
  rename_i ds
  split at e
  · rename_i hl
    obtain ⟨a, xs, rfl, h1, r⟩ := r
    rw [hk]
    exact ⟨a, xs, rfl, Same.seqT R.same h1, by rw [r.length]; exact hl, U, G, ρ, ds, ρ', R, r, e, q⟩
  · cases e
/-- target = value -/
def sAsg (f : EF) (b : BF) : SF := fun ρ => (f ρ).bnd fun d ρ' => match b d ρ' with
  | some ρ2 => .ok .nx ρ2
  | none => .bad
theorem j_asg {tg e : Expr} {pos : Pos} {f : EF} {b : BF} {ws : List Nat} (h : JE X T W e f) (hg : JG X T ws tg b) (hs : swapsWithSole [tg] e pos.line X.env = pure false := by rfl) (hw : swappedStores [tg] e X.env = pure none := by rfl)
    (h1 : (assignEach [tg] X.env).map (·.2) = [assign tg X.env] := by rfl) : JS X T W ws (.Assign [tg] e pos) (sAsg f b) := by
  refine ⟨h.k, ps_imp (ps_asg h.run hg.run hs hw h1) fun D σ H ⟨U, G, ρ, R, q⟩ => ?_⟩
  refine ⟨U, G, ρ, R, (PstS.bndE q).mono (L2.Same.refl _) fun d G' H' ρ' _ ⟨R', s, p⟩ v r => ?_⟩
  cases e : b d ρ' with
  | none => rw [e] at p; exact p.elim
  | some ρ2 =>
    rw [e] at p
    exact ⟨U, G', ρ', d, ρ2, R', r, e, fun σ' R2 k => p σ' G' H' R2 (L2.Same.refl _) k⟩

/-! ### x += e -/
def sAug (i : Nat) (g : D → D → Option D) (f : EF) : SF := fun ρ => match ρ[i]? with
  | some (.sh a) => (f ρ).bnd fun b ρ' => match g a b with
    | some c => .ok .nx (ρ'.set i (.sh c))
    | none => .bad
  | _ => .bad
theorem j_aug {i : Nat} {x : Str} {e : Expr} {op : Operator} {r : R2} {g : D → D → Option D} {pos pos' : Pos} {f : EF} (hN : X.N.Nodup) (ho : OpR X (inplaceOp op) r) (hg : Op2 T r g) (h : JE X T W e f) (hi : X.N[i]? = some x := by rfl) (hx : Loc X.env.scope x := by first | exact Or.inl rfl | exact Or.inr rfl)
    (hf : X.fn x = true ∨ X.env.scope.names.lookup x = some .local := by first | exact .inl rfl | exact .inr rfl) : JS X T W [i] (.AugAssign (.Name x pos') op e pos) (sAug i g f) := by
  refine ⟨h.k, ps_imp (ps_aug hN hi hx h.run (ti := r) (fun pins s σ H x y v u Q I r1 r2 q => ho pins s σ H x y v u Q I r1 r2 q) hf) fun D σ H ⟨U, G, ρ, R, q⟩ => ?_⟩
  unfold sAug at q
  cases e1 : ρ[i]? with
  | none => rw [e1] at q; exact q.elim
  | some sl =>
    rw [e1] at q
    cases sl with
    | no => exact q.elim
    | ex _ _ _ => exact q.elim
    | ow _ => exact q.elim
    | sh a =>
      obtain ⟨v, ev, rv⟩ := R.sh i a e1
      refine ⟨v, ev, U, G, ρ, R, (PstS.bndE q).mono (L2.Same.refl _) fun b G' H' ρ' _ ⟨R', s, p⟩ u ru => ?_⟩
      cases e2 : g a b with
      | none => rw [e2] at p; exact p.elim
      | some c =>
        rw [e2] at p
        refine hg U G' H' σ ρ' v u a b c _ R' (.inl (rv.mono s)) (.inl ru) e2 fun w G2 H2 R2 s2 rw' => ?_
        exact p _ G2 H2 (R2.setSh rw') s2 Keeps.set
theorem iadd_J : Op2 T (fun x y H Q => (rI0 fun i j => .int (i + j)) x y H Q ∨ (∃ i j, x = .str i ∧ y = .str j ∧ i.length + j.length ≤ sizeLine ∧ Q (.str (i ++ j)) H)) (fun d e => match d, e with
    | .int a, .int b => some (.int (a + b))
    | .str a, .str b => if a.length + b.length ≤ sizeLine then some (.str (a ++ b)) else none
    | _, _ => none) := by
  intro U G H σ ρ x y d e c Q R rx ry hg q
  cases d <;> cases e <;> simp only at hg <;> first | (cases hg; done) | skip
  · cases hg
    exact .inl ⟨_, _, rx.int, ry.int, q _ G H R (L2.Same.refl _) rfl⟩
  · split at hg
    · rename_i hl
      cases hg
      obtain ⟨e1, o1⟩ := rx.str
      obtain ⟨e2, o2⟩ := ry.str
      exact .inr ⟨_, _, e1, e2, hl, q _ G H R (L2.Same.refl _) ⟨rfl, o1.app o2 hl⟩⟩
    · cases hg
end
end J

set_option Elab.async false
set_option linter.all false
set_option maxRecDepth 100000
set_option maxHeartbeats 4000000
namespace J
open PySem PySem.Spec PyProof.Rows L2
/-! ### what is walked -/
/-- J gives the items ds one after another, while C holds of the heap; C holds as long as what stood in G0 stands, and U' has what P asks -/
def Yl (T : Tab) (G0 : Hp) (J : It) (ds : List D) (P : Hp → Prop) : Prop := ds.length ≤ sizeLine ∧ ∃ (C : Hp → Prop) (Y : Nat → Hp → V → Hp → Prop), Walk J ds.length C Y ∧
  (∀ U' G H σ ρ, Rel T U' G H σ ρ → L2.Same G0 G → P U' → C H) ∧
  ∀ i H x H' U' σ ρ G, i < ds.length → Y i H x H' → Rel T U' G H σ ρ → L2.Same G0 G → ∃ G' d, Rel T U' G' H' σ ρ ∧ L2.Same G G' ∧ ds[i]? = some d ∧ Rep T G' x d
structure JI (X : Cx) (T : Tab) (W : WX) (tg iter : Expr) (f : LF) : Prop where
  k : X.K = T.K
  run : PI X tg iter (fun σ H R => ∃ U G ρ, Rel T U G H σ ρ ∧ Pst T U σ G (f ρ) (fun ds G' H' _ => ∀ J, Yl T G' J ds (fun _ => True) → R J H') W)
theorem pi_imp {X : Cx} {tg e : Expr} {t t' : TI} (h : PI X tg e t) (hi : ∀ σ H Q, t' σ H Q → t σ H Q) : PI X tg e t' := ⟨fun pins s σ H Q I q => h.run pins s σ H Q I (hi _ _ _ q)⟩
section
variable {X : Cx} {T : Tab} {W : WX} {tg : Expr}
theorem yl_list {G0 : Hp} {a : Addr} {xs : List V} {ds : List D} (hl : ds.length ≤ sizeLine) (r : Reps T G0 xs ds) (h : SqL T.K G0 a xs) : Yl T G0 (Itl T.K a) ds (fun _ => True) := by
  refine ⟨hl, fun H => SqL T.K H a xs, YAt xs, r.length ▸ walk_list, fun U' G H σ ρ R s _ => (s.trans R.same).seq h, fun i H x H' U' σ ρ G hi y R s => ?_⟩
  obtain ⟨rfl, e⟩ := y
  obtain ⟨d, e2, rd⟩ := r.get e
  exact ⟨G, d, R, L2.Same.refl _, e2, rd.mono s⟩
theorem yl_tup {G0 : Hp} {a : Addr} {xs : List V} {ds : List D} (hl : ds.length ≤ sizeLine) (r : Reps T G0 xs ds) (h : SqT T.K G0 a xs) : Yl T G0 (Itt T.K a) ds (fun _ => True) := by
  refine ⟨hl, fun H => SqT T.K H a xs, YAt xs, r.length ▸ walk_tup, fun U' G H σ ρ R s _ => Same.seqT (s.trans R.same) h, fun i H x H' U' σ ρ G hi y R s => ?_⟩
  obtain ⟨rfl, e⟩ := y
  obtain ⟨d, e2, rd⟩ := r.get e
  exact ⟨G, d, R, L2.Same.refl _, e2, rd.mono s⟩
/-- an owned list, held in U' -/
theorem yl_own {G0 : Hp} {a : Addr} {xs : List V} {ds : List D} (hl : ds.length ≤ sizeLine) (r : Reps T G0 xs ds) : Yl T G0 (Itl T.K a) ds (fun U' => U' a = some (.lst xs)) := by
  refine ⟨hl, fun H => SqL T.K H a xs, YAt xs, r.length ▸ walk_list, fun U' G H σ ρ R s h => .of (R.out _ _ h).1, fun i H x H' U' σ ρ G hi y R s => ?_⟩
  obtain ⟨rfl, e⟩ := y
  obtain ⟨d, e2, rd⟩ := r.get e
  exact ⟨G, d, R, L2.Same.refl _, e2, rd.mono s⟩
def signs (z : Str) : List D := z.cps.toList.map fun c => .str (sign c)
theorem yl_str {G0 : Hp} {z : Str} (h : SOk z) : Yl T G0 (Its z) (signs z) (fun _ => True) := by
  have hl : (signs z).length = z.cps.size := by unfold signs; simp
  refine ⟨by rw [hl]; exact h.1, _, _, hl ▸ walk_str, fun _ _ _ _ _ _ _ _ => True.intro, fun i H x H' U' σ ρ G hi y R s => ?_⟩
  obtain ⟨rfl, c, e, rfl⟩ := y
  refine ⟨G, .str (sign c), R, L2.Same.refl _, ?_, rfl, h.sign ?_⟩
  · unfold signs
    rw [List.getElem?_map, Array.getElem?_toList, e]
    rfl
  · rw [← Array.getElem?_toList] at e
    exact List.mem_of_getElem? e
def rangeL (lo : Int) (n : Nat) : List D := (List.range n).map fun i => .int (lo + (i : Nat))
theorem yl_range {G0 : Hp} {lo : Int} {n : Nat} (h : n ≤ 16777216) : Yl T G0 (Itr lo n) (rangeL lo n) (fun _ => True) := by
  have hl : (rangeL lo n).length = n := by unfold rangeL; simp
  refine ⟨by rw [hl, sizeLine_eq]; exact h, fun _ => True, YFn fun i => V.int (lo + (i : Nat)), by rw [hl]; exact walk_range, fun _ _ _ _ _ _ _ _ => True.intro, fun i H x H' U' σ ρ G hi y R s => ?_⟩
  obtain ⟨rfl, rfl⟩ := y
  rw [hl] at hi
  exact ⟨G, .int (lo + (i : Nat)), R, L2.Same.refl _, by unfold rangeL; simp [hi], rfl⟩

/-- a list, a tuple or a text that is walked -/
def iSeqJ (K : PySem.W.Frag) (tl : TE) : TI := fun σ H R => tl σ H fun x H1 => (∃ a xs, x = .ref a ∧ SqL K H1 a xs ∧ (xs.length ≤ sizeLine → R (Itl K a) H1)) ∨ (∃ a xs, x = .ref a ∧ SqT K H1 a xs ∧ (xs.length ≤ sizeLine → R (Itt K a) H1)) ∨ ∃ z, x = .str z ∧ R (Its z) H1
theorem pi_seqJ {l : Expr} {tl : TE} (hl : PE X l tl) : PI X tg l (iSeqJ X.K tl) := by
  refine ⟨fun pins s σ H R I h => ?_⟩
  refine thn (hl.run pins s σ H _ I h) fun v s1 ⟨x, H1, I1, r1, q1⟩ => ?_
  rcases q1 with ⟨a, xs, e, hq, q⟩ | ⟨a, xs, e, hq, q⟩ | ⟨z, e, q⟩
  · subst e
    cases r1
    obtain ⟨its, rv, p, hz⟩ := I1.list hq
    refine wpAny_pyIter_list p.isList ?_
    refine ⟨s1.heap.objs.size, [s1.heap.objs.size], _, _, H1, rfl, I1.kept (t' := s1.toks) fun b o e => Heap.get?_push_of_some _ e, turn_list a _, ⟨_, Heap.get?_push_size _ rfl, rfl, rfl⟩, fun b hb => ?_, q hz⟩
    have e : b = s1.heap.objs.size := by simpa using hb
    subst e
    exact I1.fpOk (Nat.le_refl _) (I1.hok.fresh (Nat.le_refl _))
  · subst e
    cases r1
    obtain ⟨its, rv, p, hz⟩ := I1.tuple hq
    refine wpAny_pyIter_tuple (show s1.heap.IsTuple a its.toArray from p) ?_
    refine ⟨s1.heap.objs.size, [s1.heap.objs.size], _, _, H1, rfl, I1.kept (t' := s1.toks) fun b o e => Heap.get?_push_of_some _ e, turn_tuple a _, ⟨_, Heap.get?_push_size _ rfl, rfl, rfl⟩, fun b hb => ?_, q hz⟩
    have e : b = s1.heap.objs.size := by simpa using hb
    subst e
    exact I1.fpOk (Nat.le_refl _) (I1.hok.fresh (Nat.le_refl _))
  · subst e
    obtain ⟨t, rfl⟩ := r1
    cases ha : z.cps.all (· < 128)
    · exact wpAny_pyIter_wide ha (pi_one (tk := s1.toks) I1 _ (turn_str _ z t "str_iterator" (.inr rfl)) ⟨_, Heap.get?_push_size _ rfl, rfl, rfl⟩ q)
    · exact wpAny_pyIter_ascii ha (pi_one (tk := s1.toks) I1 _ (turn_str _ z t "str_ascii_iterator" (.inl rfl)) ⟨_, Heap.get?_push_size _ rfl, rfl, rfl⟩ q)
def itemsD : D → Option (List D)
  | .lst ds => some ds
  | .tup ds => some ds
  | .scr ds => some ds
  | .str z => some (signs z)
  | _ => none
def iSeq (f : EF) : LF := fun ρ => (f ρ).bnd fun d ρ' => opt (itemsD d) ρ'
theorem ji_seq {e : Expr} {f : EF} (h : JE X T W e f) : JI X T W tg e (iSeq f) := by
  refine ⟨h.k, pi_imp (pi_seqJ h.run) fun σ H R ⟨U, G, ρ, R0, q⟩ => ?_⟩
  refine ⟨U, G, ρ, R0, (Pst.bnd q).mono (L2.Same.refl _) fun d G1 H1 ρ1 _ ⟨R1, s1, p1⟩ v rv => ?_⟩
  obtain ⟨ds, e1, p⟩ := Pst.opt p1
  have q2 := p G1 H1 R1 (L2.Same.refl _)
  rw [h.k]
  cases d <;> simp only [itemsD] at e1 <;> first | (cases e1; done) | skip
  · cases e1
    obtain ⟨rfl, o⟩ := rv
    exact .inr (.inr ⟨_, rfl, q2 _ (yl_str o)⟩)
  · cases e1
    obtain ⟨a, xs, rfl, hs, r⟩ := rv
    exact .inr (.inl ⟨a, xs, rfl, Same.seqT R1.same hs, fun hl => q2 _ (yl_tup (r.length ▸ hl) r hs)⟩)
  · cases e1
    obtain ⟨a, xs, rfl, hs, r⟩ := rv
    exact .inl ⟨a, xs, rfl, .of (R1.same _ _ hs), fun hl => q2 _ (yl_list (r.length ▸ hl) r (.of hs))⟩
  · cases e1
    obtain ⟨a, xs, rfl, hs, r⟩ := rv
    exact .inl ⟨a, xs, rfl, R1.same.seq hs, fun hl => q2 _ (yl_list (r.length ▸ hl) r hs)⟩
/-- range(n), range(a, b) -/
def rng1 : List D → Option (List D)
  | [.int j] => if -(2 ^ 62) ≤ j ∧ j ≤ 16777216 then some (rangeL 0 j.toNat) else none
  | _ => none
def rng2 : List D → Option (List D)
  | [.int i, .int j] => if (-(2 ^ 62) ≤ i ∧ i < 2 ^ 62 ∧ -(2 ^ 62) ≤ j ∧ j < 2 ^ 62) ∧ j - i ≤ 16777216 then some (rangeL i (j - i).toNat) else none
  | _ => none
def iRng (g : List D → Option (List D)) (f : AF) : LF := fun ρ => (f ρ).bnd fun as ρ' => match looks ρ' as with
  | some ds => opt (g ds) ρ'
  | none => .bad
theorem ji_range1 {a : Expr} {p pos : Pos} {f : AF} (ha : JA X T W [a] f) (hm : X.mg "range" = none) (hg : Gl X "range" := by rfl) (hs : starEach [a] X.env = [(false, eval a X.env)] := by rfl) : JI X T W tg (.Call (.Name "range" p) [a] [] pos) (iRng rng1 f) := by
  refine ⟨ha.k, pi_imp (pi_range1 hg hm ha.run hs) fun σ H R ⟨U, G, ρ, R0, q⟩ => ?_⟩
  refine ⟨U, G, ρ, R0, (Pst.bnd q).mono (L2.Same.refl _) fun as G1 H1 ρ1 _ ⟨R1, s1, p1⟩ vs avs => ?_⟩
  cases e : looks ρ1 as with
  | none => rw [e] at p1; exact p1.elim
  | some ds =>
    rw [e] at p1
    obtain ⟨xs, e1, p⟩ := Pst.opt p1
    have rs := looks_ok R1 avs e
    unfold rng1 at e1
    split at e1
    · rename_i j
      split at e1
      · rename_i hj
        cases e1
        obtain ⟨x, rfl, rx⟩ := rs.one
        exact ⟨j, by rw [rx.int], hj.1, by omega, p G1 H1 R1 (L2.Same.refl _) _ (yl_range (by omega))⟩
      · cases e1
    · cases e1
theorem ji_range2 {a b : Expr} {p pos : Pos} {f : AF} (ha : JA X T W [a, b] f) (hm : X.mg "range" = none) (hg : Gl X "range" := by rfl) (hs : starEach [a, b] X.env = [(false, eval a X.env), (false, eval b X.env)] := by rfl) (hs2 : starEach [b] X.env = [(false, eval b X.env)] := by rfl) : JI X T W tg (.Call (.Name "range" p) [a, b] [] pos) (iRng rng2 f) := by
  refine ⟨ha.k, pi_imp (pi_range2 hg hm ha.run hs hs2) fun σ H R ⟨U, G, ρ, R0, q⟩ => ?_⟩
  refine ⟨U, G, ρ, R0, (Pst.bnd q).mono (L2.Same.refl _) fun as G1 H1 ρ1 _ ⟨R1, s1, p1⟩ vs avs => ?_⟩
  cases e : looks ρ1 as with
  | none => rw [e] at p1; exact p1.elim
  | some ds =>
    rw [e] at p1
    obtain ⟨xs, e1, p⟩ := Pst.opt p1
    have rs := looks_ok R1 avs e
    unfold rng2 at e1
    split at e1
    · rename_i i j
      split at e1
      · rename_i hj
        cases e1
        obtain ⟨x, y, rfl, rx, ry⟩ := rs.two
        exact ⟨i, j, by rw [rx.int, ry.int], hj.1, p G1 H1 R1 (L2.Same.refl _) _ (yl_range (by omega))⟩
      · cases e1
    · cases e1

/-! ### for -/
def forS (b : BF) (body : SF) : List D → SF
  | [], ρ => .ok .nx ρ
  | d :: ds, ρ => match b d ρ with
    | some ρ1 => (body ρ1).sq (forS b body ds)
    | none => .bad
def sFor (f : LF) (b : BF) (body : SF) : SF := fun ρ => (f ρ).bnd fun ds ρ' => forS b body ds ρ'
theorem for_core {ws wb : List Nat} {En0 : Ends} {U G1 H1 : Hp} {σ : L2.St} {ρ1 : En} {J : It} {ds : List D} {P : Hp → Prop} {b : BF} {body : SF} (hP : P U) (y : Yl T G1 J ds P) (R1 : Rel T U G1 H1 σ ρ1) (p : PstS T W (wb ++ ws) En0 U σ G1 (forS b body ds ρ1)) :
    ∃ W' : Nat → Nat → L2.St → Hp → Prop, (∃ m, W' 0 m σ H1) ∧ ∀ i m σ H, W' i m σ H →
      (J.stop i H ∧ En0.nx σ H) ∨ (J.go i H ∧ ∃ N : L2.St → Hp → Prop, (∀ σ' H', N σ' H' → ∃ m', m' < m ∧ W' (i + 1) m' σ' H') ∧ ∀ x H', J.yld i H x H' → tG T wb b x σ H' fun σ2 H2 => tS T W ws body { En0 with nx := N, ct := N, bk := En0.nx } σ2 H2) := by
  obtain ⟨hl, C, Y, wk, hold, yld⟩ := y
  refine for_it wk (fun i σ' H' => ∃ G' ρ', Rel T U G' H' σ' ρ' ∧ L2.Same G1 G' ∧ PstS T W (wb ++ ws) En0 U σ' G' (forS b body (ds.drop i) ρ')) ⟨G1, ρ1, R1, L2.Same.refl _, p⟩ (fun i σ' H' _ ⟨G', ρ', R', s', _⟩ => hold U G' H' σ' ρ' R' s' hP) ?_ ?_
  · rintro i x σ' H' H'' hi ⟨G', ρ', R', s', p'⟩ yy
    obtain ⟨G2, d, R2, s2, e2, rd⟩ := yld i H' x H'' U σ' ρ' G' hi yy R' s'
    have hd : ds.drop i = d :: ds.drop (i + 1) := by
      rw [List.drop_eq_getElem_cons hi]
      rw [List.getElem?_eq_getElem hi] at e2
      rw [Option.some.inj e2]
    rw [hd] at p'
    simp only [forS] at p'
    cases e3 : b d ρ' with
    | none => rw [e3] at p'; exact p'.elim
    | some ρ2 =>
      rw [e3] at p'
      refine ⟨U, G2, ρ', d, ρ2, R2, rd, e3, fun σ2 R3 k3 => ⟨U, G2, ρ2, R3, ?_⟩⟩
      have p2 : PstS T W (wb ++ ws) En0 U σ2 G2 ((body ρ2).sq (forS b body (ds.drop (i + 1)))) := PstS.mono (ws' := ws) p' s2 (k3.mono fun j hj => List.mem_append_left _ hj) (fun _ _ z => z) fun _ _ z => z
      refine PstS.wide (ws' := wb ++ ws) ?_ fun j hj => List.mem_append_right _ hj
      refine PstS.sq p2 (fun _ _ z => z) fun σ4 G4 H4 ρ4 R4 s4 k4 p4 => ⟨G4, ρ4, R4, (s'.trans s2).trans s4, p4⟩
  · rintro σ' H' ⟨G', ρ', R', s', p'⟩
    rw [List.drop_length] at p'
    exact p' σ' G' H' R' (L2.Same.refl _) (Keeps.refl _ _)
theorem j_for {iter : Expr} {body : List Stmt} {pos : Pos} {f : LF} {b : BF} {g : SF} {wb ws : List Nat} (hp : PassesOwn (model X.prog X.w) X.A X.env X.xe) (hc : X.calm = true) (hi : JI X T W tg iter f) (hg : JG X T wb tg b) (hb : JSs X T W ws body g)
    (hs : ∀ x, foldedSetIterable iter X.env x = pure x := by intro _; rfl) : JS X T W (wb ++ ws) (.For tg iter body [] pos) (sFor f b g) := by
  refine ⟨hi.k, ps_imp (ps_for hp hc hi.run hg.run hb.run hs) fun D σ H ⟨U, G, ρ, R, q⟩ => ?_⟩
  refine ⟨U, G, ρ, R, (PstS.bndE q).mono (L2.Same.refl _) fun ds G1 H1 ρ1 _ ⟨R1, s1, p⟩ J y => ?_⟩
  exact for_core True.intro y R1 p

/-! ### comprehensions -/
def wipeE (ρ : En) : List Nat → En
  | [] => ρ
  | v :: vs => (wipeE ρ vs).set v .no
/-- the slots vs of ρ laid over ρ' -/
def rst (ρ ρ' : En) : List Nat → En
  | [] => ρ'
  | v :: vs => match ρ[v]? with
    | some s => (rst ρ ρ' vs).set v s
    | none => rst ρ ρ' vs
def noOw (ρ : En) (vs : List Nat) : Bool := vs.all fun v => match ρ[v]? with
  | some (.ow _) => false
  | _ => true
def Rs.calm {α : Type} (r : Rs α) : Rs α := match r with
  | .ok a ρ => .ok a ρ
  | _ => .bad
@[simp] theorem Rs.calm_ok {α : Type} (a : α) (ρ : En) : (Rs.ok a ρ).calm = .ok a ρ := rfl
def lcS (b : BF) (vs : List Nat) (t : TF) (f : EF) : List D → List D → En → Rs D
  | [], acc, ρ => .ok (.lst acc) ρ
  | d :: ds, acc, ρ => match b d (wipeE ρ vs) with
    | none => .bad
    | some ρ1 => (t ρ1).calm.bnd fun ok ρ2 => if ok = true then (f ρ2).calm.bnd fun y ρ3 => lcS b vs t f ds (acc ++ [y]) (rst ρ ρ3 vs) else lcS b vs t f ds acc (rst ρ ρ2 vs)
def eLc (i : LF) (b : BF) (vs : List Nat) (t : TF) (f : EF) : EF := fun ρ => (i ρ).bnd fun ds ρ' => if noOw ρ' vs = true then lcS b vs t f ds [] ρ' else .bad
theorem wipeE_len (ρ : En) : ∀ vs : List Nat, (wipeE ρ vs).length = ρ.length
  | [] => rfl
  | v :: vs => by simp [wipeE, wipeE_len ρ vs]
theorem wipeE_get {ρ : En} {vs : List Nat} {i : Nat} {s : Sl} (h : (wipeE ρ vs)[i]? = some s) (hs : s ≠ .no) : i ∉ vs ∧ ρ[i]? = some s := by
  induction vs with
  | nil => exact ⟨by simp, h⟩
  | cons v vs ih =>
    rcases get_set h with ⟨_, e⟩ | ⟨hi, h⟩
    · exact absurd e.symm hs
    · obtain ⟨h1, h2⟩ := ih h
      exact ⟨by simp [hi, h1], h2⟩
theorem wipe_get_out {σ : L2.St} {vs : List Nat} {i : Nat} (h : i ∉ vs) : (wipe σ vs)[i]? = σ[i]? := wipe_out h
theorem Rel.wiped {U G H : Hp} {σ : L2.St} {ρ : En} {vs : List Nat} (R : Rel T U G H σ ρ) : Rel T U G H (wipe σ vs) (wipeE ρ vs) := by
  refine ⟨R.same, by rw [wipe_length, wipeE_len, R.len], fun i d h => ?_, fun i d h => ?_, fun i j di dj a h1 h2 h3 h4 => ?_, R.out, fun i c ns vs h => by
    obtain ⟨hi, e⟩ := wipeE_get h (by intro z; cases z)
    exact (R.exn i c ns vs e).at (wipe_get_out hi)⟩
  · obtain ⟨hi, e⟩ := wipeE_get h (by intro z; cases z)
    rw [wipe_get_out hi]
    exact R.sh i d e
  · obtain ⟨hi, e⟩ := wipeE_get h (by intro z; cases z)
    rw [wipe_get_out hi]
    exact R.ow i d e
  · obtain ⟨hi, e1⟩ := wipeE_get h1 (by intro z; cases z)
    obtain ⟨hj, e2⟩ := wipeE_get h2 (by intro z; cases z)
    rw [wipe_get_out hi] at h3
    rw [wipe_get_out hj] at h4
    exact R.dist i j di dj a e1 e2 h3 h4
theorem rst_len (ρ ρ' : En) : ∀ vs : List Nat, (rst ρ ρ' vs).length = ρ'.length
  | [] => rfl
  | v :: vs => by
    simp only [rst]
    split
    · rw [List.length_set, rst_len ρ ρ' vs]
    · exact rst_len ρ ρ' vs
theorem rst_get {ρ ρ' : En} (hl : ρ.length = ρ'.length) {vs : List Nat} {i : Nat} : (rst ρ ρ' vs)[i]? = if i ∈ vs then ρ[i]? else ρ'[i]? := by
  induction vs with
  | nil => simp [rst]
  | cons v vs ih =>
    simp only [rst]
    cases e : ρ[v]? with
    | none =>
      show (rst ρ ρ' vs)[i]? = _
      rw [ih]
      by_cases hiv : i = v
      · subst hiv
        have hn : ρ'[i]? = none := by
          rw [List.getElem?_eq_none_iff] at e ⊢
          omega
        simp [e, hn]
      · simp [hiv]
    | some s =>
      show ((rst ρ ρ' vs).set v s)[i]? = _
      by_cases hiv : i = v
      · subst hiv
        have hlt : i < (rst ρ ρ' vs).length := by
          rw [rst_len, ← hl]
          exact (List.getElem?_eq_some_iff.mp e).1
        rw [set_get_same hlt]
        simp [e]
      · rw [set_get_ne hiv, ih]
        simp [hiv]
/-- behind a turn: the block's names are forgotten -/
theorem Rel.back {U G G' H H' : Hp} {σ σ2 : L2.St} {ρ ρ3 : En} {vs : List Nat} (R0 : Rel T U G H σ ρ) (hno : noOw ρ vs = true) (R : Rel T U G' H' σ2 ρ3) (s : L2.Same G G') (hw : wipe σ2 vs = wipe σ vs) : Rel T U G' H' σ (rst ρ ρ3 vs) := by
  have hl2 : σ2.length = σ.length := by have := congrArg List.length hw; rwa [wipe_length, wipe_length] at this
  have hl : ρ.length = ρ3.length := by rw [← R0.len, ← R.len, hl2]
  have out : ∀ {i : Nat}, i ∉ vs → σ2[i]? = σ[i]? := fun {i} hi => by rw [← wipe_get_out hi, hw, wipe_get_out hi]
  have noow : ∀ {i : Nat} {d : D}, i ∈ vs → ρ[i]? ≠ some (.ow d) := fun {i d} hi e => by
    have := List.all_eq_true.mp hno i hi
    rw [e] at this
    cases this
  refine ⟨R.same, by rw [rst_len, ← R.len, hl2], fun i d h => ?_, fun i d h => ?_, fun i j di dj a h1 h2 h3 h4 => ?_, R.out, fun i c ns us h => by
    rw [rst_get hl] at h
    by_cases hi : i ∈ vs
    · rw [if_pos hi] at h
      exact (R0.exn i c ns us h).mono s
    · rw [if_neg hi] at h
      exact (R.exn i c ns us h).at (out hi).symm⟩
  · rw [rst_get hl] at h
    by_cases hi : i ∈ vs
    · rw [if_pos hi] at h
      obtain ⟨v, e, r⟩ := R0.sh i d h
      exact ⟨v, e, r.mono s⟩
    · rw [if_neg hi] at h
      rw [← out hi]
      exact R.sh i d h
  · rw [rst_get hl] at h
    by_cases hi : i ∈ vs
    · rw [if_pos hi] at h
      exact absurd h (noow hi)
    · rw [if_neg hi] at h
      rw [← out hi]
      exact R.ow i d h
  · rw [rst_get hl] at h1 h2
    by_cases hi : i ∈ vs
    · rw [if_pos hi] at h1
      exact absurd h1 (noow hi)
    · by_cases hj : j ∈ vs
      · rw [if_pos hj] at h2
        exact absurd h2 (noow hj)
      · rw [if_neg hi] at h1
        rw [if_neg hj] at h2
        rw [← out hi] at h3
        rw [← out hj] at h4
        exact R.dist i j di dj a h1 h2 h3 h4
theorem noOw_rst {ρ ρ' : En} (hl : ρ.length = ρ'.length) {vs : List Nat} (h : noOw ρ vs = true) : noOw (rst ρ ρ' vs) vs = true := by
  unfold noOw at h ⊢
  rw [List.all_eq_true] at h ⊢
  intro v hv
  rw [rst_get hl, if_pos hv]
  exact h v hv
theorem wipe_keeps {σ σ' : L2.St} {ws vs : List Nat} (k : Keeps ws (wipe σ vs) σ') (hl : σ'.length = σ.length) (h : ∀ j, j ∈ ws → j ∈ vs) : wipe σ' vs = wipe σ vs := by
  apply List.ext_getElem?
  intro i
  by_cases hi : i ∈ vs
  · have key : ∀ {τ : L2.St}, τ.length = σ.length → (wipe τ vs)[i]? = if i < σ.length then some none else none := fun {τ} ht => by
      by_cases hlt : i < σ.length
      · rw [if_pos hlt]
        have hlt' : i < (wipe τ vs).length := by rw [wipe_length, ht]; exact hlt
        rw [List.getElem?_eq_getElem hlt']
        congr 1
        cases e : (wipe τ vs)[i] with
        | none => rfl
        | some x =>
          have e' : (wipe τ vs)[i]? = some (some x) := by rw [List.getElem?_eq_getElem hlt', e]
          exact absurd hi (wipe_some e').2
      · rw [if_neg hlt, List.getElem?_eq_none_iff.mpr]
        rw [wipe_length, ht]; omega
    rw [key hl, key rfl]
  · rw [wipe_get_out hi, k.2 i fun z => hi (h i z), wipe_get_out hi]
abbrev WF : WX := fun _ _ _ _ => False
theorem lc_coreJ {U G1 H1 : Hp} {σ : L2.St} {ρ1 : En} {J : It} {ds : List D} {P : Hp → Prop} {b : BF} {vs wb : List Nat} {t : TF} {f : EF} {Q : VK} (hP : ∀ U', P U → (∀ a o, U a = some o → U' a = some o) → P U') (hPU : P U) (y : Yl T G1 J ds P) (R1 : Rel T U G1 H1 σ ρ1) (hno : noOw ρ1 vs = true) (hwb : ∀ j, j ∈ wb → j ∈ vs)
    (p : Pst T U σ G1 (lcS b vs t f ds [] ρ1) (fun d G' H' ρ' => ∀ p o, G' p = none → U p = none → H' p = some o → RepO T G' o d → (∀ (i : Nat) (d : D), ρ'[i]? = some (.ow d) → σ[i]? ≠ some (some (.ref p))) → Q (.ref p) H') WF) :
    ∀ D, H1 D = none → ∃ W : Nat → Nat → Hp → Prop, (∃ m, W 0 m (upd H1 D (.lst []))) ∧ ∀ i m H, W i m H →
      (J.stop i H ∧ Q (.ref D) H) ∨ (J.go i H ∧ ∃ Nx : Hp → Prop, (∀ H', Nx H' → ∃ m', m' < m ∧ W (i + 1) m' H') ∧ ∀ x H', J.yld i H x H' → tG T wb b x (wipe σ vs) H' fun σ2 H2 => wipe σ2 vs = wipe σ vs ∧ tT T WF t σ2 H2 fun c H3 =>
        if c = true then tE T WF f σ2 H3 fun y H4 => ∃ acc, H4 D = some (.lst acc) ∧ acc.length < sizeLine ∧ Nx (upd H4 D (.lst (acc ++ [y]))) else Nx H3) := by
  intro Dp hD
  obtain ⟨hl, C, Y, wk, hold, yld⟩ := y
  have UD := R1.ufree hD
  have PU : ∀ o, P (upd U Dp o) := fun o => hP _ hPU fun a q e => by
    have ne : a ≠ Dp := fun z => by subst z; rw [UD] at e; cases e
    rw [upd_ne ne]; exact e
  refine lc_it wk (fun i H' => ∃ (acc : List D) (vacc : List V) (G' : Hp) (ρ' : En), acc.length ≤ i ∧ Reps T G' vacc acc ∧ Rel T (upd U Dp (.lst vacc)) G' H' σ ρ' ∧ L2.Same G1 G' ∧ noOw ρ' vs = true ∧
    Pst T U σ G' (lcS b vs t f (ds.drop i) acc ρ') (fun d G' H' ρ' => ∀ p o, G' p = none → U p = none → H' p = some o → RepO T G' o d → (∀ (i : Nat) (d : D), ρ'[i]? = some (.ow d) → σ[i]? ≠ some (some (.ref p))) → Q (.ref p) H') WF)
    ⟨[], [], G1, ρ1, Nat.le_refl _, rfl, R1.hold hD, L2.Same.refl _, hno, p⟩ (fun i H' _ ⟨acc, vacc, G', ρ', _, _, R', s', _⟩ => hold _ G' H' σ ρ' R' s' (PU _)) ?_ ?_
  · rintro i x H' H'' hi ⟨acc, vacc, G', ρ', hacc, ra, R', s', hno', p'⟩ yy
    obtain ⟨G2, d, R2, s2, e2, rd⟩ := yld i H' x H'' _ σ ρ' G' hi yy R' s'
    have hd : ds.drop i = d :: ds.drop (i + 1) := by
      rw [List.drop_eq_getElem_cons hi]
      rw [List.getElem?_eq_getElem hi] at e2
      rw [Option.some.inj e2]
    rw [hd] at p'
    simp only [lcS] at p'
    cases e3 : b d (wipeE ρ' vs) with
    | none => rw [e3] at p'; exact p'.elim
    | some ρ2 =>
      rw [e3] at p'
      dsimp only at p'
      refine ⟨_, G2, wipeE ρ' vs, d, ρ2, R2.wiped, rd, e3, fun σ2 R3 k3 => ?_⟩
      have hlen2 : σ2.length = σ.length := by rw [k3.1, wipe_length]
      have hw := wipe_keeps k3 hlen2 hwb
      cases e4 : t ρ2 with
      | ex c ns vs2 ρ3 => rw [e4] at p'; exact p'.elim
      | bad => rw [e4] at p'; exact p'.elim
      | ok c ρ3 =>
      rw [e4] at p'
      refine ⟨hw, _, G2, ρ2, R3, ?_⟩
      rw [e4]
      intro G3 H3 R4 s4
      have hl3 : ρ'.length = ρ3.length := by rw [← R'.len, ← R4.len, hlen2]
      have p3 : Pst T U σ G3 (if c = true then (f ρ3).calm.bnd fun y ρ3 => lcS b vs t f (ds.drop (i + 1)) (acc ++ [y]) (rst ρ' ρ3 vs) else lcS b vs t f (ds.drop (i + 1)) acc (rst ρ' ρ3 vs)) (fun d G' H' ρ' => ∀ p o, G' p = none → U p = none → H' p = some o → RepO T G' o d → (∀ (i : Nat) (d : D), ρ'[i]? = some (.ow d) → σ[i]? ≠ some (some (.ref p))) → Q (.ref p) H') WF := Pst.mono (G1 := G3) p' (s2.trans s4) fun _ _ _ _ _ z => z
      cases c with
      | false =>
        rw [if_neg Bool.false_ne_true] at p3
        show (if false = true then _ else _)
        rw [if_neg Bool.false_ne_true]
        exact ⟨acc, vacc, G3, _, Nat.le_succ_of_le hacc, ra.mono (s2.trans s4), Rel.back R' hno' R4 (s2.trans s4) hw, (s'.trans s2).trans s4, noOw_rst hl3 hno', p3⟩
      | true =>
        rw [if_pos rfl] at p3
        show (if true = true then _ else _)
        rw [if_pos rfl]
        refine ⟨_, G3, ρ3, R4, ?_⟩
        cases e5 : f ρ3 with
        | ex c ns vs2 ρ3 => rw [e5] at p3; exact p3.elim
        | bad => rw [e5] at p3; exact p3.elim
        | ok y ρ4 =>
        rw [e5] at p3
        intro G4 H4 R5 s5 v rv
        have hl4 : ρ'.length = ρ4.length := by rw [← R'.len, ← R5.len, hlen2]
        have hO := R5.out Dp _ upd_same
        have R6 := (Rel.back R' hno' R5 ((s2.trans s4).trans s5) hw).held (o' := .lst (vacc ++ [v])) upd_same
        rw [upd_upd] at R6
        refine ⟨vacc, hO.1, ?_, acc ++ [y], vacc ++ [v], G4, rst ρ' ρ4 vs, ?_, (ra.mono ((s2.trans s4).trans s5)).app (.one rv), R6, ((s'.trans s2).trans s4).trans s5, noOw_rst hl4 hno', Pst.mono (G1 := G4) p3 s5 fun _ _ _ _ _ z => z⟩
        · rw [ra.length]; omega
        · rw [List.length_append, List.length_singleton]; omega
  · rintro H' ⟨acc, vacc, G', ρ', hacc, ra, R', s', hno', p'⟩
    rw [List.drop_length] at p'
    have hH := (R'.out Dp _ upd_same)
    have eU : unheld (upd U Dp (.lst vacc)) Dp = U := by
      funext a
      by_cases ha : a = Dp
      · subst ha; rw [unheld_same, UD]
      · rw [unheld_ne ha, upd_ne ha]
    have R2 : Rel T U G' H' σ ρ' := eU ▸ R'.unhold (p := Dp)
    exact p' G' H' R2 (L2.Same.refl _) Dp _ hH.2 UD hH.1 ⟨vacc, rfl, ra⟩ fun j e h1 h2 => by
      obtain ⟨a, o, e1, _, u, _⟩ := R'.ow j e h1
      rw [h2] at e1
      cases e1
      rw [upd_same] at u
      cases u
theorem lcS_nox {b : BF} {vs : List Nat} {t : TF} {f : EF} : ∀ (ds acc : List D) (ρ : En) c ns vs2 ρ', lcS b vs t f ds acc ρ ≠ .ex c ns vs2 ρ' := by
  intro ds
  induction ds with
  | nil => intro acc ρ c ns vs2 ρ' h; cases h
  | cons d ds ih =>
    intro acc ρ c ns vs2 ρ' h
    simp only [lcS] at h
    cases e : b d (wipeE ρ vs) with
    | none => rw [e] at h; cases h
    | some ρ1 =>
      rw [e] at h
      dsimp only at h
      cases e2 : t ρ1 with
      | ex _ _ _ _ => rw [e2] at h; cases h
      | bad => rw [e2] at h; cases h
      | ok c2 ρ2 =>
        rw [e2] at h
        simp only [Rs.calm_ok, Rs.bnd_ok] at h
        cases c2 with
        | false => exact ih _ _ _ _ _ _ h
        | true =>
          rw [if_pos rfl] at h
          cases e3 : f ρ2 with
          | ex _ _ _ _ => rw [e3] at h; cases h
          | bad => rw [e3] at h; cases h
          | ok y ρ3 =>
            rw [e3] at h
            exact ih _ _ _ _ _ _ h
/-- [elt for tg in iter if t] -/
theorem j_lcO {elt iter : Expr} {ifs : List Expr} {scope : Scope} {own : List (Str × Nat)} {pos : Pos} {i : LF} {b : BF} {wb : List Nat} {t : TF} {f : EF} (hc : X.calm = true) (hN : X.N.Nodup) (hi : JI X T W tg iter i) (ok : BlkOk X.N X.env.scope scope own) (hwb : ∀ j, j ∈ wb → j ∈ own.map (·.2))
    (hg : ∀ (s : Shared) (H : Hp) (C : Addr) (cl : List (Str × Addr)) (fp : List Addr), JG (X.blk s H scope (compEnvC scope cl C X.env) fp) T wb tg b)
    (ht : ∀ (s : Shared) (H : Hp) (C : Addr) (cl : List (Str × Addr)) (fp : List Addr), PTs (X.blk s H scope (compEnvC scope cl C X.env) fp) ifs (tT T WF t))
    (he : ∀ (s : Shared) (H : Hp) (C : Addr) (cl : List (Str × Addr)) (fp : List Addr), JE (X.blk s H scope (compEnvC scope cl C X.env) fp) T WF elt f) (hs : ∀ x, foldedSetIterable iter X.env x = pure x := by intro _; rfl) :
    JO X T W (.ListComp elt [⟨tg, iter, ifs, 0⟩] scope pos) (eLc i b (own.map (·.2)) t f) := by
  refine ⟨hi.k, pe_imp (pe_lc hc hN hi.run ok (fun s H C cl fp => (hg s H C cl fp).run) ht (fun s H C cl fp => (he s H C cl fp).run) hs) fun σ H Q ⟨U, G, ρ, R, q⟩ => ?_⟩
  exact lc_red hwb R q
where
  lc_red {own : List (Str × Nat)} {i : LF} {b : BF} {wb : List Nat} {t : TF} {f : EF} {U G H : Hp} {σ : L2.St} {ρ : En} {Q : VK} (hwb : ∀ j, j ∈ wb → j ∈ own.map (·.2)) (R : Rel T U G H σ ρ)
    (q : Pst T U σ G (eLc i b (own.map (·.2)) t f ρ) (fun d G' H' ρ' => ∀ p o, G' p = none → U p = none → H' p = some o → RepO T G' o d → (∀ (i : Nat) (d : D), ρ'[i]? = some (.ow d) → σ[i]? ≠ some (some (.ref p))) → Q (.ref p) H') W) :
      tLc (fun σ H R => ∃ U G ρ, Rel T U G H σ ρ ∧ Pst T U σ G (i ρ) (fun ds G' H' _ => ∀ J, Yl T G' J ds (fun _ => True) → R J H') W) (tG T wb b) (tT T WF t) (tE T WF f) (own.map (·.2)) σ H Q := by
    refine ⟨U, G, ρ, R, (Pst.bnd q).mono (L2.Same.refl _) fun ds G1 H1 ρ1 _ ⟨R1, s1, p⟩ J y => ?_⟩
    cases e : noOw ρ1 (own.map (·.2)) with
    | false => rw [e] at p; exact p.elim
    | true =>
      rw [e, if_pos rfl] at p
      exact lc_coreJ (P := fun _ => True) (fun _ _ _ => True.intro) True.intro y R1 e hwb (lc_nox p)
  lc_nox {U G : Hp} {σ : L2.St} {ρ : En} {b : BF} {vs : List Nat} {t : TF} {f : EF} {ds acc : List D} {Q : D → Hp → Hp → En → Prop} (p : Pst T U σ G (lcS b vs t f ds acc ρ) Q W) : Pst T U σ G (lcS b vs t f ds acc ρ) Q WF := by
    cases e : lcS b vs t f ds acc ρ with
    | ok a ρ' => rw [e] at p; exact p
    | ex c ns vs2 ρ' => exact absurd e (lcS_nox _ _ _ _ _ _ _)
    | bad => rw [e] at p; exact p
/-- no test -/
def tYesJ : TF := fun ρ => .ok true ρ
theorem jts_nil : PTs X [] (tT T WF tYesJ) := by
  refine ⟨fun pins s σ H Q I ⟨U, G, ρ, R, q⟩ => pts_nil.run pins s σ H Q I (q G H R (L2.Same.refl _))⟩
theorem jts_one {c : Expr} {t : TF} (h : JT X T WF c t) : PTs X [c] (tT T WF t) := pts_one h.run
/-- y = [..], on one line -/
theorem j_setLc {i : Nat} {y : Str} {py : Pos} {elt iter : Expr} {ifs : List Expr} {scope : Scope} {own : List (Str × Nat)} {pos spos : Pos} {it : LF} {b : BF} {wb : List Nat} {t : TF} {f : EF} (hc : X.calm = true) (hN : X.N.Nodup) (hi : JI X T W tg iter it) (ok : BlkOk X.N X.env.scope scope own) (hwb : ∀ j, j ∈ wb → j ∈ own.map (·.2))
    (hg : ∀ (s : Shared) (H : Hp) (C : Addr) (cl : List (Str × Addr)) (fp : List Addr), JG (X.blk s H scope (compEnvC scope cl C X.env) fp) T wb tg b)
    (ht : ∀ (s : Shared) (H : Hp) (C : Addr) (cl : List (Str × Addr)) (fp : List Addr), PTs (X.blk s H scope (compEnvC scope cl C X.env) fp) ifs (tT T WF t))
    (he : ∀ (s : Shared) (H : Hp) (C : Addr) (cl : List (Str × Addr)) (fp : List Addr), JE (X.blk s H scope (compEnvC scope cl C X.env) fp) T WF elt f)
    (hsw : swapsWith (.ListComp elt [⟨tg, iter, ifs, 0⟩] scope pos) (some (.Name y py)) spos.line X.env = pure true)
    (hy : X.N[i]? = some y := by rfl) (hyl : X.env.scope.names.lookup y = some .local := by rfl) (hs : ∀ x, foldedSetIterable iter X.env x = pure x := by intro _; rfl) :
    JS X T W [i] (.Assign [.Name y py] (.ListComp elt [⟨tg, iter, ifs, 0⟩] scope pos) spos) (sSetO i (eLc it b (own.map (·.2)) t f)) := by
  refine ⟨hi.k, ps_imp (ps_setLc hc hN hy hyl hsw hi.run ok (fun s H C cl fp => (hg s H C cl fp).run) ht (fun s H C cl fp => (he s H C cl fp).run) hs) fun D σ H ⟨U, G, ρ, R, q⟩ => ?_⟩
  refine j_lcO.lc_red (Q := fun x H1 => gName i x σ H1 D.nx) hwb R ?_
  exact (PstS.bndE q).mono (L2.Same.refl _) fun d G' H' ρ' _ ⟨R', s, p⟩ a o g u hh r hn => p _ G' H' (R'.setOw u g hh r hn) (L2.Same.refl _) Keeps.set
end
end J

set_option Elab.async false
set_option linter.all false
set_option maxRecDepth 100000
set_option maxHeartbeats 4000000
namespace J
open PySem PySem.Spec PyProof.Rows L2

/-! ### defs as functions -/
inductive Rv where
  | ok (d : D) | ex (c : Nat) (ns : List Nat) (vs : List D) | bad
def Rv.at (r : Rv) (ρ : En) : Rs D := match r with
  | .ok d => .ok d ρ
  | .ex c ns vs => .ex c ns vs ρ
  | .bad => .bad
@[simp] theorem Rv.at_ok (d : D) (ρ : En) : (Rv.ok d).at ρ = .ok d ρ := rfl
@[simp] theorem Rv.at_ex (c : Nat) (ns : List Nat) (vs : List D) (ρ : En) : (Rv.ex c ns vs).at ρ = .ex c ns vs ρ := rfl
@[simp] theorem Rv.at_bad (ρ : En) : Rv.bad.at ρ = .bad := rfl
abbrev FV := List D → Rv
def PstV (T : Tab) (U G : Hp) (r : Rv) (Q : VK) (E : XK) : Prop := match r with
  | .ok d => ∀ G' H', Rel T U G' H' [] [] → L2.Same G G' → ∀ v, Rep T G' v d → Q v H'
  | .ex c ns vs => ∀ cls dx G' H', Rel T U G' H' [] [] → L2.Same G G' → XRep T G' c ns vs cls dx → E cls dx H'
  | .bad => False
/-- a def of n values -/
def spV (T : Tab) (n : Nat) (F : FV) : Sp := fun vs H Q E => vs.length = n ∧ ∃ U G ds, Rel T U G H [] [] ∧ Reps T G vs ds ∧ PstV T U G (F ds) Q E
/-- a def of an owned object, lent, and n values; it raises nothing -/
abbrev FL := D → List D → Option (D × D)
def spL (T : Tab) (n : Nat) (F : FL) : Sp := fun vs H Q E => vs.length = n + 1 ∧ ∃ U G d0 ds p vs', vs = .ref p :: vs' ∧ Rel T U G H [some (.ref p)] [.ow d0] ∧ Reps T G vs' ds ∧
  match F d0 ds with
  | some (d, d1) => ∀ G' H', Rel T U G' H' [some (.ref p)] [.ow d1] → L2.Same G G' → ∀ v, Rep T G' v d → Q v H'
  | none => False
def fnV (m : Nat) (body : SF) : FV := fun ds => match body (ds.map .sh ++ List.replicate m .no) with
  | .ok .nx _ => .ok .non
  | .ok (.rt d) _ => .ok d
  | .ex c ns vs _ => .ex c ns vs
  | .bad => .bad
def ow0 (ρ : En) (d : D) : Option (D × D) := match (ρ[0]? : Option Sl) with
  | some (Sl.ow d1) => some (d, d1)
  | _ => none
def fnL (m : Nat) (body : SF) : FL := fun d0 ds => match body (.ow d0 :: (ds.map .sh ++ List.replicate m .no)) with
  | .ok .nx ρ => ow0 ρ .non
  | .ok (.rt d) ρ => ow0 ρ d
  | .ex _ _ _ _ => none
  | .bad => none

section
variable {T : Tab} {U G H : Hp}
theorem Rel.nil {σ : L2.St} {ρ : En} (R : Rel T U G H σ ρ) : Rel T U G H [] [] :=
  ⟨R.same, rfl, fun i d h => by simp at h, fun i d h => by simp at h, fun i j d d' a h => by simp at h, R.out, fun i c ns vs h => by simp at h⟩
theorem Rel.entry {vs : List V} {ds : List D} (R : Rel T U G H [] []) (r : Reps T G vs ds) (m : Nat) : Rel T U G H (vs.map some ++ List.replicate m none) (ds.map .sh ++ List.replicate m .no) := by
  have hl := r.length
  have key : ∀ (i : Nat) (s : Sl), (ds.map Sl.sh ++ List.replicate m .no)[i]? = some s → s ≠ .no → ∃ d, ds[i]? = some d ∧ s = .sh d := fun i s h hs => by
    by_cases hi : i < ds.length
    · rw [List.getElem?_append_left (by simpa using hi), List.getElem?_map] at h
      rw [List.getElem?_eq_getElem hi] at h ⊢
      exact ⟨_, rfl, by cases h; rfl⟩
    · rw [List.getElem?_append_right (by simpa using hi), List.getElem?_replicate] at h
      split at h
      · cases h; exact absurd rfl hs
      · cases h
  refine ⟨R.same, by simp [hl], fun i d h => ?_, fun i d h => ?_, fun i j d d' a h => ?_, R.out, fun i c ns vs h => by
    obtain ⟨d', e, e2⟩ := key i _ h (by intro z; cases z)
    cases e2⟩
  · obtain ⟨d', e, e2⟩ := key i _ h (by intro z; cases z)
    cases e2
    obtain ⟨x, e3, r3⟩ := r.getD e
    refine ⟨x, ?_, r3⟩
    have hi := (List.getElem?_eq_some_iff.mp e3).1
    rw [List.getElem?_append_left (by simpa using hi), List.getElem?_map, e3]
    rfl
  · obtain ⟨d', e, e2⟩ := key i _ h (by intro z; cases z)
    cases e2
  · obtain ⟨d', e, e2⟩ := key i _ h (by intro z; cases z)
    cases e2
theorem Rel.entryL {p : Addr} {d0 : D} {vs : List V} {ds : List D} (R : Rel T U G H [some (.ref p)] [.ow d0]) (r : Reps T G vs ds) (m : Nat) :
    Rel T U G H (some (.ref p) :: (vs.map some ++ List.replicate m none)) (.ow d0 :: (ds.map .sh ++ List.replicate m .no)) := by
  have E := Rel.entry R.nil r m
  refine ⟨R.same, by simpa using E.len, fun i d h => ?_, fun i d h => ?_, fun i j d d' a h1 h2 h3 h4 => ?_, R.out, fun i c ns vs h => by
    cases i with
    | zero => cases h
    | succ i => exact E.exn i c ns vs h⟩
  · cases i with
    | zero => cases h
    | succ i => exact E.sh i d h
  · cases i with
    | zero => exact R.ow 0 d h
    | succ i => exact E.ow i d h
  · cases i with
    | zero =>
      cases j with
      | zero => rfl
      | succ j => exact absurd h2 (noOw' j d')
    | succ i => exact absurd h1 (noOw' i d)
where
  noOw' {ds : List D} {m : Nat} (i : Nat) (d : D) : (ds.map Sl.sh ++ List.replicate m .no)[i]? ≠ some (.ow d) := fun h => by
    rcases List.mem_append.mp (List.mem_of_getElem? h) with h | h
    · obtain ⟨_, _, z⟩ := List.mem_map.mp h
      cases z
    · cases (List.eq_of_mem_replicate h)
theorem Rel.exitL {p : Addr} {σ' : L2.St} {ρ' : En} {d1 : D} (R : Rel T U G H σ' ρ') (hσ : σ'[0]? = some (some (.ref p))) (hρ : ρ'[0]? = some (.ow d1)) : Rel T U G H [some (.ref p)] [.ow d1] := by
  refine ⟨R.same, rfl, fun i d h => ?_, fun i d h => ?_, fun i j d d' a h1 h2 h3 h4 => ?_, R.out, fun i c ns vs h => by
    cases i with
    | zero => cases h
    | succ i => simp at h⟩
  · cases i with
    | zero => cases h
    | succ i => simp at h
  · cases i with
    | zero =>
      cases h
      obtain ⟨a, o, e, r⟩ := R.ow 0 _ hρ
      rw [hσ] at e
      exact ⟨a, o, e, r⟩
    | succ i => simp at h
  · cases i with
    | zero =>
      cases j with
      | zero => rfl
      | succ j => simp at h2
    | succ i => simp at h1
/-- what a callee must leave alone -/
def lift (H G : Hp) : Hp := fun a => match G a with
  | some _ => none
  | none => H a
theorem lift_ok {H G : Hp} {a : Addr} {o : HO} : lift H G a = some o ↔ H a = some o ∧ G a = none := by
  unfold lift
  cases e : G a with
  | some _ => simp
  | none => simp
theorem Rel.lift {σ : L2.St} {ρ : En} (R : Rel T U G H σ ρ) : Rel T (lift H G) G H [] [] :=
  ⟨R.same, rfl, fun i d h => by simp at h, fun i d h => by simp at h, fun i j d d' a h => by simp at h, fun a o h => lift_ok.mp h, fun i c ns vs h => by simp at h⟩
theorem Rel.over {σ : L2.St} {ρ : En} {G' H' : Hp} (R : Rel T U G H σ ρ) (R2 : Rel T (J.lift H G) G' H' [] []) (s : L2.Same G G') : Rel T U G' H' σ ρ := by
  refine ⟨R2.same, R.len, fun i d h => ?_, fun i d h => ?_, R.dist, fun a o h => ?_, fun i c ns vs h => (R.exn i c ns vs h).mono s⟩
  · obtain ⟨v, e, r⟩ := R.sh i d h
    exact ⟨v, e, r.mono s⟩
  · obtain ⟨a, o, e, g, u, hh, r⟩ := R.ow i d h
    obtain ⟨h1, h2⟩ := R2.out a o (lift_ok.mpr ⟨hh, g⟩)
    exact ⟨a, o, e, h2, u, h1, r.mono s⟩
  · obtain ⟨h1, h2⟩ := R.out a o h
    exact R2.out a o (lift_ok.mpr ⟨h1, h2⟩)
theorem Rel.lend {σ : L2.St} {ρ : En} {i : Nat} {d : D} (R : Rel T U G H σ ρ) (h : ρ[i]? = some (.ow d)) :
    ∃ p, σ[i]? = some (some (.ref p)) ∧ Rel T (unheld (J.lift H G) p) G H [some (.ref p)] [.ow d] := by
  obtain ⟨p, o, e, g, u, hh, r⟩ := R.ow i d h
  refine ⟨p, e, R.same, rfl, fun j d' h' => ?_, fun j d' h' => ?_, fun j k d1 d2 a h1 h2 _ _ => ?_, fun a q h' => ?_, fun j c ns vs h' => by
    cases j with
    | zero => cases h'
    | succ j => simp at h'⟩
  · cases j with
    | zero => cases h'
    | succ j => simp at h'
  · cases j with
    | zero =>
      cases h'
      exact ⟨p, o, rfl, g, unheld_same, hh, r⟩
    | succ j => simp at h'
  · cases j with
    | zero =>
      cases k with
      | zero => rfl
      | succ j => simp at h2
    | succ j => simp at h1
  · by_cases ha : a = p
    · rw [ha, unheld_same] at h'; cases h'
    · rw [unheld_ne ha] at h'
      exact lift_ok.mp h'
theorem Rel.overL {σ : L2.St} {ρ : En} {G' H' : Hp} {i : Nat} {d d1 : D} {p : Addr} (R : Rel T U G H σ ρ) (h : ρ[i]? = some (.ow d)) (hp : σ[i]? = some (some (.ref p))) (R2 : Rel T (unheld (J.lift H G) p) G' H' [some (.ref p)] [.ow d1]) (s : L2.Same G G') :
    Rel T U G' H' σ (ρ.set i (.ow d1)) := by
  obtain ⟨p', o', e, g, u, hh, r⟩ := R.ow i d h
  rw [hp] at e
  cases e
  refine ⟨R2.same, by simp [R.len], fun j e h' => ?_, fun j e h' => ?_, fun j k dj dk a h1 h2 h3 h4 => ?_, fun a o h' => ?_, fun j c ns vs h' => by
    rcases get_set h' with ⟨_, z⟩ | ⟨_, h'⟩
    · cases z
    · exact (R.exn j c ns vs h').mono s⟩
  · rcases get_set h' with ⟨_, z⟩ | ⟨hj, h'⟩
    · cases z
    · obtain ⟨v, e1, r1⟩ := R.sh j e h'
      exact ⟨v, e1, r1.mono s⟩
  · rcases get_set h' with ⟨rfl, z⟩ | ⟨hj, h'⟩
    · cases z
      obtain ⟨a, o, e1, g1, _, h1, r1⟩ := R2.ow 0 _ rfl
      cases e1
      exact ⟨_, o, hp, g1, u, h1, r1⟩
    · obtain ⟨a, o, e1, g1, u1, h1, r1⟩ := R.ow j e h'
      have ne : a ≠ p := fun z => by subst z; exact hj (R.dist j i e d a h' h e1 hp)
      obtain ⟨h3, h4⟩ := R2.out a o (by rw [unheld_ne ne]; exact lift_ok.mpr ⟨h1, g1⟩)
      exact ⟨a, o, e1, h4, u1, h3, r1.mono s⟩
  · have key : ∀ {k : Nat} {dk : D}, (ρ.set i (Sl.ow d1))[k]? = some (Sl.ow dk) → ∃ dk', ρ[k]? = some (Sl.ow dk') := fun {k dk} h' => by
      rcases get_set h' with ⟨e, _⟩ | ⟨_, h'⟩
      · exact ⟨d, by rw [e]; exact h⟩
      · exact ⟨dk, h'⟩
    obtain ⟨d1, k1⟩ := key h1
    obtain ⟨d2, k2⟩ := key h2
    exact R.dist j k d1 d2 a k1 k2 h3 h4
  · obtain ⟨h1, h2⟩ := R.out a o h'
    have ne : a ≠ p := fun z => by subst z; rw [u] at h'; cases h'
    exact R2.out a o (by rw [unheld_ne ne]; exact lift_ok.mpr ⟨h1, h2⟩)
end

/-! ### a def by its body -/
abbrev WO (E : XK) : WX := fun cls d _ H => E cls d H
section
variable {P : Program} {w : World} {K : PySem.W.Frag} {mg : Str → Option Value} {base : Heap} {T : Tab}
theorem start_at {N ps : List Str} {vs : List V} {m : Nat} (hN : N.length = ps.length + m) (hl : vs.length = ps.length) : L2.start N vs = vs.map some ++ List.replicate m none := by
  unfold L2.start
  rw [hN, hl, Nat.add_sub_cancel_left]
theorem fnV_ok {x qual : Str} {st : Stmt} {f : Addr} {fd : FuncData} {N ps : List Str} {k m : Nat} {ws : List Nat} {body : SF} (F : Fun K x qual st f fd) (S : FnScope N ps (defScope st)) (hN : N.length = ps.length + m)
    (hbody : ∀ (cdv : Value) (A : Around) (outer : List Env) (s : Shared) (H : Hp) (E : XK), Room k (A.deeper (envOfC qual (defScope st) s.heap.objs.size f cdv)) →
      JSs (cxOf (L2.CX P w) P w K mg base N qual (defScope st) f cdv A outer s H E) T (WO E) ws (defBody st) body) : FnOk P w K mg base (L2.CX P w) (k + 1) f fd ps (spV T ps.length (fnV m body)) := by
  refine F.okX S (fun vs H Q E h => h.1) (fun cdv A outer s H vs Q E hr h => ?_)
  obtain ⟨hl, U, G, ds, R, r, p⟩ := h
  refine ⟨_, (hbody cdv A outer s H E hr).run, U, G, _, start_at hN hl ▸ R.entry r m, ?_⟩
  unfold fnV at p
  cases e : body (ds.map .sh ++ List.replicate m .no) with
  | ok a ρ' =>
    rw [e] at p
    cases a with
    | nx => exact fun σ' G' H' R' s' _ => p G' H' R'.nil s' _ rfl
    | rt d => exact fun v σ' G' H' R' s' _ r' => p G' H' R'.nil s' v r'
  | ex c ns vs ρ' => rw [e] at p; exact fun cls dx σ' G' H' R' s' _ x => p cls dx G' H' R'.nil s' x
  | bad => rw [e] at p; exact p.elim
theorem fnL_ok {x qual : Str} {st : Stmt} {f : Addr} {fd : FuncData} {N ps : List Str} {k m n : Nat} {ws : List Nat} {body : SF} (F : Fun K x qual st f fd) (S : FnScope N ps (defScope st)) (hN : N.length = ps.length + m) (hn : ps.length = n + 1) (hw : 0 ∉ ws)
    (hbody : ∀ (cdv : Value) (A : Around) (outer : List Env) (s : Shared) (H : Hp) (E : XK), Room k (A.deeper (envOfC qual (defScope st) s.heap.objs.size f cdv)) →
      JSs (cxOf (L2.CX P w) P w K mg base N qual (defScope st) f cdv A outer s H E) T (WO E) ws (defBody st) body) : FnOk P w K mg base (L2.CX P w) (k + 1) f fd ps (spL T n (fnL m body)) := by
  refine F.okX S (fun vs H Q E h => h.1.trans hn.symm) (fun cdv A outer s H vs Q E hr h => ?_)
  obtain ⟨hl, U, G, d0, ds, q, vs', rfl, R, r, p⟩ := h
  refine ⟨_, (hbody cdv A outer s H E hr).run, U, G, _, (by rw [start_at hN (hl.trans hn.symm)]; exact R.entryL r m), ?_⟩
  have hσ : ∀ σ', Keeps ws (L2.start N (V.ref q :: vs')) σ' → σ'[0]? = some (some (.ref q)) := fun σ' k => by
    rw [k.2 0 hw, start_at hN (hl.trans hn.symm)]
    rfl
  unfold fnL at p
  cases e : body (.ow d0 :: (ds.map .sh ++ List.replicate m .no)) with
  | ok a ρ' =>
    rw [e] at p
    cases a with
    | nx =>
      simp only [ow0] at p
      split at p
      · rename_i d d1 e2
        split at e2
        · rename_i e3
          cases e2
          exact fun σ' G' H' R' s' k' => p G' H' (R'.exitL (hσ σ' k') e3) s' _ rfl
        · cases e2
      · exact p.elim
    | rt d =>
      simp only [ow0] at p
      split at p
      · rename_i d d1 e2
        split at e2
        · rename_i e3
          cases e2
          exact fun v σ' G' H' R' s' k' r' => p G' H' (R'.exitL (hσ σ' k') e3) s' v r'
        · cases e2
      · exact p.elim
  | ex c ns vs ρ' => rw [e] at p; exact p.elim
  | bad => rw [e] at p; exact p.elim
end

/-! ### calls -/
section
variable {X : Cx} {T : Tab} {W : WX} {k n : Nat} {f : Addr} {fd : FuncData} {ps : List Str} {x : Str} {p pos : Pos} {e : Expr} {es : List Expr}
def eCall (F : FV) (dd : List D) (g : AF) : EF := fun ρ => (g ρ).bnd fun as ρ' => match vals as with
  | some ds => (F (ds ++ dd)).at ρ'
  | none => .bad
theorem call_red {F : FV} {g : AF} {dd : List D} {dv : List V} (hlen : ∀ ρ as ρ', g ρ = .ok as ρ' → as.length + dd.length = n) (hdd : ∀ G, Reps T G dv dd) {σ : L2.St} {H : Hp} {Q : VK} (q : tE T W (eCall F dd g) σ H Q) : tCallSD (spV T n F) dv (WE W) (tA T W g) σ H Q := by
  obtain ⟨U, G, ρ, R, q⟩ := q
  refine ⟨U, G, ρ, R, ?_⟩
  have q' := Pst.bnd q
  cases hf : g ρ with
  | ok as ρ' =>
    rw [hf] at q'
    intro G1 H1 R1 s1 vs avs
    obtain ⟨_, _, p⟩ := q' G1 H1 R1 s1
    cases e2 : vals as with
    | none => rw [e2] at p; exact p.elim
    | some ds =>
      rw [e2] at p
      have rs := vals_ok avs e2
      refine ⟨?_, J.lift H1 G1, G1, ds ++ dd, R1.lift, rs.app (hdd G1), ?_⟩
      · rw [List.length_append, ars_len avs, (hdd G1).length]
        exact hlen _ _ _ hf
      · dsimp only at p
        cases e3 : F (ds ++ dd) with
        | ok d => rw [e3] at p; exact fun G2 H2 R2 s2 v r => p G2 H2 (R1.over R2 s2) s2 v r
        | ex c ns vs => rw [e3] at p; exact fun cls dx G2 H2 R2 s2 x => p cls dx G2 H2 (R1.over R2 s2) s2 x
        | bad => rw [e3] at p; exact p.elim
  | ex c ns vs ρ' => rw [hf] at q'; exact q'
  | bad => rw [hf] at q'; exact q'
theorem j_call {F : FV} {g : AF} {dd : List D} {dv : List V} {dvs : List Value} (Fo : FnOk X.prog X.w X.K X.mg X.base (L2.CX X.prog X.w) k f fd ps (spV T n F)) (hr : Room k X.A) (hm : X.mg x = some (.ref f)) (hk : PySem.W.keepIn X.K (.ref f) = true) (hb : Binds X.K fd ps dvs) (hd : Vals dv dvs) (hdd : ∀ G, Reps T G dv dd) (tk : Takes X W)
    (ha : JA X T W (e :: es) g) (hn : (e :: es).length + dd.length = n) (hg : Gl X x := by rfl) (hdb : (x == ("__debug__" : Str)) = false := by decide) (he : starEach (e :: es) X.env = (false, eval e X.env) :: starEach es X.env := by rfl) (hpl : (backTo pos (starEach es X.env)).any (·.1) = false := by rfl) :
    JE X T W (.Call (.Name x p) (e :: es) [] pos) (eCall F dd g) :=
  ⟨ha.k, pe_imp (pe_callSD Fo hr hg hm hk hb hd (passAt tk) ha.run hdb he hpl) fun σ H Q q => call_red (fun ρ as ρ' h => by rw [ha.len _ _ _ h]; exact hn) hdd q⟩
/-- f() -/
theorem j_call0 {F : FV} {dd : List D} {dv : List V} {dvs : List Value} (Fo : FnOk X.prog X.w X.K X.mg X.base (L2.CX X.prog X.w) k f fd ps (spV T n F)) (hr : Room k X.A) (hm : X.mg x = some (.ref f)) (hk : PySem.W.keepIn X.K (.ref f) = true) (hb : Binds X.K fd ps dvs) (hd : Vals dv dvs) (hdd : ∀ G, Reps T G dv dd) (tk : Takes X W)
    (hK : X.K = T.K) (hn : dd.length = n) (hg : Gl X x := by rfl) (hdb : (x == ("__debug__" : Str)) = false := by decide) : JE X T W (.Call (.Name x p) [] [] pos) (eCall F dd aNil) := by
  refine ⟨hK, ⟨fun pins s σ H Q I q => ?_⟩⟩
  have q2 := call_red (n := n) (dv := dv) (fun ρ as ρ' h => by cases h; simpa using hn) hdd q
  obtain ⟨U, G, ρ, R, q3⟩ := q2
  refine wpAny_Call_Name_kw (ld_glob I hg hm ?_ hdb)
  refine PySem.W.callWith_K0 I.kIn hk ?_
  exact run_fnSD (us := []) (vs := []) Fo hr hb hd (passAt tk σ) I .nil (q3 G H R (L2.Same.refl _) [] True.intro)
/-- f(o, ..), o lent -/
def eCallL (F : FL) (g : AF) : EF := fun ρ => (g ρ).bnd fun as ρ' => match as with
  | .s i :: r => (match ρ'[i]?, vals r with
    | some (.ow d0), some ds => (match F d0 ds with
      | some (d, d1) => .ok d (ρ'.set i (.ow d1))
      | none => .bad)
    | _, _ => .bad)
  | _ => .bad
theorem j_callL {F : FL} {g : AF} (Fo : FnOk X.prog X.w X.K X.mg X.base (L2.CX X.prog X.w) k f fd ps (spL T n F)) (hr : Room k X.A) (hm : X.mg x = some (.ref f)) (hk : PySem.W.keepIn X.K (.ref f) = true) (hb : Binds X.K fd ps []) (tk : Takes X W)
    (ha : JA X T W (e :: es) g) (hn : (e :: es).length = n + 1) (hg : Gl X x := by rfl) (hdb : (x == ("__debug__" : Str)) = false := by decide) (he : starEach (e :: es) X.env = (false, eval e X.env) :: starEach es X.env := by rfl) (hpl : (backTo pos (starEach es X.env)).any (·.1) = false := by rfl) :
    JE X T W (.Call (.Name x p) (e :: es) [] pos) (eCallL F g) := by
  refine ⟨ha.k, pe_imp (pe_callS (E := WE W) Fo hr hg hm hk hb (passAt tk) ha.run hdb he hpl) fun σ H Q ⟨U, G, ρ, R, q⟩ => ⟨U, G, ρ, R, ?_⟩⟩
  have q' := Pst.bnd q
  cases hf : g ρ with
  | ok as ρ' =>
    rw [hf] at q'
    intro G1 H1 R1 s1 vs avs
    obtain ⟨_, _, p⟩ := q' G1 H1 R1 s1
    have hl := ha.len _ _ _ hf
    match as, vs, avs, p, hl with
    | .v _ :: _, _, _, p, _ => exact p.elim
    | [], _, _, p, _ => exact p.elim
    | .s i :: r, [], avs, p, _ => exact avs.elim
    | .s i :: r, v :: vs', avs, p, hl =>
      dsimp only at p
      split at p
      · rename_i d0 ds e1 e2
        split at p
        · rename_i d d1 e3
          obtain ⟨q1, e4, RL⟩ := R1.lend e1
          have e5 : σ[i]? = some (some v) := avs.1
          rw [e4] at e5
          cases e5
          refine ⟨?_, _, G1, d0, ds, q1, vs', rfl, RL, vals_ok avs.2 e2, ?_⟩
          · rw [List.length_cons, ars_len avs.2]
            exact hl.trans hn
          · rw [e3]
            exact fun G2 H2 R2 s2 v r => p G2 H2 (R1.overL e1 e4 R2 s2) s2 v r
        · exact p.elim
      · exact p.elim
  | ex c ns vs ρ' => rw [hf] at q'; exact q'
  | bad => rw [hf] at q'; exact q'
end
end J

set_option Elab.async false
set_option linter.all false
set_option maxRecDepth 100000
set_option maxHeartbeats 4000000
namespace J
open PySem PySem.Spec PyProof.Rows L2 NdefX

/-! ### the __init__ of an exception -/
def spXi (C : Addr) (fs : List Str) : Sp := fun vs H Q _ => vs.length = fs.length + 1 ∧ ∃ a ys, vs = .ref a :: ys ∧ H a = some (exo a C none) ∧
  ∀ dx, H dx = none → dx ≠ a → Q .non (upd (upd H dx (exd dx (fs.zip ys).reverse)) a (exo a C (some dx)))
abbrev supCall (p0 p1 p2 p3 p4 : Pos) (es : List Expr) : Stmt := .Expr (.Call (.Attribute (.Call (.Name "super" p0) [] [] p1) "__init__" p2) es [] p3) p4
section
variable {P : Program} {w : World} {K : PySem.W.Frag} {mg : Str → Option Value} {base : Heap} {k : Nat} {f cc cda C : Addr} {name qual : Str} {params : Arguments} {scope : Scope} {dV kV doc pm ct oc : Value} {an od : Option Addr}
    {osl : Array (Option Value)} {p0 p1 p2 p3 p4 q1 q2 q3 q4 q5 q6 q7 q8 q9 r1 : Pos} {a1 a2 f1 f2 : Str} {pl : Env → Sem Bool}
theorem fn_x1 (lk : K.lookup f = some ⟨oc, od, .func (PySem.W.ksFn name qual params [supCall p0 p1 p2 p3 p4 [.Name a1 q1], .Assign [.Attribute (.Name "self" q2) f1 q3] (.Name a1 q4) q5] scope dV kV doc pm an (.ref cda) ct cc), osl⟩)
    (hcd : PySem.W.codeIn K (.ref cda) qual = true) (S : NScope ["self", a1, "__class__"] ["self", a1] ["__class__"] scope) (T : SupC K P C cc cda) (TO : OexC K C) (har : ∃ ar, (params.posonlyargs ++ params.args).head? = some ar ∧ ar.arg = "self")
    (hsup : scope.names.lookup ("super" : Str) = some .globalImplicit) (hms : mg "super" = none) (hf1 : PySem.W.findIn K (.ref C) f1 = some none) (hd1 : (a1 == ("__debug__" : Str)) = false) (hc1 : (a1 == ("__classdict__" : Str)) = false)
    (hev : ∀ env, eval (.Call (.Attribute (.Call (.Name "super" p0) [] [] p1) "__init__" p2) [.Name a1 q1] [] p3) env = (do
      let ov ← attributeBase (.Call (.Name "super" p0) [] [] p1) "__init__" env (eval (.Call (.Name "super" p0) [] [] p1) env)
      standAt p2.atName
      let (f, first) ← holding [ov] (getMethod ov "__init__" (pl env))
      callWith p3 f first (backTo p3 (starEach [.Name a1 q1] env)) []) := by intro _; rfl) :
    FnOk P w K mg base C8.CX0 (k + 1) f (PySem.W.ksFn name qual params [supCall p0 p1 p2 p3 p4 [.Name a1 q1], .Assign [.Attribute (.Name "self" q2) f1 q3] (.Name a1 q4) q5] scope dV kV doc pm an (.ref cda) ct cc) ["self", a1] (spXi C [f1]) := by
  obtain ⟨ar, har1, har2⟩ := har
  have hs : scope.names.lookup ("self" : Str) = some .local := S.par _ (by simp)
  have h1 : scope.names.lookup a1 = some .local := S.par _ (by simp)
  refine fnok_super (pl := pl) lk hcd S T TO rfl har1 (by rw [har2]; rfl) (by rw [har2]; exact hs) hsup hms (fun vs H Q E h => h.1) (fun A outer s H vs Q E h => ?_) hev
  obtain ⟨hl, a, ys, rfl, ha, q⟩ := h
  match ys, hl with
  | [y], _ =>
  refine ⟨a, _, _, rfl, ha, pa_cons (pe_var (i := 1) rfl (.inl h1) hd1 hc1) pa_nil, pss_one (ps_ost (pe_var (i := 0) rfl (.inl hs)) (pe_var (i := 1) rfl (.inl h1) hd1 hc1)), ?_⟩
  refine ⟨y, rfl, by simp, ha, y, rfl, _, rfl, a, C, rfl, TO, hf1, .inl ⟨ha, fun dx hx hne => q dx hx hne⟩⟩
theorem fn_x2 (lk : K.lookup f = some ⟨oc, od, .func (PySem.W.ksFn name qual params [supCall p0 p1 p2 p3 p4 [.Name a1 q1, .Name a2 q2], .Assign [.Attribute (.Name "self" q3) f1 q4] (.Name a1 q5) q6, .Assign [.Attribute (.Name "self" q7) f2 q8] (.Name a2 q9) r1] scope dV kV doc pm an (.ref cda) ct cc), osl⟩)
    (hcd : PySem.W.codeIn K (.ref cda) qual = true) (S : NScope ["self", a1, a2, "__class__"] ["self", a1, a2] ["__class__"] scope) (T : SupC K P C cc cda) (TO : OexC K C) (har : ∃ ar, (params.posonlyargs ++ params.args).head? = some ar ∧ ar.arg = "self")
    (hsup : scope.names.lookup ("super" : Str) = some .globalImplicit) (hms : mg "super" = none) (hf1 : PySem.W.findIn K (.ref C) f1 = some none) (hf2 : PySem.W.findIn K (.ref C) f2 = some none) (hd1 : (a1 == ("__debug__" : Str)) = false) (hc1 : (a1 == ("__classdict__" : Str)) = false) (hd2 : (a2 == ("__debug__" : Str)) = false) (hc2 : (a2 == ("__classdict__" : Str)) = false)
    (hev : ∀ env, eval (.Call (.Attribute (.Call (.Name "super" p0) [] [] p1) "__init__" p2) [.Name a1 q1, .Name a2 q2] [] p3) env = (do
      let ov ← attributeBase (.Call (.Name "super" p0) [] [] p1) "__init__" env (eval (.Call (.Name "super" p0) [] [] p1) env)
      standAt p2.atName
      let (f, first) ← holding [ov] (getMethod ov "__init__" (pl env))
      callWith p3 f first (backTo p3 (starEach [.Name a1 q1, .Name a2 q2] env)) []) := by intro _; rfl) :
    FnOk P w K mg base C8.CX0 (k + 1) f (PySem.W.ksFn name qual params [supCall p0 p1 p2 p3 p4 [.Name a1 q1, .Name a2 q2], .Assign [.Attribute (.Name "self" q3) f1 q4] (.Name a1 q5) q6, .Assign [.Attribute (.Name "self" q7) f2 q8] (.Name a2 q9) r1] scope dV kV doc pm an (.ref cda) ct cc) ["self", a1, a2] (spXi C [f1, f2]) := by
  obtain ⟨ar, har1, har2⟩ := har
  have hs : scope.names.lookup ("self" : Str) = some .local := S.par _ (by simp)
  have h1 : scope.names.lookup a1 = some .local := S.par _ (by simp)
  have h2 : scope.names.lookup a2 = some .local := S.par _ (by simp)
  refine fnok_super (pl := pl) lk hcd S T TO rfl har1 (by rw [har2]; rfl) (by rw [har2]; exact hs) hsup hms (fun vs H Q E h => h.1) (fun A outer s H vs Q E h => ?_) hev
  obtain ⟨hl, a, ys, rfl, ha, q⟩ := h
  match ys, hl with
  | [y, z], _ =>
  refine ⟨a, _, _, rfl, ha, pa_cons (pe_var (i := 1) rfl (.inl h1) hd1 hc1) (pa_cons (pe_var (i := 2) rfl (.inl h2) hd2 hc2) pa_nil), pss_cons (ps_ost (pe_var (i := 0) rfl (.inl hs)) (pe_var (i := 1) rfl (.inl h1) hd1 hc1)) (pss_one (ps_ost (pe_var (i := 0) rfl (.inl hs)) (pe_var (i := 2) rfl (.inl h2) hd2 hc2))), ?_⟩
  refine ⟨y, rfl, z, rfl, by simp, ha, y, rfl, _, rfl, a, C, rfl, TO, hf1, .inl ⟨ha, fun dx hx hne => ?_⟩⟩
  refine ⟨z, rfl, _, rfl, a, C, rfl, TO, hf2, .inr ⟨dx, _, upd_same, by rw [upd_ne hne, upd_same], by simp, ?_⟩⟩
  have e : upd (upd (upd H dx (exd dx [(f1, y)])) a (exo a C (some dx))) dx (exd dx [(f2, z), (f1, y)]) = upd (upd H dx (exd dx ([f1, f2].zip [y, z]).reverse)) a (exo a C (some dx)) := by
    funext b
    by_cases hb : b = dx
    · subst hb; rw [upd_same, upd_ne hne, upd_same]; rfl
    · rw [upd_ne hb]
      by_cases hb2 : b = a
      · subst hb2; rw [upd_same, upd_same]
      · rw [upd_ne hb2, upd_ne hb2, upd_ne hb, upd_ne hb]
  rw [e]
  exact q dx hx hne
end

/-! ### raise -/
/-- an own exception class whose __init__ keeps its arguments in the fields fs -/
structure ExK (P : Program) (w : World) (K : PySem.W.Frag) (mg : Str → Option Value) (base : Heap) (x : Str) (C : Addr) (fs : List Str) (k : Nat) : Prop where
  ox : OexC K C
  ini : ∃ fI fd ps, PySem.W.findIn K (.ref C) "__init__" = some (some (.ref fI)) ∧ PySem.W.typeIn K (.ref fI) = some (.type "function") ∧ FnOk P w K mg base C8.CX0 k fI fd ps (spXi C fs) ∧ Binds K fd ps []
  mgC : mg x = some (.ref C)
theorem Reps.rev {T : Tab} {G : Hp} : ∀ {ds : List D} {xs : List V}, Reps T G xs ds → Reps T G xs.reverse ds.reverse
  | [], _, r => by cases r; rfl
  | d :: ds, _, ⟨x, r, e, a, b⟩ => by
    subst e
    rw [List.reverse_cons, List.reverse_cons]
    exact (Reps.rev b).app (.one a)
section
variable {X : Cx} {T : Tab} {W : WX} {k : Nat} {C : Addr} {x : Str} {fs : List Str} {p pos pos' : Pos} {e : Expr} {es : List Expr}
def sRaise (c : Nat) (ns : List Nat) (g : AF) : SF := fun ρ => (g ρ).bnd fun as ρ' => match vals as with
  | some ds => .ex c ns ds.reverse ρ'
  | none => .bad
theorem zip_fst {α β : Type} : ∀ {a : List α} {b : List β}, a.length = b.length → (a.zip b).map (·.1) = a
  | [], _, _ => rfl
  | _ :: _, [], h => by simp at h
  | a :: as, b :: bs, h => by simp [zip_fst (by simpa using h : as.length = bs.length)]
theorem zip_snd {α β : Type} : ∀ {a : List α} {b : List β}, a.length = b.length → (a.zip b).map (·.2) = b
  | [], [], _ => rfl
  | [], _ :: _, h => by simp at h
  | _ :: _, [], h => by simp at h
  | a :: as, b :: bs, h => by simp [zip_snd (by simpa using h : as.length = bs.length)]
theorem j_raise {c : Nat} {ns : List Nat} {g : AF} (ek : ExK X.prog X.w X.K X.mg X.base x C fs k) (hr : Room (k + 1) X.A) (tk : Takes X W) (hC : T.exc c = C) (hns : fs.reverse = ns.map T.fnm) (ha : JA X T W (e :: es) g) (hl : (e :: es).length = fs.length) (hc : X.calm = true := by rfl) (hl2 : (e :: es).length ≤ 1000 := by decide)
    (hg : Gl X x := by rfl) (hdb : (x == ("__debug__" : Str)) = false := by decide) (he : starEach (e :: es) X.env = (false, eval e X.env) :: starEach es X.env := by rfl) (hpl : (backTo pos (starEach es X.env)).any (·.1) = false := by rfl) :
    JS X T W [] (.Raise (some (.Call (.Name x p) (e :: es) [] pos)) none pos') (sRaise c ns g) := by
  obtain ⟨fI, fd, ps, iC, tI, F1, hb⟩ := ek.ini
  refine ⟨ha.k, ps_imp (ps_raise hc tk (pmk_oex ek.ox iC tI F1 hr hb .nil C8.pass0 hg ek.mgC ha.run hdb he hpl)) fun D σ H ⟨U, G, ρ, R, q⟩ => ⟨U, G, ρ, R, ?_⟩⟩
  have q' := PstS.bndE q
  cases hf : g ρ with
  | ok as ρ' =>
    rw [hf] at q'
    intro G1 H1 R1 s1 vs avs
    obtain ⟨_, _, p⟩ := q' G1 H1 R1 s1
    cases e2 : vals as with
    | none => rw [e2] at p; exact p.elim
    | some ds =>
      rw [e2] at p
      have rs := vals_ok avs e2
      have hvl : vs.length = fs.length := by rw [ars_len avs, ha.len _ _ _ hf, hl]
      refine ⟨by omega, fun a hfa => ⟨by simp [hvl], a, vs ++ [], rfl, upd_same, fun dx hx hne => ⟨rfl, dx, (fs.zip (vs ++ [])).reverse, upd_same, by rw [upd_ne hne, upd_same], by rw [upd_ne hne] at hx; exact hx, ?_⟩⟩⟩
      rw [upd_ne hne] at hx
      rw [List.append_nil]
      have e3 : upd (del (upd (upd (upd H1 a (exo a C none)) dx (exd dx (fs.zip vs).reverse)) a (exo a C (some dx))) a) dx (.xd (fs.zip vs).reverse) = upd H1 dx (.xd (fs.zip vs).reverse) := by
        funext b
        by_cases hb : b = dx
        · subst hb; rw [upd_same, upd_same]
        · rw [upd_ne hb, upd_ne hb]
          by_cases hb2 : b = a
          · subst hb2; rw [del_same, hfa]
          · rw [del_ne hb2, upd_ne hb2, upd_ne hb, upd_ne hb2]
      rw [e3]
      have s2 := same_upd (o := .xd (fs.zip vs).reverse) (R1.gfree hx)
      refine p (.ref C) (some dx) σ _ _ (R1.alloc hx) s2 (Keeps.refl _ _) ⟨by rw [hC], (fs.zip vs).reverse, upd_same, ?_, ?_⟩
      · rw [List.map_reverse, zip_fst hvl.symm, hns]
      · rw [List.map_reverse, zip_snd hvl.symm]
        exact (rs.mono s2).rev
  | ex c ns vs ρ' => rw [hf] at q'; exact q'
  | bad => rw [hf] at q'; exact q'
end

/-! ### try -/
section
variable {T : Tab} {x : Option (Addr × Value × Option Addr)}
def eaT (T : Tab) (x : Option (Addr × Value × Option Addr)) : Tab := { T with ea := x }
mutual
theorem Rep.ea {G : Hp} : ∀ {d : D} {v : V}, Rep T G v d → Rep (eaT T x) G v d
  | .non, _, r => r
  | .bl _, _, r => r
  | .int _, _, r => r
  | .str _, _, r => r
  | .tup _, _, ⟨a, xs, e, q, r⟩ => ⟨a, xs, e, q, Reps.ea r⟩
  | .lst _, _, ⟨a, xs, e, q, r⟩ => ⟨a, xs, e, q, Reps.ea r⟩
  | .scr _, _, ⟨a, xs, e, q, r⟩ => ⟨a, xs, e, q, Reps.ea r⟩
  | .dct _ _, _, ⟨a, kk, od, e, q, k, n, r⟩ => ⟨a, kk, od, e, q, k, n, Reps.ea r⟩
  | .obj _ _ _, _, ⟨a, dx, fs, e, q, k, r⟩ => ⟨a, dx, fs, e, q, k, Reps.ea r⟩
  | .fn _, _, r => r
theorem Reps.ea {G : Hp} : ∀ {ds : List D} {xs : List V}, Reps T G xs ds → Reps (eaT T x) G xs ds
  | [], _, r => r
  | _ :: _, _, ⟨y, r, e, a, b⟩ => ⟨y, r, e, Rep.ea a, Reps.ea b⟩
end
theorem RepO.ea {G : Hp} {o : HO} {d : D} (r : RepO T G o d) : RepO (eaT T x) G o d := by
  cases d with
  | lst ds => obtain ⟨xs, e, r⟩ := r; exact ⟨xs, e, r.ea⟩
  | dct ks vs => obtain ⟨kk, e, k, n, r⟩ := r; exact ⟨kk, e, k, n, r.ea⟩
  | obj c ns vs => obtain ⟨dx, fs, e, k, r⟩ := r; exact ⟨dx, fs, e, k, r.ea⟩
  | _ => exact r.elim
theorem XRep.ea {G : Hp} {c : Nat} {ns : List Nat} {vs : List D} {cls : Value} {dx : Option Addr} (r : XRep T G c ns vs cls dx) : XRep (eaT T x) G c ns vs cls dx := by
  obtain ⟨e, r⟩ := r
  refine ⟨e, ?_⟩
  cases dx with
  | none => exact r
  | some d =>
    obtain ⟨fs, h1, h2, h3⟩ := r
    exact ⟨fs, h1, h2, h3.ea⟩
def isEx : Sl → Bool
  | .ex _ _ _ => true
  | _ => false
def noEx (ρ : En) : Bool := ρ.all fun s => !isEx s
theorem noEx_at {ρ : En} (h : noEx ρ = true) {i c : Nat} {ns : List Nat} {vs : List D} : ρ[i]? ≠ some (.ex c ns vs) := fun e => by
  have q := List.all_eq_true.mp h _ (List.mem_of_getElem? e)
  cases q
theorem Rel.ea {U G H : Hp} {σ : L2.St} {ρ : En} (R : Rel T U G H σ ρ) (h : noEx ρ = true) : Rel (eaT T x) U G H σ ρ := by
  refine ⟨R.same, R.len, fun i d e => ?_, fun i d e => ?_, R.dist, R.out, fun i c ns vs e => absurd e (noEx_at h)⟩
  · obtain ⟨v, e1, r⟩ := R.sh i d e
    exact ⟨v, e1, r.ea⟩
  · obtain ⟨a, o, e1, g, u, hh, r⟩ := R.ow i d e
    exact ⟨a, o, e1, g, u, hh, r.ea⟩
theorem eaT_back : eaT (eaT T x) T.ea = T := rfl
theorem Rel.aeN {U G H : Hp} {σ : L2.St} {ρ : En} {i : Nat} (R : Rel (eaT T x) U G H σ ρ) (h : noEx (ρ.set i .no) = true) : Rel T U G H (σ.set i none) (ρ.set i .no) := by
  have q := Rel.ea (x := T.ea) (R.setNo (i := i)) h
  rw [eaT_back] at q
  refine ⟨q.same, by rw [List.length_set]; exact q.len, fun j d e => ?_, fun j d e => ?_, fun j k dj dk a h1 h2 h3 h4 => ?_, q.out, fun j c ns vs e => absurd e (noEx_at h)⟩
  · rcases get_set e with ⟨_, z⟩ | ⟨hj, _⟩
    · cases z
    · rw [set_get_ne hj]; exact q.sh j d e
  · rcases get_set e with ⟨_, z⟩ | ⟨hj, _⟩
    · cases z
    · rw [set_get_ne hj]; exact q.ow j d e
  · rcases get_set h1 with ⟨_, z⟩ | ⟨hj, _⟩
    · cases z
    · rcases get_set h2 with ⟨_, z⟩ | ⟨hk, _⟩
      · cases z
      · rw [set_get_ne hj] at h3
        rw [set_get_ne hk] at h4
        exact q.dist j k dj dk a h1 h2 h3 h4
theorem Rel.ae {U G H : Hp} {σ : L2.St} {ρ : En} (R : Rel (eaT T x) U G H σ ρ) (h : noEx ρ = true) : Rel T U G H σ ρ := by
  have q := Rel.ea (x := T.ea) R h
  rwa [eaT_back] at q
/-- the caught exception stands in slot i -/
theorem Rel.setEx {U G H : Hp} {σ : L2.St} {ρ : En} {i c : Nat} {ns : List Nat} {vs : List D} {a : Addr} {cls : Value} {dx : Option Addr} (R : Rel T U G H σ ρ) (h : noEx ρ = true) (xr : XRep T G c ns vs cls dx) :
    Rel (eaT T (some (a, cls, dx))) U G H (σ.set i (some (.ref a))) (ρ.set i (.ex c ns vs)) := by
  have q := Rel.ea (x := some (a, cls, dx)) R h
  refine ⟨q.same, by simp [q.len], fun j d e => ?_, fun j d e => ?_, fun j k dj dk a h1 h2 h3 h4 => ?_, q.out, fun j c ns vs e => ?_⟩
  · rcases get_set e with ⟨_, z⟩ | ⟨hj, e⟩
    · cases z
    · rw [set_get_ne hj]; exact q.sh j d e
  · rcases get_set e with ⟨_, z⟩ | ⟨hj, e⟩
    · cases z
    · rw [set_get_ne hj]; exact q.ow j d e
  · rcases get_set h1 with ⟨_, z⟩ | ⟨hj, h1⟩
    · cases z
    · rcases get_set h2 with ⟨_, z⟩ | ⟨hk, h2⟩
      · cases z
      · rw [set_get_ne hj] at h3
        rw [set_get_ne hk] at h4
        exact q.dist j k dj dk a h1 h2 h3 h4
  · have hl := (List.getElem?_eq_some_iff.mp e).1
    rcases get_set e with ⟨hj, z⟩ | ⟨hj, e⟩
    · cases z
      subst hj
      refine ⟨a, cls, dx, set_get_same (by rw [q.len]; simpa using hl), rfl, xr.ea⟩
    · exact absurd e (noEx_at h)
end
section
variable {X : Cx} {T : Tab} {W : WX}
/-- behind a suite -/
def Rs.out (i : Nat) (r : Rs Fl) : Rs Fl := match r with
  | .ok fl ρ => if noEx (ρ.set i .no) = true then .ok fl (ρ.set i .no) else .bad
  | _ => .bad
@[simp] theorem Rs.out_ok (i : Nat) (fl : Fl) (ρ : En) : (Rs.ok fl ρ).out i = if noEx (ρ.set i .no) = true then .ok fl (ρ.set i .no) else .bad := rfl
/-- try: f except x as <slot i>: g; hm: which exceptions the clause catches -/
def sTryAs (i : Nat) (hm : Nat → Option Bool) (f g : SF) : SF := fun ρ => match f ρ with
  | .ok fl ρ' => .ok fl ρ'
  | .bad => .bad
  | .ex c ns vs ρ' => (match hm c with
    | some true => if noEx ρ' = true then (g (ρ'.set i (.ex c ns vs))).out i else .bad
    | some false => .ex c ns vs ρ'
    | none => .bad)
theorem j_try_as {x n : Str} {cl : Value} {i : Nat} {hm : Nat → Option Bool} {body suite : List Stmt} {b₀ : Stmt} {np pos pos' : Pos} {f g : SF} {wb ws : List Nat} (hK : X.K = T.K) (hN : X.N.Nodup) (hi : X.N[i]? = some n) (hln : X.env.kindOf n = some .local) (hc : Names X x cl) (tk : Takes X W)
    (hx : ∀ c b, hm c = some b → PySem.W.exmOne X.K (.ref (T.exc c)) cl = some b)
    (hb : ∀ (W : WX) (pn : List (Addr × Obj)) (xe : Value → Shared → Prop), Takes (X.tr pn xe) W → PassesOwn (model X.prog X.w) X.A X.env xe → JSs (X.tr pn xe) T W wb body f)
    (hsu : ∀ (a : Addr) (oe : Obj) (cls : Value) (d : Option Addr) (pn : List (Addr × Obj)), Zc cls d oe → (∃ vs, oe.data = .fields vs) → JSs (X.suite a ((a, oe) :: pn)) (eaT T (some (a, cls, d))) WF ws (b₀ :: suite) g)
    (hs : X.stack = X.env :: X.outer := by rfl) (hf : X.env.frame = some X.env.locals := by rfl) :
    JS X T W (wb ++ (i :: ws)) (.Try body [.ExceptHandler (some (.Name x np)) (some n) (b₀ :: suite) pos'] [] [] pos) (sTryAs i hm f g) := by
  refine ⟨hK, ps_imp (ps_try_as (tb := fun W => tS T W wb f) (ts := fun a cls d => tS (eaT T (some (a, cls, d))) WF ws g) hs hf hN hi hln hc tk (fun W pn xe t p => (hb W pn xe t p).run) (fun a oe cls d pn z v => (hsu a oe cls d pn z v).run)) fun D σ H ⟨U, G, ρ, R, q⟩ => ⟨U, G, ρ, R, ?_⟩⟩
  unfold sTryAs at q
  have wl : ∀ j, j ∈ wb → j ∈ wb ++ (i :: ws) := fun j hj => List.mem_append_left _ hj
  cases e : f ρ with
  | bad => rw [e] at q; exact q.elim
  | ok fl ρ' =>
    rw [e] at q
    cases fl with
    | nx => exact fun σ' G' H' R' s k => q σ' G' H' R' s (k.mono wl)
    | rt d => exact fun v σ' G' H' R' s k => q v σ' G' H' R' s (k.mono wl)
  | ex c ns vs ρ' =>
    rw [e] at q
    dsimp only at q
    intro cls dx σ' G' H' R' s k xr
    have hcls : cls = .ref (T.exc c) := xr.1
    cases eb : hm c with
    | none => rw [eb] at q; exact q.elim
    | some b =>
      refine ⟨b, by rw [hcls]; exact hx c b eb, fun ht a hfa => ?_, fun ht => ?_⟩
      · subst ht
        rw [eb] at q
        dsimp only at q
        split at q
        · rename_i hne
          refine ⟨U, G', _, R'.setEx hne xr, ?_⟩
          have kk : ∀ {σ2 : L2.St}, Keeps ws (σ'.set i (some (.ref a))) σ2 → Keeps (wb ++ (i :: ws)) σ (σ2.set i none) := fun {σ2} k2 => by
            refine ⟨by rw [List.length_set, k2.1, List.length_set, k.1], fun j hj => ?_⟩
            have h1 : j ≠ i := fun z => hj (List.mem_append_right _ (by rw [z]; exact List.mem_cons_self))
            have h2 : j ∉ ws := fun z => hj (List.mem_append_right _ (List.mem_cons_of_mem _ z))
            have h3 : j ∉ wb := fun z => hj (wl j z)
            rw [set_get_ne h1, k2.2 j h2, set_get_ne h1, k.2 j h3]
          cases e2 : g (ρ'.set i (.ex c ns vs)) with
          | bad => rw [e2] at q; exact q.elim
          | ex _ _ _ _ => rw [e2] at q; exact q.elim
          | ok fl ρ2 =>
            rw [e2] at q
            simp only [Rs.out_ok] at q
            split at q
            · rename_i hn2
              cases fl with
              | nx => exact fun σ2 G2 H2 R2 s2 k2 => q _ G2 H2 (R2.aeN hn2) (s.trans s2) (kk k2)
              | rt d => exact fun v σ2 G2 H2 R2 s2 k2 r2 => q v _ G2 H2 (R2.aeN hn2) (s.trans s2) (kk k2) (by have r3 := Rep.ea (x := T.ea) r2; rwa [eaT_back] at r3)
            · exact q.elim
        · exact q.elim
      · subst ht
        rw [eb] at q
        exact q cls dx σ' G' H' R' s (k.mono wl) xr
/-- try: f except x: g -/
def Rs.out0 (r : Rs Fl) : Rs Fl := match r with
  | .ok fl ρ => if noEx ρ = true then .ok fl ρ else .bad
  | _ => .bad
@[simp] theorem Rs.out0_ok (fl : Fl) (ρ : En) : (Rs.ok fl ρ).out0 = if noEx ρ = true then .ok fl ρ else .bad := rfl
def sTry (hm : Nat → Option Bool) (f g : SF) : SF := fun ρ => match f ρ with
  | .ok fl ρ' => .ok fl ρ'
  | .bad => .bad
  | .ex c ns vs ρ' => (match hm c with
    | some true => g ρ'
    | some false => .ex c ns vs ρ'
    | none => .bad)
theorem j_try {x : Str} {cl : Value} {hm : Nat → Option Bool} {body suite : List Stmt} {b₀ : Stmt} {np pos pos' : Pos} {f g : SF} {wb ws : List Nat} (hK : X.K = T.K) (hc : Names X x cl) (tk : Takes X W)
    (hx : ∀ c b, hm c = some b → PySem.W.exmOne X.K (.ref (T.exc c)) cl = some b)
    (hb : ∀ (W : WX) (pn : List (Addr × Obj)) (xe : Value → Shared → Prop), Takes (X.tr pn xe) W → PassesOwn (model X.prog X.w) X.A X.env xe → JSs (X.tr pn xe) T W wb body f)
    (hsu : ∀ (a : Addr) (oe : Obj) (pn : List (Addr × Obj)), JSs (X.suite a ((a, oe) :: pn)) T WF ws (b₀ :: suite) g)
    (hg : ∀ ρ c ns vs ρ', g ρ ≠ .ex c ns vs ρ')
    (hs : X.stack = X.env :: X.outer := by rfl) (hf : X.env.frame = some X.env.locals := by rfl) :
    JS X T W (wb ++ ws) (.Try body [.ExceptHandler (some (.Name x np)) none (b₀ :: suite) pos'] [] [] pos) (sTry hm f g) := by
  refine ⟨hK, ps_imp (ps_try_only (tb := fun W => tS T W wb f) (ts := fun a cls d => tS T WF ws g) hs hf hc tk (fun W pn xe t p => (hb W pn xe t p).run) (fun a oe cls d pn z v => (hsu a oe pn).run)) fun D σ H ⟨U, G, ρ, R, q⟩ => ⟨U, G, ρ, R, ?_⟩⟩
  unfold sTry at q
  have wl : ∀ j, j ∈ wb → j ∈ wb ++ ws := fun j hj => List.mem_append_left _ hj
  cases e : f ρ with
  | bad => rw [e] at q; exact q.elim
  | ok fl ρ' =>
    rw [e] at q
    cases fl with
    | nx => exact fun σ' G' H' R' s k => q σ' G' H' R' s (k.mono wl)
    | rt d => exact fun v σ' G' H' R' s k => q v σ' G' H' R' s (k.mono wl)
  | ex c ns vs ρ' =>
    rw [e] at q
    dsimp only at q
    intro cls dx σ' G' H' R' s k xr
    have hcls : cls = .ref (T.exc c) := xr.1
    cases eb : hm c with
    | none => rw [eb] at q; exact q.elim
    | some b =>
      refine ⟨b, by rw [hcls]; exact hx c b eb, fun ht a hfa => ?_, fun ht => ?_⟩
      · subst ht
        rw [eb] at q
        dsimp only at q
        refine ⟨U, G', _, R', ?_⟩
        have kk : ∀ {σ2 : L2.St}, Keeps ws σ' σ2 → Keeps (wb ++ ws) σ σ2 := fun {σ2} k2 => (k.mono wl).trans (k2.mono fun j hj => List.mem_append_right _ hj)
        cases e2 : g ρ' with
        | bad => rw [e2] at q; exact q.elim
        | ex _ _ _ _ => exact absurd e2 (hg _ _ _ _ _)
        | ok fl ρ2 =>
          rw [e2] at q
          cases fl with
          | nx => exact fun σ2 G2 H2 R2 s2 k2 => q _ G2 H2 R2 (s.trans s2) (kk k2)
          | rt d => exact fun v σ2 G2 H2 R2 s2 k2 r2 => q v _ G2 H2 R2 (s.trans s2) (kk k2) r2
      · subst ht
        rw [eb] at q
        exact q cls dx σ' G' H' R' s (k.mono wl) xr

/-! ### the caught exception's fields -/
def fget (n : Nat) : List Nat → List D → Option D
  | m :: ms, d :: ds => if m = n then some d else fget n ms ds
  | _, _ => none
theorem fget_ok {T : Tab} {G : Hp} (hinj : ∀ a b, T.fnm a = T.fnm b → a = b) {n : Nat} : ∀ {ns : List Nat} {ds : List D} {fs : List (Str × V)} {d : D}, fs.map (·.1) = ns.map T.fnm → Reps T G (fs.map (·.2)) ds → fget n ns ds = some d → ∃ v, fs.lookup (T.fnm n) = some v ∧ Rep T G v d
  | [], _, _, _, _, _, h => by cases h
  | m :: ms, [], _, _, _, _, h => by cases h
  | m :: ms, d' :: ds, [], _, h1, _, _ => by cases h1
  | m :: ms, d' :: ds, (k, v) :: fs, d, h1, h2, h3 => by
    simp only [List.map_cons, List.cons.injEq] at h1
    obtain ⟨y, r, e, a, b⟩ := h2
    simp only [List.map_cons, List.cons.injEq] at e
    obtain ⟨rfl, rfl⟩ := e
    simp only [fget] at h3
    split at h3
    · rename_i hm
      cases h3
      subst hm
      refine ⟨v, ?_, a⟩
      rw [← h1.1]
      simp [List.lookup]
    · rename_i hm
      obtain ⟨u, l, r⟩ := fget_ok hinj h1.2 b h3
      refine ⟨u, ?_, r⟩
      have hne : (T.fnm n == k) = false := by
        rw [h1.1]
        exact beq_false_of_ne fun z => hm (hinj _ _ z).symm
      simp only [List.lookup, hne]
      exact l
def eXf (i n : Nat) (ok : Nat → Bool) : EF := fun ρ => match ρ[i]? with
  | some (.ex c ns vs) => if ok c = true then opt (fget n ns vs) ρ else .bad
  | _ => .bad
theorem j_xf {i n : Nat} {ok : Nat → Bool} {a : Addr} {oe : Obj} {cls : Value} {d : Option Addr} {pn : List (Addr × Obj)} {x f : Str} {p pos : Pos} (hk : X.K = T.K) (hinj : ∀ a b, T.fnm a = T.fnm b → a = b) (hfn : T.fnm n = f)
    (hok : ∀ c, ok c = true → XfC X.K (T.exc c) ∧ PySem.W.findIn X.K (.ref (T.exc c)) f = some none) (hz : Zc cls d oe) (hf : ∃ vs, oe.data = .fields vs) (hN : X.N[i]? = some x := by rfl) (hv : Vis X.env.scope x := by first | exact Or.inl rfl | exact Or.inr (Or.inl rfl) | exact Or.inr (Or.inr rfl)) (hd : (x == ("__debug__" : Str)) = false := by decide)
    (hcd : (x == ("__classdict__" : Str)) = false := by decide) (hb : attributeBase (.Name x p) f X.env (eval (.Name x p) X.env) = eval (.Name x p) X.env := by rfl) :
    JE (X.suite a ((a, oe) :: pn)) (eaT T (some (a, cls, d))) W (.Attribute (.Name x p) f pos) (eXf i n ok) := by
  refine ⟨hk, ⟨fun pins s σ H Q I q => ?_⟩⟩
  obtain ⟨U, G, ρ, R, q⟩ := q
  unfold eXf at q
  split at q
  · rename_i c ns vs e
    split at q
    · rename_i hc
      obtain ⟨d1, e1, q⟩ := Pst.opt q
      obtain ⟨a1, cls1, dx1, h1, h2, h3⟩ := R.exn i c ns vs e
      cases h2
      obtain ⟨h3, h4⟩ := h3
      obtain ⟨g1, g2⟩ := hok c hc
      refine (pe_xf (X := X) (C := T.exc c) (te := tVar i) g1 g2 hz hf (pe_var hN hv hd hcd) hb).run pins s σ H Q I ?_
      cases d with
      | none => obtain ⟨rfl, rfl⟩ := h4; cases e1
      | some dd =>
        obtain ⟨fs, h5, h6, h7⟩ := h4
        obtain ⟨v, l, r⟩ := fget_ok (T := eaT T (some (a, cls, some dd))) hinj h6 h7 e1
        exact ⟨_, h1, rfl, h3, dd, fs, v, rfl, R.same _ _ h5, by rw [← hfn]; exact l, q G H R (L2.Same.refl _) v r⟩
    · exact q.elim
  · exact q.elim
end
end J

set_option Elab.async false
set_option linter.all false
set_option maxRecDepth 100000
set_option maxHeartbeats 4000000
namespace J
open PySem PySem.Spec PyProof.Rows L2

section
variable {X : Cx} {T : Tab} {W : WX} {tg : Expr}
/-! ### an owned slot is hidden while its list is walked -/
theorem Rel.hide {U G H : Hp} {σ : L2.St} {ρ : En} {i : Nat} {d : D} (R : Rel T U G H σ ρ) (h : ρ[i]? = some (.ow d)) : ∃ p o, σ[i]? = some (some (.ref p)) ∧ H p = some o ∧ RepO T G o d ∧ U p = none ∧ Rel T (upd U p o) G H σ (ρ.set i .no) := by
  obtain ⟨p, o, e, g, u, hh, r⟩ := R.ow i d h
  refine ⟨p, o, e, hh, r, u, ?_⟩
  have R1 := R.setNo (i := i)
  refine ⟨R1.same, R1.len, R1.sh, fun j e' h' => ?_, R1.dist, fun a q z => ?_, R1.exn⟩
  · obtain ⟨a, q, e1, g1, u1, h1, r1⟩ := R1.ow j e' h'
    refine ⟨a, q, e1, g1, ?_, h1, r1⟩
    have ne : a ≠ p := fun z => by
      subst z
      rcases get_set h' with ⟨_, z⟩ | ⟨hj, h'⟩
      · cases z
      · exact hj (R.dist j i e' d a h' h e1 e)
    rw [upd_ne ne]; exact u1
  · by_cases ha : a = p
    · subst ha; rw [upd_same] at z; cases z; exact ⟨hh, g⟩
    · rw [upd_ne ha] at z; exact R1.out a q z
theorem Rel.unhide {U G H : Hp} {σ : L2.St} {ρ : En} {i : Nat} {d : D} {p : Addr} {o : HO} (R : Rel T (upd U p o) G H σ ρ) (hU : U p = none) (hσ : σ[i]? = some (some (.ref p))) (r : RepO T G o d) (hl : i < ρ.length) : Rel T U G H σ (ρ.set i (.ow d)) := by
  obtain ⟨hh, g⟩ := R.out p o upd_same
  have eU : unheld (upd U p o) p = U := by
    funext b
    by_cases hb : b = p
    · subst hb; rw [unheld_same, hU]
    · rw [unheld_ne hb, upd_ne hb]
  have R1 : Rel T U G H σ ρ := eU ▸ R.unhold (p := p)
  have R2 := R1.setOw (i := i) hU g hh r fun j e h1 h2 => by
    obtain ⟨a, q, e1, _, u, _⟩ := R.ow j e h1
    rw [h2] at e1
    cases e1
    rw [upd_same] at u
    cases u
  have es : σ.set i (some (.ref p)) = σ := by
    apply List.ext_getElem?
    intro j
    by_cases hj : j = i
    · subst hj
      rw [set_get_same (by exact (List.getElem?_eq_some_iff.mp hσ).1), hσ]
    · rw [set_get_ne hj]
  rwa [es] at R2
def ownL (ρ : En) (i : Nat) : Option (List D) := match (ρ[i]? : Option Sl) with
  | some (Sl.ow (D.lst ds)) => some ds
  | _ => none
theorem ownL_ok {ρ : En} {i : Nat} {ds : List D} (h : ownL ρ i = some ds) : ρ[i]? = some (.ow (.lst ds)) := by
  unfold ownL at h
  split at h
  · rename_i e; cases h; exact e
  · cases h
/-- [elt for tg in xs if t], xs an owned list -/
def eLcOwn (i : Nat) (b : BF) (vs : List Nat) (t : TF) (f : EF) : EF := fun ρ => match ownL ρ i with
  | some ds => if noOw (ρ.set i .no) vs = true then (lcS b vs t f ds [] (ρ.set i .no)).bnd fun d ρ' => .ok d (ρ'.set i (.ow (.lst ds))) else .bad
  | none => .bad
theorem lcOwn_red {i : Nat} {own : List (Str × Nat)} {b : BF} {wb : List Nat} {t : TF} {f : EF} {σ : L2.St} {H : Hp} {Q : VK} (hwb : ∀ j, j ∈ wb → j ∈ own.map (·.2))
    (q : tO T W (eLcOwn i b (own.map (·.2)) t f) σ H Q) : tLc (iSeqJ T.K (tVar i)) (tG T wb b) (tT T WF t) (tE T WF f) (own.map (·.2)) σ H Q := by
  obtain ⟨U, G, ρ, R, q⟩ := q
  unfold eLcOwn at q
  cases e : ownL ρ i with
  | none => rw [e] at q; exact q.elim
  | some ds =>
    rw [e] at q
    dsimp only at q
    obtain ⟨p, o, eσ, hh, r, hU, R1⟩ := R.hide (ownL_ok e)
    obtain ⟨xs, rfl, rs⟩ := r
    refine ⟨_, eσ, .inl ⟨p, xs, rfl, .of hh, fun hl => ?_⟩⟩
    cases e2 : noOw (ρ.set i .no) (own.map (·.2)) with
    | false => rw [e2] at q; exact q.elim
    | true =>
      rw [e2, if_pos rfl] at q
      have key : Pst T (upd U p (.lst xs)) σ G (lcS b (own.map (·.2)) t f ds [] (ρ.set i .no)) (fun d G' H' ρ' => ∀ p2 o2, G' p2 = none → (upd U p (.lst xs)) p2 = none → H' p2 = some o2 → RepO T G' o2 d → (∀ (j : Nat) (d : D), ρ'[j]? = some (.ow d) → σ[j]? ≠ some (some (.ref p2))) → Q (.ref p2) H') WF := by
        cases e3 : lcS b (own.map (·.2)) t f ds [] (ρ.set i .no) with
        | ok d ρ' =>
          rw [e3] at q
          intro G' H' R' s p2 o2 g2 u2 h2 r2 n2
          have hne : p2 ≠ p := fun z => by subst z; rw [upd_same] at u2; cases u2
          have hlt : i < ρ'.length := by
            rw [← R'.len]; exact (List.getElem?_eq_some_iff.mp eσ).1
          have R2 := R'.unhide hU eσ (d := .lst ds) ⟨xs, rfl, rs.mono s⟩ hlt
          refine q G' H' R2 s p2 o2 g2 (by rw [upd_ne hne] at u2; exact u2) h2 r2 fun j d' h3 => ?_
          rcases get_set h3 with ⟨rfl, z⟩ | ⟨hj, h3⟩
          · rw [eσ]; intro z2; cases z2; exact hne rfl
          · exact n2 j d' h3
        | ex c ns vs ρ' => exact absurd e3 (lcS_nox _ _ _ _ _ _ _)
        | bad => rw [e3] at q; exact q.elim
      exact lc_coreJ (P := fun U' => U' p = some (.lst xs)) (U := upd U p (.lst xs)) (fun U' h hP => hP _ _ upd_same) upd_same (yl_own (rs.length ▸ hl) rs) R1 e2 hwb key

theorem j_lcOwn {elt : Expr} {x : Str} {p : Pos} {ifs : List Expr} {scope : Scope} {own : List (Str × Nat)} {pos : Pos} {i : Nat} {b : BF} {wb : List Nat} {t : TF} {f : EF} (hK : X.K = T.K) (hc : X.calm = true) (hN : X.N.Nodup) (hx : X.N[i]? = some x) (ok : BlkOk X.N X.env.scope scope own) (hwb : ∀ j, j ∈ wb → j ∈ own.map (·.2))
    (hg : ∀ (s : Shared) (H : Hp) (C : Addr) (cl : List (Str × Addr)) (fp : List Addr), JG (X.blk s H scope (compEnvC scope cl C X.env) fp) T wb tg b)
    (ht : ∀ (s : Shared) (H : Hp) (C : Addr) (cl : List (Str × Addr)) (fp : List Addr), PTs (X.blk s H scope (compEnvC scope cl C X.env) fp) ifs (tT T WF t))
    (he : ∀ (s : Shared) (H : Hp) (C : Addr) (cl : List (Str × Addr)) (fp : List Addr), JE (X.blk s H scope (compEnvC scope cl C X.env) fp) T WF elt f) (hv : Vis X.env.scope x := by first | exact Or.inl rfl | exact Or.inr (Or.inl rfl) | exact Or.inr (Or.inr rfl)) (hd : (x == ("__debug__" : Str)) = false := by decide)
    (hcd : (x == ("__classdict__" : Str)) = false := by decide) (hs : ∀ y, foldedSetIterable (.Name x p) X.env y = pure y := by intro _; rfl) :
    JO X T W (.ListComp elt [⟨tg, .Name x p, ifs, 0⟩] scope pos) (eLcOwn i b (own.map (·.2)) t f) :=
  ⟨hK, pe_imp (pe_lc hc hN (pi_seqJ (pe_var hx hv hd hcd)) ok (fun s H C cl fp => (hg s H C cl fp).run) ht (fun s H C cl fp => (he s H C cl fp).run) hs) fun σ H Q q => hK ▸ lcOwn_red hwb q⟩
/-- for tg in xs: .., xs an owned list that the body leaves alone -/
def sForOwn (i : Nat) (b : BF) (body : SF) : SF := fun ρ => match ownL ρ i with
  | some ds => (match forS b body ds (ρ.set i .no) with
    | .ok .nx ρ' => .ok .nx (ρ'.set i (.ow (.lst ds)))
    | .ok (.rt d) ρ' => .ok (.rt d) (ρ'.set i (.ow (.lst ds)))
    | .ex c ns vs ρ' => .ex c ns vs (ρ'.set i (.ow (.lst ds)))
    | .bad => .bad)
  | none => .bad
theorem j_forOwn {x : Str} {p : Pos} {i : Nat} {body : List Stmt} {pos : Pos} {b : BF} {g : SF} {wb ws : List Nat} (hK : X.K = T.K) (hp : PassesOwn (model X.prog X.w) X.A X.env X.xe) (hc : X.calm = true) (hx : X.N[i]? = some x) (hg : JG X T wb tg b) (hb : JSs X T W ws body g) (hi : i ∉ wb ++ ws)
    (hv : Vis X.env.scope x := by first | exact Or.inl rfl | exact Or.inr (Or.inl rfl) | exact Or.inr (Or.inr rfl)) (hd : (x == ("__debug__" : Str)) = false := by decide)
    (hcd : (x == ("__classdict__" : Str)) = false := by decide) (hs : ∀ y, foldedSetIterable (.Name x p) X.env y = pure y := by intro _; rfl) : JS X T W (wb ++ ws) (.For tg (.Name x p) body [] pos) (sForOwn i b g) := by
  refine ⟨hK, ps_imp (ps_for hp hc (pi_seqJ (pe_var hx hv hd hcd)) hg.run hb.run hs) fun D σ H ⟨U, G, ρ, R, q⟩ => ?_⟩
  unfold sForOwn at q
  cases e : ownL ρ i with
  | none => rw [e] at q; exact q.elim
  | some ds =>
    rw [e] at q
    dsimp only at q
    obtain ⟨p, o, eσ, hh, r, hU, R1⟩ := R.hide (ownL_ok e)
    obtain ⟨xs, rfl, rs⟩ := r
    refine ⟨_, eσ, .inl ⟨p, xs, rfl, .of hh, fun hl => ?_⟩⟩
    have key : PstS T W (wb ++ ws) D (upd U p (.lst xs)) σ G (forS b g ds (ρ.set i .no)) := by
      have back : ∀ {σ' : L2.St} {G' H' : Hp} {ρ' : En}, Rel T (upd U p (.lst xs)) G' H' σ' ρ' → L2.Same G G' → Keeps (wb ++ ws) σ σ' → Rel T U G' H' σ' (ρ'.set i (.ow (.lst ds))) := fun {σ' G' H' ρ'} R' s k => by
        have e2 : σ'[i]? = some (some (.ref p)) := by rw [k.2 i hi, eσ]
        exact R'.unhide hU e2 (d := .lst ds) ⟨xs, rfl, rs.mono s⟩ (by rw [← R'.len]; exact (List.getElem?_eq_some_iff.mp e2).1)
      cases e3 : forS b g ds (ρ.set i .no) with
      | ok a ρ' =>
        rw [e3] at q
        cases a with
        | nx => exact fun σ' G' H' R' s k => q σ' G' H' (back R' s k) s k
        | rt d => exact fun v σ' G' H' R' s k r => q v σ' G' H' (back R' s k) s k r
      | ex c ns vs ρ' => rw [e3] at q; exact fun cls dx σ' G' H' R' s k x => q cls dx σ' G' H' (back R' s k) s k x
      | bad => rw [e3] at q; exact q.elim
    rw [hK]
    exact for_core (P := fun U' => U' p = some (.lst xs)) upd_same (yl_own (rs.length ▸ hl) rs) R1 key

/-! ### methods that change an owned list -/
/-- x.m(..), x an owned list: g gives the value and the new list -/
def MOk (X : Cx) (T : Tab) (id : String) (g : List D → List D → Option (D × List D)) : Prop :=
  ∃ r : V → List V → Hp → VK → Prop, MtR X id r ∧ ∀ (U G H : Hp) (σ : L2.St) (ρ : En) (p : Addr) (xs vs : List V) (ds as : List D) (d : D) (ds' : List D) (Q : VK), Rel T U G H σ ρ → H p = some (.lst xs) → G p = none → Reps T G xs ds → Reps T G vs as → g ds as = some (d, ds') →
    (∀ v xs', Rep T G v d → Reps T G xs' ds' → Q v (upd H p (.lst xs'))) → r (.ref p) vs H Q
def eMeth (i : Nat) (g : List D → List D → Option (D × List D)) (f : AF) : EF := fun ρ => match ownL ρ i with
  | some _ => (f ρ).bnd fun as ρ' => (match ownL ρ' i, vals as with
    | some ds, some ys => (match g ds ys with
      | some (d, ds') => .ok d (ρ'.set i (.ow (.lst ds')))
      | none => .bad)
    | _, _ => .bad)
  | none => .bad
theorem j_meth {i : Nat} {x m : Str} {id : String} {g : List D → List D → Option (D × List D)} {f : AF} {e : Expr} {es : List Expr} {p apos cpos : Pos} (hM : MOk X T id g) (slot : Slot "list" m id) (hty : typeOf (.builtin id) = pure (.type "method_descriptor")) (ha : JA X T W (e :: es) f) (hN : X.N[i]? = some x)
    (hv : Vis X.env.scope x := by first | exact Or.inl rfl | exact Or.inr (Or.inl rfl) | exact Or.inr (Or.inr rfl)) (hd : (x == ("__debug__" : Str)) = false := by decide)
    (hcd : (x == ("__classdict__" : Str)) = false := by decide) (hbase : attributeBase (.Name x p) m X.env (eval (.Name x p) X.env) = eval (.Name x p) X.env := by rfl)
    (hfew : ((backTo cpos (starEach (e :: es) X.env)).all (fun x => !x.1) && (backToKw cpos (keywordEach [] X.env)).all (fun x => x.1.isSome)
      && decide ((e :: es).length + ([] : List Keyword).length + (if ([] : List Keyword).isEmpty then 0 else 1) < 30)) = true := by rfl)
    (hline : (apos.endLine == cpos.line) = true := by rfl) (hs : starEach (e :: es) X.env = (false, eval e X.env) :: starEach es X.env := by rfl) (hplain : (backTo cpos (starEach es X.env)).any (·.1) = false := by rfl) :
    JE X T W (.Call (.Attribute (.Name x p) m apos) (e :: es) [] cpos) (eMeth i g f) := by
  obtain ⟨r, hr, hM⟩ := hM
  refine ⟨ha.k, pe_imp (pe_bm PySem.F.plainAttrs_list slot hty hr (pe_var hN hv hd hcd) ha.run hbase hfew hline hs hplain) fun σ H Q ⟨U, G, ρ, R, q⟩ => ?_⟩
  unfold eMeth at q
  cases e1 : ownL ρ i with
  | none => rw [e1] at q; exact q.elim
  | some ds0 =>
    rw [e1] at q
    dsimp only at q
    obtain ⟨p, o, eσ, g0, u0, hh, r0⟩ := R.ow i _ (ownL_ok e1)
    obtain ⟨xs0, rfl, _⟩ := r0
    refine ⟨_, eσ, .inl ⟨rfl, xs0, .of hh⟩, U, G, ρ, R, (Pst.bnd q).mono (L2.Same.refl _) fun as G1 H1 ρ1 _ ⟨R1, s1, p1⟩ vs avs => ?_⟩
    split at p1
    · rename_i ds ys e2 e3
      split at p1
      · rename_i d ds' e4
        obtain ⟨p', o', eσ', g1, u1, hh1, r1⟩ := R1.ow i _ (ownL_ok e2)
        rw [eσ] at eσ'
        cases eσ'
        obtain ⟨xs, rfl, rs⟩ := r1
        refine hM U G1 H1 σ ρ1 p xs vs ds ys d ds' Q R1 hh1 g1 rs (vals_ok avs e3) e4 fun v xs' rv rx => ?_
        exact p1 G1 _ (R1.put (ownL_ok e2) eσ (d' := .lst ds') ⟨xs', rfl, rx⟩) (L2.Same.refl _) v rv
      · exact p1.elim
    · exact p1.elim
/-- x.m() -/
theorem j_meth0 {i : Nat} {x m : Str} {id : String} {g : List D → List D → Option (D × List D)} {p apos cpos : Pos} (hK : X.K = T.K) (hM : MOk X T id g) (slot : Slot "list" m id) (hty : typeOf (.builtin id) = pure (.type "method_descriptor")) (hN : X.N[i]? = some x)
    (hv : Vis X.env.scope x := by first | exact Or.inl rfl | exact Or.inr (Or.inl rfl) | exact Or.inr (Or.inr rfl)) (hd : (x == ("__debug__" : Str)) = false := by decide)
    (hcd : (x == ("__classdict__" : Str)) = false := by decide) (hbase : attributeBase (.Name x p) m X.env (eval (.Name x p) X.env) = eval (.Name x p) X.env := by rfl)
    (hline : (apos.endLine == cpos.line) = true := by rfl) :
    JE X T W (.Call (.Attribute (.Name x p) m apos) [] [] cpos) (eMeth i g aNil) := by
  obtain ⟨r, hr, hM⟩ := hM
  refine ⟨hK, pe_imp (pe_bm0 PySem.F.plainAttrs_list slot hty hr (pe_var hN hv hd hcd) hbase hline) fun σ H Q ⟨U, G, ρ, R, q⟩ => ?_⟩
  unfold eMeth at q
  cases e1 : ownL ρ i with
  | none => rw [e1] at q; exact q.elim
  | some ds0 =>
    rw [e1] at q
    simp only [aNil, Rs.bnd_ok, e1, vals_nil] at q
    split at q
    · rename_i d ds' e4
      obtain ⟨p', o', eσ, g1, u1, hh1, r1⟩ := R.ow i _ (ownL_ok e1)
      obtain ⟨xs, rfl, rs⟩ := r1
      refine ⟨_, eσ, .inl ⟨rfl, xs, .of hh1⟩, hM U G H σ ρ p' xs [] ds0 [] d ds' Q R hh1 g1 rs rfl e4 fun v xs' rv rx => ?_⟩
      exact q G _ (R.put (ownL_ok e1) eσ (d' := .lst ds') ⟨xs', rfl, rx⟩) (L2.Same.refl _) v rv
    · exact q.elim
def appD (ds as : List D) : Option (D × List D) := match as with
  | [y] => if ds.length < sizeLine then some (.non, ds ++ [y]) else none
  | _ => none
theorem append_J : MOk X T "list.append" appD := by
  refine ⟨_, mt_append, fun U G H σ ρ p xs vs ds as d ds' Q R hh hg rx ra e q => ?_⟩
  unfold appD at e
  split at e
  · rename_i y
    split at e
    · rename_i hl
      cases e
      obtain ⟨v, r, rfl, rv, hr⟩ := ra
      cases hr
      exact ⟨p, xs, v, rfl, rfl, hh, by rw [rx.length]; exact hl, q _ _ rfl (rx.app (.one rv))⟩
    · cases e
  · cases e
def extD (ds as : List D) : Option (D × List D) := match as with
  | [.lst ys] => if ds.length + ys.length ≤ sizeLine then some (.non, ds ++ ys) else none
  | _ => none
theorem extend_J : MOk X T "list.extend" extD := by
  refine ⟨_, mt_extend, fun U G H σ ρ p xs vs ds as d ds' Q R hh hg rx ra e q => ?_⟩
  unfold extD at e
  split at e
  · rename_i ys
    split at e
    · rename_i hl
      cases e
      obtain ⟨v, r, rfl, rv, hr⟩ := ra
      cases hr
      obtain ⟨b, zs, rfl, hb, rz⟩ := rv
      exact ⟨p, b, xs, zs, rfl, rfl, hh, R.same _ _ hb, by rw [rx.length, rz.length]; exact hl, q _ _ rfl (rx.app rz)⟩
    · cases e
  · cases e
def insD (ds as : List D) : Option (D × List D) := match as with
  | [.int i, y] => if ds.length < sizeLine ∧ 0 ≤ i ∧ i < 2 ^ 63 then some (.non, ds.take i.toNat ++ [y] ++ ds.drop i.toNat) else none
  | _ => none
theorem insert_J : MOk X T "list.insert" insD := by
  refine ⟨_, mt_insert, fun U G H σ ρ p xs vs ds as d ds' Q R hh hg rx ra e q => ?_⟩
  unfold insD at e
  split at e
  · rename_i i y
    split at e
    · rename_i hl
      cases e
      obtain ⟨v, r, rfl, rv, v2, r2, rfl, rv2, hr⟩ := ra
      cases hr
      exact ⟨p, xs, i, v2, rfl, by rw [show v = V.int i from rv], hh, by rw [rx.length]; exact hl.1, hl.2.1, hl.2.2, q _ _ rfl (((rx.take _).app (.one rv2)).app (rx.drop _))⟩
    · cases e
  · cases e
def popD (ds as : List D) : Option (D × List D) := match as with
  | [] => (ds[ds.length - 1]?).map fun y => (y, ds.dropLast)
  | _ => none
theorem Reps.dropLast {G : Hp} {xs : List V} {ds : List D} (r : Reps T G xs ds) : Reps T G xs.dropLast ds.dropLast := by
  rw [List.dropLast_eq_take, List.dropLast_eq_take, r.length]
  exact r.take _
theorem pop_J : MOk X T "list.pop" popD := by
  refine ⟨_, mt_pop, fun U G H σ ρ p xs vs ds as d ds' Q R hh hg rx ra e q => ?_⟩
  unfold popD at e
  split at e
  · cases ra
    cases e2 : ds[ds.length - 1]? with
    | none => rw [e2] at e; cases e
    | some y =>
      rw [e2] at e
      cases e
      obtain ⟨v, h1, rv⟩ := rx.getD e2
      rw [← rx.length] at h1
      exact ⟨p, xs, v, rfl, rfl, hh, h1, q _ _ rv rx.dropLast⟩
  · cases e

/-! ### xs[k] = e -/
def sSub (i : Nat) (f : EF) (h : En → Rs Ar) : SF := fun ρ => (f ρ).bnd fun d ρ1 => match ownL ρ1 i with
  | some _ => (h ρ1).bnd fun a ρ2 => (match ownL ρ2 i, look ρ2 a with
    | some ds, some (.int k) => (match ixN ds.length k with
      | some j => .ok .nx (ρ2.set i (.ow (.lst (ds.set j d))))
      | none => .bad)
    | _, _ => .bad)
  | none => .bad
theorem j_sub_store {i : Nat} {x : Str} {e k : Expr} {f : EF} {h : En → Rs Ar} {p pos pos' : Pos} (he : JE X T W e f) (hk : JR X T W k h) (hN : X.N[i]? = some x) (hs : swapsWithSole [.Subscript (.Name x p) k pos'] e pos.line X.env = pure false := by rfl) (hw : swappedStores [.Subscript (.Name x p) k pos'] e X.env = pure none := by rfl)
    (hv : Vis X.env.scope x := by first | exact Or.inl rfl | exact Or.inr (Or.inl rfl) | exact Or.inr (Or.inr rfl)) (hd : (x == ("__debug__" : Str)) = false := by decide)
    (hcd : (x == ("__classdict__" : Str)) = false := by decide) (h1 : (assignEach [.Subscript (.Name x p) k pos'] X.env).map (·.2) = [assign (.Subscript (.Name x p) k pos') X.env] := by rfl)
    (ha : ∀ v, assign (.Subscript (.Name x p) k pos') X.env v = (do
      let ov ← holding [v] (eval (.Name x p) X.env)
      let iv ← holding [v, ov] (eval k X.env)
      standAt pos'
      holding [v, ov, iv] (setItem ov iv v)
      release [v, ov, iv] []) := by intro _; rfl) : JS X T W [] (.Assign [.Subscript (.Name x p) k pos'] e pos) (sSub i f h) := by
  refine ⟨he.k, ps_imp (ps_asg he.run (pg_sub (pe_var hN hv hd hcd) hk.run set_list ha) hs hw h1) fun D σ H ⟨U, G, ρ, R, q⟩ => ⟨U, G, ρ, R, ?_⟩⟩
  refine (PstS.bndE q).mono (L2.Same.refl _) fun d G1 H1 ρ1 _ ⟨R1, s1, p1⟩ v rv => ?_
  cases e1 : ownL ρ1 i with
  | none => rw [e1] at p1; exact p1.elim
  | some ds0 =>
    rw [e1] at p1
    dsimp only at p1
    obtain ⟨p, o, eσ, g0, u0, hh, r0⟩ := R1.ow i _ (ownL_ok e1)
    refine ⟨_, eσ, U, G1, ρ1, R1, (PstS.bndE p1).mono (L2.Same.refl _) fun a G2 H2 ρ2 _ ⟨R2, s2, p2⟩ u au => ?_⟩
    split at p2
    · rename_i ds k e2 e3
      split at p2
      · rename_i j e4
        obtain ⟨p', o', eσ', g1, u1, hh1, r1⟩ := R2.ow i _ (ownL_ok e2)
        rw [eσ] at eσ'
        cases eσ'
        obtain ⟨xs, rfl, rs⟩ := r1
        have hu : u = .int k := (look_ok R2 au e3).int
        refine ⟨p, xs, k, j, rfl, hu, hh1, by rw [rs.length]; exact e4, ?_⟩
        exact p2 σ G2 _ (R2.put (ownL_ok e2) eσ (d' := .lst (ds.set j d)) ⟨_, rfl, rs.set (rv.mono s2) j⟩) (L2.Same.refl _) (Keeps.refl _ _)
      · exact p2.elim
    · exact p2.elim
end

/-! ### a, b = x, y -/
section
variable {X : Cx} {T : Tab} {W : WX}
def sPar (i j : Nat) (f : AF) : SF := fun ρ => (f ρ).bnd fun as ρ' => match vals as with
  | some [x, y] => .ok .nx ((ρ'.set i (.sh x)).set j (.sh y))
  | _ => .bad
theorem j_par {i j : Nat} {x y : Str} {a b : Expr} {f : AF} {px py pt pos : Pos} {kt k2 pt2} (hc : X.calm = true) (hN : X.N.Nodup) (ha : JA X T W [a, b] f) (hij : i ≠ j := by decide) (hi : X.N[i]? = some x := by rfl) (hj : X.N[j]? = some y := by rfl)
    (hx : X.env.scope.names.lookup x = some .local := by rfl) (hy : X.env.scope.names.lookup y = some .local := by rfl)
    (hw : swappedStores [.Tuple [.Name x px, .Name y py] kt pt] (.Tuple [a, b] k2 pt2) X.env = pure (some [x, y]) := by rfl)
    (hs : swapsWithSole [.Tuple [.Name x px, .Name y py] kt pt] (.Tuple [a, b] k2 pt2) pos.line X.env = pure false := by rfl) :
    JS X T W [i, j] (.Assign [.Tuple [.Name x px, .Name y py] kt pt] (.Tuple [a, b] k2 pt2) pos) (sPar i j f) := by
  refine ⟨ha.k, ps_imp (ps_par hc hN hi hj hij hx hy ha.run hw hs) fun D σ H ⟨U, G, ρ, R, q⟩ => ⟨U, G, ρ, R, ?_⟩⟩
  refine (PstS.bndE q).mono (L2.Same.refl _) fun as G1 H1 ρ1 _ ⟨R1, s1, p1⟩ vs avs => ?_
  split at p1
  · rename_i d1 d2 e
    obtain ⟨v1, r, rfl, r1, v2, r', rfl, r2, hr⟩ := vals_ok avs e
    cases hr
    exact ⟨v1, v2, rfl, p1 _ G1 H1 ((R1.setSh r1).setSh r2) (L2.Same.refl _) ((Keeps.set.mono (by simp)).trans (Keeps.set.mono (by simp)))⟩
  · exact p1.elim
end
end J

set_option Elab.async false
set_option linter.all false
set_option maxRecDepth 100000
set_option maxHeartbeats 4000000
namespace J
open PySem PySem.Spec PyProof.Rows L2

/-- the built-in names that the text leaves alone -/
structure NoB (mg : Str → Option Value) : Prop where
  len : mg "len" = none
  abs : mg "abs" = none
  int : mg "int" = none
  tuple : mg "tuple" = none
  list : mg "list" = none
  sum : mg "sum" = none
  max : mg "max" = none
  min : mg "min" = none
  any : mg "any" = none
  all : mg "all" = none
  range : mg "range" = none
  isi : mg "isinstance" = none
  str : mg "str" = none
  bool : mg "bool" = none
  sorted : mg "sorted" = none
  set : mg "set" = none
  dict : mg "dict" = none
  enumerate : mg "enumerate" = none
  zip : mg "zip" = none
  repr : mg "repr" = none
theorem Room.u {k : Nat} {A : Around} (r : Room k A) : A.units + 65 < cLine := by have := r.un; omega
theorem Room.u4 {k : Nat} {A : Around} (r : Room k A) : A.units + 64 < cLine := by have := r.un; omega
theorem u4 {A : Around} (r : A.units + 65 < cLine) : A.units + 64 < cLine := by omega

section
variable {X : Cx} {T : Tab} {W : WX} {e : Expr} {es : List Expr} {f : AF} {p pos : Pos}
theorem jAbs (ha : JA X T W [e] f) (B : NoB X.mg) (hgl : Gl X "abs" := by rfl) (he : starEach [e] X.env = (false, eval e X.env) :: starEach [] X.env := by rfl) : JE X T W (.Call (.Name "abs" p) [e] [] pos) (eCallB (on1 absD) f) := j_callB call_abs abs_J ha B.abs (by decide +kernel) hgl (by decide) (by decide) he (by rfl)
theorem jInt (ha : JA X T W [e] f) (B : NoB X.mg) (hgl : Gl X "int" := by rfl) (he : starEach [e] X.env = (false, eval e X.env) :: starEach [] X.env := by rfl) : JE X T W (.Call (.Name "int" p) [e] [] pos) (eCallB (on1 intD) f) := j_callT call_int1 int_J ha B.int (by decide +kernel) hgl (by decide) (by decide) he (by rfl)
theorem jTuple (ha : JA X T W [e] f) (B : NoB X.mg) (hgl : Gl X "tuple" := by rfl) (he : starEach [e] X.env = (false, eval e X.env) :: starEach [] X.env := by rfl) : JE X T W (.Call (.Name "tuple" p) [e] [] pos) (eCallB (on1 tupD) f) := j_callT call_tuple_of (tup_J ha.k) ha B.tuple (by decide +kernel) hgl (by decide) (by decide) he (by rfl)
theorem jListO (ha : JA X T W [e] f) (B : NoB X.mg) (hgl : Gl X "list" := by rfl) (he : starEach [e] X.env = (false, eval e X.env) :: starEach [] X.env := by rfl) : JO X T W (.Call (.Name "list" p) [e] [] pos) (eCallB (on1 lstD) f) := j_callTO call_list_of (lst_J ha.k) ha B.list (by decide +kernel) hgl (by decide) (by decide) he (by rfl)
theorem jLen (ha : JA X T W [e] f) (B : NoB X.mg) (hgl : Gl X "len" := by rfl) (he : starEach [e] X.env = (false, eval e X.env) :: starEach [] X.env := by rfl) : JE X T W (.Call (.Name "len" p) [e] [] pos) (eCallB (on1 lenD) f) := j_callB (CallR.or call_len call_lenR) (len_J ha.k) ha B.len (by decide +kernel) hgl (by decide) (by decide) he (by rfl)
theorem jSum (hc : X.calm = true) (ha : JA X T W [e] f) (B : NoB X.mg) (hgl : Gl X "sum" := by rfl) (he : starEach [e] X.env = (false, eval e X.env) :: starEach [] X.env := by rfl) : JE X T W (.Call (.Name "sum" p) [e] [] pos) (eCallB (on1 sumD) f) := j_callB (cr_sum hc) (sum_J ha.k) ha B.sum (by decide +kernel) hgl (by decide) (by decide) he (by rfl)
theorem jMax (hc : X.calm = true) (ha : JA X T W [e] f) (B : NoB X.mg) (hgl : Gl X "max" := by rfl) (he : starEach [e] X.env = (false, eval e X.env) :: starEach [] X.env := by rfl) : JE X T W (.Call (.Name "max" p) [e] [] pos) (eCallB (on1 maxD) f) := j_callB (cr_max hc) (max_J ha.k) ha B.max (by decide +kernel) hgl (by decide) (by decide) he (by rfl)
theorem jMin (hc : X.calm = true) (ha : JA X T W [e] f) (B : NoB X.mg) (hgl : Gl X "min" := by rfl) (he : starEach [e] X.env = (false, eval e X.env) :: starEach [] X.env := by rfl) : JE X T W (.Call (.Name "min" p) [e] [] pos) (eCallB (on1 minD) f) := j_callB (cr_min hc) (min_J ha.k) ha B.min (by decide +kernel) hgl (by decide) (by decide) he (by rfl)
theorem jAny (hc : X.calm = true) (ha : JA X T W [e] f) (B : NoB X.mg) (hgl : Gl X "any" := by rfl) (he : starEach [e] X.env = (false, eval e X.env) :: starEach [] X.env := by rfl) : JE X T W (.Call (.Name "any" p) [e] [] pos) (eCallB (on1 anyD) f) := j_callB (cr_any hc) (any_J ha.k) ha B.any (by decide +kernel) hgl (by decide) (by decide) he (by rfl)
theorem jAll (hc : X.calm = true) (ha : JA X T W [e] f) (B : NoB X.mg) (hgl : Gl X "all" := by rfl) (he : starEach [e] X.env = (false, eval e X.env) :: starEach [] X.env := by rfl) : JE X T W (.Call (.Name "all" p) [e] [] pos) (eCallB (on1 allD) f) := j_callB (cr_all hc) (all_J ha.k) ha B.all (by decide +kernel) hgl (by decide) (by decide) he (by rfl)
theorem jMax2 {e2 : Expr} (hc : X.calm = true) (ha : JA X T W [e, e2] f) (B : NoB X.mg) (hgl : Gl X "max" := by rfl) (he : starEach [e, e2] X.env = (false, eval e X.env) :: starEach [e2] X.env := by rfl) (hpl : (backTo pos (starEach [e2] X.env)).any (·.1) = false := by rfl) : JE X T W (.Call (.Name "max" p) [e, e2] [] pos) (eCallB (on2 max2D) f) := j_callB (call_max2 hc) max2_J ha B.max (by decide +kernel) hgl (by decide) (by decide) he hpl
theorem jMin2 {e2 : Expr} (hc : X.calm = true) (ha : JA X T W [e, e2] f) (B : NoB X.mg) (hgl : Gl X "min" := by rfl) (he : starEach [e, e2] X.env = (false, eval e X.env) :: starEach [e2] X.env := by rfl) (hpl : (backTo pos (starEach [e2] X.env)).any (·.1) = false := by rfl) : JE X T W (.Call (.Name "min" p) [e, e2] [] pos) (eCallB (on2 min2D) f) := j_callB (call_min2 hc) min2_J ha B.min (by decide +kernel) hgl (by decide) (by decide) he hpl
end
section
variable {X : Cx} {T : Tab} {W : WX} {a b : Expr} {fa fb : En → Rs Ar} {pos : Pos}
theorem jtEq (hu : X.A.units + 65 < cLine) (ha : JR X T W a fa) (hb : JR X T W b fb) (hm : behindInMarks .Eq b = false := by first | exact nomark _ | rfl) : JT X T W (.Compare a [.Eq] [b] pos) (tB (f2 eqD fa fb)) := j_cmp (op := .Eq) (pos := pos) (op_eqD (u4 hu)) (eq_J ha.k) ha hb hm
theorem jtNe (hu : X.A.units + 65 < cLine) (ha : JR X T W a fa) (hb : JR X T W b fb) (hm : behindInMarks .NotEq b = false := by first | exact nomark _ | rfl) : JT X T W (.Compare a [.NotEq] [b] pos) (tB (f2 neD fa fb)) := j_cmp (op := .NotEq) (pos := pos) (op_neD (u4 hu)) (ne_J ha.k) ha hb hm
theorem jtIn (hu : X.A.units + 65 < cLine) (ha : JR X T W a fa) (hb : JR X T W b fb) (hm : behindInMarks .In b = false := by first | exact nomark _ | rfl) : JT X T W (.Compare a [.In] [b] pos) (tB (f2 (inD false) fa fb)) := j_cmp (op := .In) (pos := pos) (op_inD hu) (in_J ha.k) ha hb hm
theorem jtNotIn (hu : X.A.units + 65 < cLine) (ha : JR X T W a fa) (hb : JR X T W b fb) (hm : behindInMarks .NotIn b = false := by first | exact nomark _ | rfl) : JT X T W (.Compare a [.NotIn] [b] pos) (tB (f2 (inD true) fa fb)) := j_cmp (op := .NotIn) (pos := pos) (op_notInD hu) (notIn_J ha.k) ha hb hm
theorem jtLt (ha : JR X T W a fa) (hb : JR X T W b fb) (hm : behindInMarks .Lt b = false := by first | exact nomark _ | rfl) : JT X T W (.Compare a [.Lt] [b] pos) (tB (f2 ltD fa fb)) := j_cmp (op := .Lt) (pos := pos) op_lt icmp_J ha hb hm
theorem jtLe (ha : JR X T W a fa) (hb : JR X T W b fb) (hm : behindInMarks .LtE b = false := by first | exact nomark _ | rfl) : JT X T W (.Compare a [.LtE] [b] pos) (tB (f2 leD fa fb)) := j_cmp (op := .LtE) (pos := pos) op_le icmp_J ha hb hm
theorem jtGt (ha : JR X T W a fa) (hb : JR X T W b fb) (hm : behindInMarks .Gt b = false := by first | exact nomark _ | rfl) : JT X T W (.Compare a [.Gt] [b] pos) (tB (f2 gtD fa fb)) := j_cmp (op := .Gt) (pos := pos) op_gt icmp_J ha hb hm
theorem jtGe (ha : JR X T W a fa) (hb : JR X T W b fb) (hm : behindInMarks .GtE b = false := by first | exact nomark _ | rfl) : JT X T W (.Compare a [.GtE] [b] pos) (tB (f2 geD fa fb)) := j_cmp (op := .GtE) (pos := pos) op_ge icmp_J ha hb hm
theorem jtIsN (ha : JR X T W a fa) (hb : JR X T W b fb) (hm : behindInMarks .Is b = false := by first | exact nomark _ | rfl) : JT X T W (.Compare a [.Is] [b] pos) (tB (f2 isNonD fa fb)) := j_cmp (op := .Is) (pos := pos) op_isN isNon_J ha hb hm
theorem jtNotN (ha : JR X T W a fa) (hb : JR X T W b fb) (hm : behindInMarks .IsNot b = false := by first | exact nomark _ | rfl) : JT X T W (.Compare a [.IsNot] [b] pos) (tB (f2 notNonD fa fb)) := j_cmp (op := .IsNot) (pos := pos) op_notN notNon_J ha hb hm
theorem jeEq (hu : X.A.units + 65 < cLine) (ha : JR X T W a fa) (hb : JR X T W b fb) (hm : behindInMarks .Eq b = false := by first | exact nomark _ | rfl) : JE X T W (.Compare a [.Eq] [b] pos) (f2 eqD fa fb) := j_cmpE (op := .Eq) (pos := pos) (op_eqD (u4 hu)) (eq_J ha.k) ha hb hm
theorem jeNe (hu : X.A.units + 65 < cLine) (ha : JR X T W a fa) (hb : JR X T W b fb) (hm : behindInMarks .NotEq b = false := by first | exact nomark _ | rfl) : JE X T W (.Compare a [.NotEq] [b] pos) (f2 neD fa fb) := j_cmpE (op := .NotEq) (pos := pos) (op_neD (u4 hu)) (ne_J ha.k) ha hb hm
theorem jeIn (hu : X.A.units + 65 < cLine) (ha : JR X T W a fa) (hb : JR X T W b fb) (hm : behindInMarks .In b = false := by first | exact nomark _ | rfl) : JE X T W (.Compare a [.In] [b] pos) (f2 (inD false) fa fb) := j_cmpE (op := .In) (pos := pos) (op_inD hu) (in_J ha.k) ha hb hm
theorem jeNotIn (hu : X.A.units + 65 < cLine) (ha : JR X T W a fa) (hb : JR X T W b fb) (hm : behindInMarks .NotIn b = false := by first | exact nomark _ | rfl) : JE X T W (.Compare a [.NotIn] [b] pos) (f2 (inD true) fa fb) := j_cmpE (op := .NotIn) (pos := pos) (op_notInD hu) (notIn_J ha.k) ha hb hm
theorem jeLt (ha : JR X T W a fa) (hb : JR X T W b fb) (hm : behindInMarks .Lt b = false := by first | exact nomark _ | rfl) : JE X T W (.Compare a [.Lt] [b] pos) (f2 ltD fa fb) := j_cmpE (op := .Lt) (pos := pos) op_lt icmp_J ha hb hm
theorem jeLe (ha : JR X T W a fa) (hb : JR X T W b fb) (hm : behindInMarks .LtE b = false := by first | exact nomark _ | rfl) : JE X T W (.Compare a [.LtE] [b] pos) (f2 leD fa fb) := j_cmpE (op := .LtE) (pos := pos) op_le icmp_J ha hb hm
theorem jeGt (ha : JR X T W a fa) (hb : JR X T W b fb) (hm : behindInMarks .Gt b = false := by first | exact nomark _ | rfl) : JE X T W (.Compare a [.Gt] [b] pos) (f2 gtD fa fb) := j_cmpE (op := .Gt) (pos := pos) op_gt icmp_J ha hb hm
theorem jeGe (ha : JR X T W a fa) (hb : JR X T W b fb) (hm : behindInMarks .GtE b = false := by first | exact nomark _ | rfl) : JE X T W (.Compare a [.GtE] [b] pos) (f2 geD fa fb) := j_cmpE (op := .GtE) (pos := pos) op_ge icmp_J ha hb hm
theorem jeIsN (ha : JR X T W a fa) (hb : JR X T W b fb) (hm : behindInMarks .Is b = false := by first | exact nomark _ | rfl) : JE X T W (.Compare a [.Is] [b] pos) (f2 isNonD fa fb) := j_cmpE (op := .Is) (pos := pos) op_isN isNon_J ha hb hm
theorem jeNotN (ha : JR X T W a fa) (hb : JR X T W b fb) (hm : behindInMarks .IsNot b = false := by first | exact nomark _ | rfl) : JE X T W (.Compare a [.IsNot] [b] pos) (f2 notNonD fa fb) := j_cmpE (op := .IsNot) (pos := pos) op_notN notNon_J ha hb hm
end

/-! ### list(range(..)) -/
section
variable {X : Cx} {T : Tab} {W : WX} {a b : Expr} {fa fb : En → Rs Ar} {p q pos pos' : Pos}
def rgOk (i j : Int) : Bool := decide (-(2 ^ 62) ≤ i ∧ i < 2 ^ 62 ∧ -(2 ^ 62) ≤ j ∧ j < 2 ^ 62 ∧ (j - i).toNat ≤ 2 ^ 24)
def rgD (d e : D) : Option D := match d, e with
  | .int i, .int j => if rgOk i j = true then some (.lst (rangeL i (j - i).toNat)) else none
  | _, _ => none
theorem rg_reps {G : Hp} {i j : Int} : Reps T G (rgV i j) (rangeL i (j - i).toNat) := by
  refine Reps.of_get (by unfold rgV rangeL; simp) fun n x d h1 h2 => ?_
  unfold rgV at h1
  unfold rangeL at h2
  rw [List.getElem?_map] at h1 h2
  cases e : (List.range (j - i).toNat)[n]? with
  | none => rw [e] at h1; cases h1
  | some m => rw [e] at h1 h2; cases h1; cases h2; rfl
theorem jListRg2 (hc : X.calm = true) (ha : JR X T W a fa) (hb : JR X T W b fb) (B : NoB X.mg) (hg : Gl X "list" := by rfl) (hg2 : Gl X "range" := by rfl) (na : starEach [a, b] X.env = (false, eval a X.env) :: starEach [b] X.env := by rfl)
    (nb : starEach [b] X.env = (false, eval b X.env) :: starEach [] X.env := by rfl) (hp : (backTo pos' (starEach [b] X.env)).any (·.1) = false := by rfl) (nc : starEach [.Call (.Name "range" q) [a, b] [] pos'] X.env = (false, eval (.Call (.Name "range" q) [a, b] [] pos') X.env) :: starEach [] X.env := by rfl) :
    JO X T W (.Call (.Name "list" p) [.Call (.Name "range" q) [a, b] [] pos'] [] pos) (f2 rgD fa fb) := by
  refine ⟨ha.k, pe_imp (pe_listRg hc hg B.list (prg_2 hg2 B.range ha.run hb.run na nb hp) nc) fun σ H Q ⟨U, G, ρ, R, h⟩ => ⟨U, G, ρ, R, ?_⟩⟩
  refine (Pst.bnd h).mono (L2.Same.refl _) fun x G1 H1 ρ1 _ ⟨R1, s1, p1⟩ v av => ⟨U, G1, ρ1, R1, ?_⟩
  refine (Pst.bnd p1).mono (L2.Same.refl _) fun y G2 H2 ρ2 _ ⟨R2, s2, p2⟩ u au => ?_
  unfold r2 at p2
  cases e1 : look ρ2 x with
  | none => rw [e1] at p2; exact p2.elim
  | some d =>
    cases e2 : look ρ2 y with
    | none => rw [e1, e2] at p2; exact p2.elim
    | some e =>
      rw [e1, e2] at p2
      obtain ⟨c, e3, p3⟩ := Pst.opt p2
      cases d <;> cases e <;> simp only [rgD] at e3 <;> first | (cases e3; done) | skip
      rename_i i j
      split at e3
      · rename_i hr
        cases e3
        have hr' := of_decide_eq_true hr
        refine ⟨i, j, (look_ok R2 (av.mono s2) e1).int, (look_ok R2 au e2).int, hr', fun q hq => ?_⟩
        obtain ⟨R3, hn⟩ := R2.fresh (o := .lst (rgV i j)) hq
        exact p3 G2 _ R3 (L2.Same.refl _) q _ (R2.gfree hq) (R2.ufree hq) upd_same ⟨_, rfl, rg_reps⟩ hn
      · cases e3
end

/-! ### defs that may be called -/
structure CalV (P : Program) (w : World) (K : PySem.W.Frag) (mg : Str → Option Value) (base : Heap) (T : Tab) (k : Nat) (x : Str) (n : Nat) (F : FV) : Prop where
  ex : ∃ (f : Addr) (fd : FuncData) (ps : List Str), FnOk P w K mg base (L2.CX P w) k f fd ps (spV T n F) ∧ mg x = some (.ref f) ∧ PySem.W.keepIn K (.ref f) = true ∧ Binds K fd ps []
structure CalL (P : Program) (w : World) (K : PySem.W.Frag) (mg : Str → Option Value) (base : Heap) (T : Tab) (k : Nat) (x : Str) (n : Nat) (F : FL) : Prop where
  ex : ∃ (f : Addr) (fd : FuncData) (ps : List Str), FnOk P w K mg base (L2.CX P w) k f fd ps (spL T n F) ∧ mg x = some (.ref f) ∧ PySem.W.keepIn K (.ref f) = true ∧ Binds K fd ps []
section
variable {X : Cx} {T : Tab} {W : WX} {k j n : Nat} {x : Str} {p pos : Pos} {e : Expr} {es : List Expr}
theorem jc {F : FV} {g : AF} (c : CalV X.prog X.w X.K X.mg X.base T k x n F) (hr : Room j X.A) (tk : Takes X W) (ha : JA X T W (e :: es) g) (hk : k ≤ j := by decide) (hn : (e :: es).length = n := by rfl) (hg : Gl X x := by rfl) (hdb : (x == ("__debug__" : Str)) = false := by decide)
    (he : starEach (e :: es) X.env = (false, eval e X.env) :: starEach es X.env := by rfl) (hpl : (backTo pos (starEach es X.env)).any (·.1) = false := by rfl) : JE X T W (.Call (.Name x p) (e :: es) [] pos) (eCall F [] g) := by
  obtain ⟨f, fd, ps, Fo, hm, kp, b⟩ := c.ex
  exact j_call (dv := []) Fo (hr.mono hk) hm kp b .nil (fun _ => rfl) tk ha hn hg hdb he hpl
theorem jc0 {F : FV} (c : CalV X.prog X.w X.K X.mg X.base T k x 0 F) (hr : Room j X.A) (tk : Takes X W) (hK : X.K = T.K) (hk : k ≤ j := by decide) (hg : Gl X x := by rfl) (hdb : (x == ("__debug__" : Str)) = false := by decide) : JE X T W (.Call (.Name x p) [] [] pos) (eCall F [] aNil) := by
  obtain ⟨f, fd, ps, Fo, hm, kp, b⟩ := c.ex
  exact j_call0 (dv := []) Fo (hr.mono hk) hm kp b .nil (fun _ => rfl) tk hK rfl hg hdb
theorem jcl {F : FL} {g : AF} (c : CalL X.prog X.w X.K X.mg X.base T k x n F) (hr : Room j X.A) (tk : Takes X W) (ha : JA X T W (e :: es) g) (hk : k ≤ j := by decide) (hn : (e :: es).length = n + 1 := by rfl) (hg : Gl X x := by rfl) (hdb : (x == ("__debug__" : Str)) = false := by decide)
    (he : starEach (e :: es) X.env = (false, eval e X.env) :: starEach es X.env := by rfl) (hpl : (backTo pos (starEach es X.env)).any (·.1) = false := by rfl) : JE X T W (.Call (.Name x p) (e :: es) [] pos) (eCallL F g) := by
  obtain ⟨f, fd, ps, Fo, hm, kp, b⟩ := c.ex
  exact j_callL Fo (hr.mono hk) hm kp b tk ha hn hg hdb he hpl
end
section
variable {P : Program} {w : World} {K : PySem.W.Frag} {mg : Str → Option Value} {base : Heap} {T : Tab} {x : Str} {st : Stmt} {f : Addr} {fd : FuncData} {N ps : List Str} {k m n : Nat} {ws : List Nat} {body : SF}
/-- what a body may use -/
structure Bo (X : Cx) (k : Nat) (E : XK) : Prop where
  hr : Room k X.A
  tk : Takes X (WO E)
  hp : PassesOwn (model X.prog X.w) X.A X.env X.xe
theorem calV (F : Fun K x x st f fd) (S : FnScope N ps (defScope st)) (hm : mg x = some (.ref f)) (hb : Binds K fd ps [])
    (hbody : ∀ (cdv : Value) (A : Around) (outer : List Env) (s : Shared) (H : Hp) (E : XK), Bo (cxOf (L2.CX P w) P w K mg base N x (defScope st) f cdv A outer s H E) k E →
      JSs (cxOf (L2.CX P w) P w K mg base N x (defScope st) f cdv A outer s H E) T (WO E) ws (defBody st) body) (hN : N.length = ps.length + m := by rfl) (hn : ps.length = n := by rfl) : CalV P w K mg base T (k + 1) x n (fnV m body) := by
  subst hn
  exact ⟨f, fd, ps, fnV_ok F S hN fun cdv A outer s H E hr => hbody cdv A outer s H E ⟨hr, takes_of rfl rfl rfl rfl, passes_of rfl⟩, hm, F.kp, hb⟩
theorem calL (F : Fun K x x st f fd) (S : FnScope N ps (defScope st)) (hm : mg x = some (.ref f)) (hb : Binds K fd ps [])
    (hbody : ∀ (cdv : Value) (A : Around) (outer : List Env) (s : Shared) (H : Hp) (E : XK), Bo (cxOf (L2.CX P w) P w K mg base N x (defScope st) f cdv A outer s H E) k E →
      JSs (cxOf (L2.CX P w) P w K mg base N x (defScope st) f cdv A outer s H E) T (WO E) ws (defBody st) body) (hw : 0 ∉ ws := by decide) (hN : N.length = ps.length + m := by rfl) (hn : ps.length = n + 1 := by rfl) : CalL P w K mg base T (k + 1) x n (fnL m body) :=
  ⟨f, fd, ps, fnL_ok F S hN hn hw fun cdv A outer s H E hr => hbody cdv A outer s H E ⟨hr, takes_of rfl rfl rfl rfl, passes_of rfl⟩, hm, F.kp, hb⟩
end

/-! ### short forms -/
def bigN : Nat := 1000000000000000000
/-- a def that is not walked -/
theorem calBad {P : Program} {w : World} {K : PySem.W.Frag} {mg : Str → Option Value} {base : Heap} {T : Tab} {x : Str} {st : Stmt} {f : Addr} {fd : FuncData} {ps : List Str} {k n : Nat} (F : Fun K x x st f fd) (hm : mg x = some (.ref f)) (hb : Binds K fd ps []) (hn : ps.length = n := by rfl) :
    CalV P w K mg base T k x n (fun _ => .bad) :=
  ⟨f, fd, ps, ⟨fun vs H Q E ⟨_, _, _, _, _, _, z⟩ => z.elim, fun A outer s H args us vs Q E _ _ _ _ ⟨_, _, _, _, _, _, z⟩ => z.elim⟩, hm, F.kp, hb⟩
/-- an own exception class: its number, its fields' numbers (the last one first), how many arguments -/
structure ExT (P : Program) (w : World) (K : PySem.W.Frag) (mg : Str → Option Value) (base : Heap) (T : Tab) (k : Nat) (x : Str) (c : Nat) (ns : List Nat) (n : Nat) : Prop where
  ex : ∃ C fs, ExK P w K mg base x C fs k ∧ T.exc c = C ∧ fs.reverse = ns.map T.fnm ∧ fs.length = n
/-- an except clause -/
structure HdT (K : PySem.W.Frag) (mg : Str → Option Value) (T : Tab) (x : Str) (hm : Nat → Option Bool) : Prop where
  ex : ∃ cl, mg x = some cl ∧ ∀ c b, hm c = some b → PySem.W.exmOne K (.ref (T.exc c)) cl = some b
/-- a field of a caught exception -/
structure XfT (K : PySem.W.Frag) (T : Tab) (n : Nat) (f : Str) (ok : Nat → Bool) : Prop where
  fn : T.fnm n = f
  ok : ∀ c, ok c = true → XfC K (T.exc c) ∧ PySem.W.findIn K (.ref (T.exc c)) f = some none
section
variable {X : Cx} {T : Tab} {W : WX} {k j n : Nat} {x : Str} {p pos pos' : Pos} {e : Expr} {es : List Expr}
theorem jRaise {c : Nat} {ns : List Nat} {g : AF} (et : ExT X.prog X.w X.K X.mg X.base T k x c ns n) (hr : Room j X.A) (tk : Takes X W) (ha : JA X T W (e :: es) g) (hk : k + 1 ≤ j := by decide) (hl : (e :: es).length = n := by rfl) (hc : X.calm = true := by rfl) (hl2 : (e :: es).length ≤ 1000 := by decide)
    (hg : Gl X x := by rfl) (hdb : (x == ("__debug__" : Str)) = false := by decide) (he : starEach (e :: es) X.env = (false, eval e X.env) :: starEach es X.env := by rfl) (hpl : (backTo pos (starEach es X.env)).any (·.1) = false := by rfl) :
    JS X T W [] (.Raise (some (.Call (.Name x p) (e :: es) [] pos)) none pos') (sRaise c ns g) := by
  obtain ⟨C, fs, ek, h1, h2, h3⟩ := et.ex
  exact j_raise ek (hr.mono hk) tk h1 h2 ha (hl.trans h3.symm) hc hl2 hg hdb he hpl
theorem jTryAs {y : Str} {i : Nat} {hm : Nat → Option Bool} {body suite : List Stmt} {b₀ : Stmt} {np : Pos} {f g : SF} {wb ws : List Nat} (hK : X.K = T.K) (hN : X.N.Nodup) (hd : HdT X.K X.mg T x hm) (tk : Takes X W)
    (hb : ∀ (W : WX) (pn : List (Addr × Obj)) (xe : Value → Shared → Prop), Takes (X.tr pn xe) W → PassesOwn (model X.prog X.w) X.A X.env xe → JSs (X.tr pn xe) T W wb body f)
    (hsu : ∀ (a : Addr) (oe : Obj) (cls : Value) (d : Option Addr) (pn : List (Addr × Obj)), Zc cls d oe → (∃ vs, oe.data = .fields vs) → JSs (X.suite a ((a, oe) :: pn)) (eaT T (some (a, cls, d))) WF ws (b₀ :: suite) g)
    (hi : X.N[i]? = some y := by rfl) (hln : X.env.kindOf y = some .local := by rfl) (hg : Gl X x := by rfl) (hdb : (x == ("__debug__" : Str)) = false := by decide)
    (hs : X.stack = X.env :: X.outer := by rfl) (hf : X.env.frame = some X.env.locals := by rfl) :
    JS X T W (wb ++ (i :: ws)) (.Try body [.ExceptHandler (some (.Name x np)) (some y) (b₀ :: suite) pos'] [] [] pos) (sTryAs i hm f g) := by
  obtain ⟨cl, h1, h2⟩ := hd.ex
  exact j_try_as hK hN hi hln ⟨hg, hdb, .inl h1⟩ tk h2 hb hsu hs hf
theorem jTry {hm : Nat → Option Bool} {body suite : List Stmt} {b₀ : Stmt} {np : Pos} {f g : SF} {wb ws : List Nat} (hK : X.K = T.K) (hd : HdT X.K X.mg T x hm) (tk : Takes X W)
    (hb : ∀ (W : WX) (pn : List (Addr × Obj)) (xe : Value → Shared → Prop), Takes (X.tr pn xe) W → PassesOwn (model X.prog X.w) X.A X.env xe → JSs (X.tr pn xe) T W wb body f)
    (hsu : ∀ (a : Addr) (oe : Obj) (pn : List (Addr × Obj)), JSs (X.suite a ((a, oe) :: pn)) T WF ws (b₀ :: suite) g)
    (hx : ∀ ρ c ns vs ρ', g ρ ≠ .ex c ns vs ρ') (hg : Gl X x := by rfl) (hdb : (x == ("__debug__" : Str)) = false := by decide)
    (hs : X.stack = X.env :: X.outer := by rfl) (hf : X.env.frame = some X.env.locals := by rfl) :
    JS X T W (wb ++ ws) (.Try body [.ExceptHandler (some (.Name x np)) none (b₀ :: suite) pos'] [] [] pos) (sTry hm f g) := by
  obtain ⟨cl, h1, h2⟩ := hd.ex
  exact j_try hK ⟨hg, hdb, .inl h1⟩ tk h2 hb hsu hx hs hf
theorem jXf {i n : Nat} {ok : Nat → Bool} {a : Addr} {oe : Obj} {cls : Value} {d : Option Addr} {pn : List (Addr × Obj)} {f : Str} (hk : X.K = T.K) (hinj : ∀ a b, T.fnm a = T.fnm b → a = b) (xf : XfT X.K T n f ok) (hz : Zc cls d oe) (hf : ∃ vs, oe.data = .fields vs)
    (hN : X.N[i]? = some x := by rfl) (hv : Vis X.env.scope x := by first | exact Or.inl rfl | exact Or.inr (Or.inl rfl) | exact Or.inr (Or.inr rfl)) (hd : (x == ("__debug__" : Str)) = false := by decide)
    (hcd : (x == ("__classdict__" : Str)) = false := by decide) (hb : attributeBase (.Name x p) f X.env (eval (.Name x p) X.env) = eval (.Name x p) X.env := by rfl) :
    JE (X.suite a ((a, oe) :: pn)) (eaT T (some (a, cls, d))) W (.Attribute (.Name x p) f pos) (eXf i n ok) := j_xf hk hinj xf.fn xf.ok hz hf hN hv hd hcd hb
end
end J

set_option Elab.async false
set_option linter.all false
set_option maxRecDepth 100000
set_option maxHeartbeats 4000000
namespace J
open PySem PySem.Spec PyProof.Rows L2

/-! ### repr -/
def reprOk (d : D) : Bool := okE 60 d && ((toPy d).showable && decide ((toPy d).shown.length ≤ sizeLine))
def rReprJ (T : Tab) : List V → Hp → VK → Prop := fun xs H Q => ∃ x G d, xs = [x] ∧ L2.Same G H ∧ Rep T G x d ∧ reprOk d = true ∧ Q (.str (toPy d).shown) H
theorem repr_J {X : Cx} {T : Tab} (hK : X.K = T.K) (hg : X.A.guards = some []) (hu : X.A.units + 65 < cLine) : CallR X (.builtin "repr") (rReprJ T) := by
  intro pins s σ H xs us Q I r h
  obtain ⟨x, G, d, rfl, sm, rd, ho, q⟩ := h
  obtain ⟨u, rfl, ru⟩ := r.one
  obtain ⟨o1, o2⟩ := Bool.and_eq_true_iff.mp ho
  obtain ⟨o2, o3⟩ := Bool.and_eq_true_iff.mp o2
  have o3 := of_decide_eq_true o3
  obtain ⟨a1, a2, a3⟩ := okE_dp o1 (rd.mono sm)
  rw [← hK] at a1
  obtain ⟨as, rr⟩ := Dp.reads I _ x u a1 ru
  have hnd := PyData.noDict_hsm (as := as) (PyData.hasDict_of_canLay _ a2)
  have fin : ∀ h' t, (∀ b o, s.heap.get? b = some o → h'.get? b = some o) → ∀ k, EP X pins σ Q (.str (toPy d).shown k) { s with heap := h', toks := t } := fun h' t hk k => ⟨.str _, H, I.kept hk, ⟨_, rfl⟩, q⟩
  cases d with
  | non => cases rd; cases ru; exact PySem.P.repr_of_none (fin s.heap _ (fun _ _ e => e) _)
  | bl b => cases rd; cases ru; exact PySem.P.repr_of_bool (by have z := fin s.heap (s.toks + 1) (fun _ _ e => e) s.toks; cases b <;> exact z)
  | int i => cases rd; obtain ⟨t, rfl⟩ := ru; exact PySem.P.repr_of_int (by simpa [toPy, PyData.showable] using o2) (fin s.heap _ (fun _ _ e => e) _)
  | str z => obtain ⟨rfl, _⟩ := rd; obtain ⟨t, rfl⟩ := ru; exact PySem.P.repr_of_str (fin s.heap _ (fun _ _ e => e) _) o3
  | tup ds =>
    obtain ⟨a, ys, rfl, _⟩ := rd
    cases ru
    exact repr_of_reads' rr o2 hnd hg (by omega) (fun _ _ e => e) (fun h' u tk hk => fin h' tk hk u) o3
  | lst ds =>
    obtain ⟨a, ys, rfl, _⟩ := rd
    cases ru
    exact repr_of_reads' rr o2 hnd hg (by omega) (fun _ _ e => e) (fun h' u tk hk => fin h' tk hk u) o3
  | scr ds => simp [okE] at o1
  | dct _ _ => simp [okE] at o1
  | obj _ _ _ => simp [okE] at o1
  | fn _ => simp [okE] at o1
/-- repr(a) != repr(b) -/
def tReprNe (f g : EF) : TF := fun ρ => (f ρ).bnd fun d ρ1 => if reprOk d = true then (g ρ1).bnd fun e ρ2 => (if reprOk e = true then .ok (!decide ((toPy d).shown = (toPy e).shown)) ρ2 else .bad) else .bad
section
variable {X : Cx} {T : Tab} {W : WX} {a b : Expr} {f g : EF} {p q pos1 pos2 pos : Pos}
theorem jReprNe (hg : X.A.guards = some []) (hu : X.A.units + 65 < cLine) (ha : JE X T W a f) (hb : JE X T W b g) (B : NoB X.mg) (hgl : Gl X "repr" := by rfl) (he : starEach [a] X.env = (false, eval a X.env) :: starEach [] X.env := by rfl) (he2 : starEach [b] X.env = (false, eval b X.env) :: starEach [] X.env := by rfl) :
    JT X T W (.Compare (.Call (.Name "repr" p) [a] [] pos1) [.NotEq] [.Call (.Name "repr" q) [b] [] pos2] pos) (tReprNe f g) := by
  have ra := pe_callB (pos := pos1) (p := p) (repr_J ha.k hg hu) hgl B.repr PyProof.Rows.bootS_repr (pa_cons ha.run pa_nil he) (by decide) (by decide) he rfl
  have rb := pe_callB (pos := pos2) (p := q) (repr_J ha.k hg hu) hgl B.repr PyProof.Rows.bootS_repr (pa_cons hb.run pa_nil he2) (by decide) (by decide) he2 rfl
  refine ⟨ha.k, pt_imp (pt_cmpR op_ne ra rb (nomark _)) fun σ H Q ⟨U, G, ρ, R, h⟩ => ⟨U, G, ρ, R, ?_⟩⟩
  refine (Pst.bnd h).mono (L2.Same.refl _) fun d G1 H1 ρ1 _ ⟨R1, s1, p1⟩ v rv => ?_
  split at p1
  · rename_i ho
    refine ⟨v, G1, d, rfl, R1.same, rv, ho, U, G1, ρ1, R1, (Pst.bnd p1).mono (L2.Same.refl _) fun e G2 H2 ρ2 _ ⟨R2, s2, p2⟩ u ru => ?_⟩
    split at p2
    · rename_i hh
      refine ⟨u, G2, e, rfl, R2.same, ru, hh, ?_⟩
      have z := p2 G2 H2 R2 (L2.Same.refl _)
      have e1 : decide (V.str (toPy d).shown = V.str (toPy e).shown) = decide ((toPy d).shown = (toPy e).shown) := by
        rw [Bool.eq_iff_iff]; simp
      exact ⟨rfl, _, rfl, by rw [e1]; exact z⟩
    · exact p2.elim
  · exact p1.elim
end

/-! ### a def that may ask where it stands -/
structure FnG (P : Program) (w : World) (K : PySem.W.Frag) (mg : Str → Option Value) (base : Heap) (CX : CXT) (k : Nat) (f : Addr) (fd : FuncData) (ps : List Str) (sp : Sp) : Prop where
  len : ∀ vs H Q E, sp vs H Q E → vs.length = ps.length
  run : ∀ (A : Around) (outer : List Env) (s : Shared) (H : Hp) (args : Args) (us : List Value) (vs : List V) (Q : VK) (E : XK), A.guards = some [] → Room k A → Env0 P w K mg base A outer s H → BindsTo s fd args (ps.zip us) → Vals vs us → sp vs H Q E →
    codeAny (model P w) A (.call (.ref f) args) (CR CX outer P w H s Q E) s
section
variable {P : Program} {w : World} {K : PySem.W.Frag} {mg : Str → Option Value} {base : Heap}
theorem deeper_guards {A : Around} {env : Env} (h : A.guards = some []) : (A.deeper env).guards = some [] := h
/-- by its body -/
theorem fnG_of {x qual : Str} {st : Stmt} {f : Addr} {fd : FuncData} {N ps : List Str} {k : Nat} {sp : Sp} {CX : CXT} (F : Fun K x qual st f fd) (S : FnScope N ps (defScope st)) (len : ∀ vs H Q E, sp vs H Q E → vs.length = ps.length)
    (hbody : ∀ (cdv : Value) (A : Around) (outer : List Env) (s : Shared) (H : Hp) (vs : List V) (Q : VK) (E : XK), A.guards = some [] → Room k (A.deeper (envOfC qual (defScope st) s.heap.objs.size f cdv)) → sp vs H Q E →
      ∃ t, PSs (cxOf CX P w K mg base N qual (defScope st) f cdv A outer s H E) (defBody st) t ∧ t { nx := fun _ H' => Q .non H', rt := Q } (L2.start N vs) H) : FnG P w K mg base CX (k + 1) f fd ps sp := by
  obtain ⟨oc, od, kV, doc, pm, an, cdv, ct, osl, rfl, lk, hcd⟩ := F.ex
  refine ⟨len, fun A outer s H args us vs Q E hg hr e0 hbind r hsp => ?_⟩
  have hl := len _ _ _ _ hsp
  have KX : K.In s.heap := e0.mod.kin.keeps fun b o e => (e0.bs b o e).1
  refine codeAny_call_function hr.depth (KX _ _ lk) rfl S.co S.gen rfl (PySem.W.codeRec_of KX hcd) (hbind _ _ _ _ ?_)
  refine wpAny_newFunctionEnv_cells S.kind (fun ⟨n, v⟩ hy => (S.par n (List.of_mem_zip hy).1).imp id fun q => ⟨q, PySem.W.cellsFrom_some _ _ _ (.inl q)⟩) fun env he s1 x => ?_
  subst he
  refine ⟨(e0.mod.nolimit.keeps fun b o e => (e0.bs b o e).1).keeps x.toInCall.keep, codeAny_func ?_⟩
  obtain ⟨t, ht, hq⟩ := hbody cdv A outer s H vs Q E hg (hr.deeper _) hsp
  have out : ∀ {σ' : L2.St} {H' : Hp} {v : V} {u : Value} {s' : Shared}, Inv (cxOf CX P w K mg base N qual (defScope st) f cdv A outer s H E) [] σ' H' s' → RelV v u → Q v H' → CE outer P w H s Q u s' :=
    fun J rv q => ⟨_, _, J.os, J.bare, J.base, J.hok, rv, q⟩
  refine wpAny_mono (ht.run [] s1 (L2.start N vs) H _ (inv_start S hr.hd e0 hl r x) hq) (fun fl s' hs => ?_) fun e s' hs => hs
  cases fl with
  | ret u => obtain ⟨v, σ', H', J, rv, q⟩ := hs; exact out J rv q
  | next => obtain ⟨σ', H', J, q⟩ := hs; exact out (v := V.non) (u := Value.none) J rfl q
  | brk => obtain ⟨_, _, _, q⟩ := hs; exact q.elim
  | cont => obtain ⟨_, _, _, q⟩ := hs; exact q.elim
theorem fnG_V {x qual : Str} {st : Stmt} {f : Addr} {fd : FuncData} {N ps : List Str} {k m : Nat} {ws : List Nat} {body : SF} {T : Tab} (F : Fun K x qual st f fd) (S : FnScope N ps (defScope st)) (hN : N.length = ps.length + m)
    (hbody : ∀ (cdv : Value) (A : Around) (outer : List Env) (s : Shared) (H : Hp) (E : XK), A.guards = some [] → Bo (cxOf (L2.CX P w) P w K mg base N qual (defScope st) f cdv A outer s H E) k E →
      JSs (cxOf (L2.CX P w) P w K mg base N qual (defScope st) f cdv A outer s H E) T (WO E) ws (defBody st) body) : FnG P w K mg base (L2.CX P w) (k + 1) f fd ps (spV T ps.length (fnV m body)) := by
  refine fnG_of F S (fun vs H Q E h => h.1) (fun cdv A outer s H vs Q E hg hr h => ?_)
  obtain ⟨hl, U, G, ds, R, r, p⟩ := h
  refine ⟨_, (hbody cdv A outer s H E hg ⟨hr, takes_of rfl rfl rfl rfl, passes_of rfl⟩).run, U, G, _, start_at hN hl ▸ R.entry r m, ?_⟩
  unfold fnV at p
  cases e : body (ds.map .sh ++ List.replicate m .no) with
  | ok a ρ' =>
    rw [e] at p
    cases a with
    | nx => exact fun σ' G' H' R' s' _ => p G' H' R'.nil s' _ rfl
    | rt d => exact fun v σ' G' H' R' s' _ r' => p G' H' R'.nil s' v r'
  | ex c ns vs ρ' => rw [e] at p; exact fun cls dx σ' G' H' R' s' _ x => p cls dx G' H' R'.nil s' x
  | bad => rw [e] at p; exact p.elim
/-- it is called by what stands at the top, H tracking at most the script -/
theorem topG_at {a fa : Addr} {fd : FuncData} {x : Str} {sp : Sp} {CX : CXT} {k : Nat} {s₁ : Shared} {H : Hp} {its : Array Value} {mb : Str → Option Value} (KX : K.In s₁.heap) (hns : s₁.heap.Ns mainGlobals mg) (hb : s₁.heap.Ns builtinsNs mb) (hbb : ∀ x : Str, x ≠ "__name__" → mb x = bootBuiltins x) (hlim : s₁.heap.NoLimit) (hg : s₁.gens = #[])
    (ha : s₁.heap.get? a = some { cls := .type "list", data := .seq its }) (hr : Room k callerA) (hO : Only H) (hok : HOk P w H s₁.heap) (h1 : ∀ b, b ≠ a → H b = none) (h2 : ∀ o, K.lookup a = some o → H a = none)
    (F : ∀ base : Heap, K.In base → base.Ns mainGlobals mg → FnG P w K mg base CX k fa fd [x] sp) (hbind : ∀ (s : Shared) (u : Value), BindsTo s fd ⟨[u], []⟩ [(x, u)])
    (hsp : sp [.ref a] H (fun v _ => v = .bl true) fun _ _ _ => False) (hCX : ∀ H e s', CX [] H s₁ (fun _ _ _ => False) e s' → False) :
    codeAny (model P w) callerA (.call (.ref fa) ⟨[.ref a], []⟩) (fun r s' => r = .ok (.ret (.bool true)) ∧ OldK s₁.heap s'.heap ∧ s'.os = s₁.os ∧ AllBare s'.gens) s₁ := by
  have stays : ∀ {b : Addr} {o : Obj}, s₁.heap.get? b = some o → H b = none → (hidT s₁.heap H).get? b = some o := fun e n => hidT_get e n
  have ns : ∀ {b : Addr} {m : Str → Option Value}, s₁.heap.Ns b m → (hidT s₁.heap H).Ns b m := fun {b m} ⟨o, es, ep, e, d, r⟩ => by
    refine ⟨o, es, ep, stays e (h1 b fun z => ?_), d, r⟩
    rw [z, ha] at e
    cases e
    cases d
  have hKb : K.In (hidT s₁.heap H) := fun b o e => stays (KX b o e) (by
    by_cases hba : b = a
    · rw [hba] at e ⊢; exact h2 o e
    · exact h1 b hba)
  have hlim' : (hidT s₁.heap H).NoLimit := let ⟨mc, l1, l2⟩ := hlim; ⟨mc, ns l1, l2⟩
  have e0 : Env0 P w K mg (hidT s₁.heap H) callerA [] s₁ H :=
    ⟨rfl, ⟨hKb, ns hns, ⟨mb, ns hb, hbb⟩, hlim'⟩, fun b o e => of_hidT e, Nat.le_of_eq (hidT_size _ _), trivial, fun b z => (List.not_mem_nil z).elim, hok, .of_eq hg⟩
  refine codeAny_mono ((F _ hKb (ns hns)).run callerA [] s₁ H ⟨[.ref a], []⟩ [.ref a] [.ref a] _ _ rfl hr e0 (hbind s₁ (.ref a)) (.cons rfl .nil) hsp) fun r s' q => ?_
  match r, q with
  | .error e, q => exact (hCX H e s' q).elim
  | .ok (.ret u), ⟨v, H', os, bare, un, hok', rv, hv⟩ =>
    have hv : v = .bl true := hv
    subst hv
    have hu : u = Value.bool true := rv
    subst hu
    refine ⟨rfl, OldK.of_keep fun b o e => ?_, os, bare⟩
    rcases hO b with z | ⟨ob, xs, z⟩
    · exact un.keep b o e z (fun m => (List.not_mem_nil m).elim) List.not_mem_nil
    · have o1 := (hok b _ z).1
      rw [e] at o1
      cases o1
      exact (hok' b _ (un.frzs b _ _ z)).1
/-- the end: what k_head leaves, from the law's function -/
theorem walkG {l : PySem.W.OpenLaw} {n k : Nat} {q : Program} {loose : List Str} {XP : (Str → Option Value) → Heap → Prop} {YP : World → Heap → Prop} {d : DefRec} {K : Params → PySem.W.Frag} {CX : World → CXT} {sp : World → Sp} {x : Str}
    (hn : l.most = some n) (hn2 : n ≤ sizeLine) (hdf : d.params.defaults = []) (hr : Room k callerA) (hY : ∀ (w : World) (h : Heap), YP w h → (K w.params).In h)
    (F : ∀ (w : World) (mg : Str → Option Value) (fa : Addr) (h : Heap), (K w.params).In h → h.Ns mainGlobals mg → mg d.name = some (.ref fa) →
      ∃ fd : FuncData, (∀ (s : Shared) (u : Value), BindsTo s fd ⟨[u], []⟩ [(x, u)]) ∧ ∀ base : Heap, (K w.params).In base → base.Ns mainGlobals mg → FnG l.prog w (K w.params) mg base (CX w) k fa fd [x] (sp w))
    (hsp : ∀ (w : World) (H : Hp) (a : Addr) (ns : List Int), ns.length ≤ n → SqL (K w.params) H a (ns.map V.int) → sp w [.ref a] H (fun v _ => v = .bl true) fun _ _ _ => False)
    (hCX : ∀ (w : World) (H : Hp) (s : Shared) (e : Value) (s' : Shared), CX w [] H s (fun _ _ _ => False) e s' → False) :
    PySem.W.WalkO q loose XP YP l.row.toRowW d [] (fun f vs => PySem.call f vs) := by
  refine Att.attach_call hn hdf fun w s₀ s₁ mg mb fa o pm cd doc a vs ns G Y ho hd hcd hmg hobj hints hlen hg => ?_
  have KX := hY w _ Y
  obtain ⟨fd, hb, hF⟩ := F w mg fa _ KX G.T.g hmg
  have rv := vals_ints hints
  have hz : (ns.map V.int).length ≤ sizeLine := by rw [List.length_map]; omega
  cases hk : (K w.params).lookup a with
  | some ob =>
    have e := KX a ob hk
    rw [hobj] at e
    cases e
    refine topG_at (H := fun _ => none) KX G.T.g G.T.b G.T.builtins G.T.nolimit hg hobj hr (fun _ => .inl rfl) (fun b u z => nomatch (show (none : Option HO) = some u from z)) (fun _ _ => rfl) (fun _ _ => rfl) hF hb (hsp w _ a ns hlen (.inr ⟨_, vs.toArray, _, hk, rfl, rfl, rfl, ?_, rv⟩)) fun H e s' => hCX w H s₁ e s'
    rw [List.size_toArray, hints.length]
    omega
  | none =>
    let o0 : HO := .frz { cls := .type "list", data := .seq vs.toArray } (.lst (ns.map V.int))
    have hat : (fun b => if b = a then some o0 else none : Hp) a = some o0 := if_pos rfl
    refine topG_at (H := fun b => if b = a then some o0 else none) KX G.T.g G.T.b G.T.builtins G.T.nolimit hg hobj hr (fun b => ?_) (fun b u z => ?_) (fun b hb => if_neg hb) (fun o e => by rw [hk] at e; cases e) hF hb (hsp w _ a ns hlen (.inl (.inr ⟨_, hat⟩))) fun H e s' => hCX w H s₁ e s'
    · by_cases hba : b = a
      · exact .inr ⟨_, _, if_pos hba⟩
      · exact .inl (if_neg hba)
    · by_cases hba : b = a
      · have z' := (if_pos hba).symm.trans z
        cases z'
        subst hba
        exact ⟨hobj, hz, vs, _, rv, hobj⟩
      · have z' := (if_neg hba).symm.trans z
        cases z'
end
end J

set_option Elab.async false
set_option linter.all false
set_option maxRecDepth 100000
set_option maxHeartbeats 4000000
namespace J
open PySem PySem.Spec PyProof.Rows L2 NdefX

/-! ### the table -/
def padF (n : Nat) : Str := ⟨Array.replicate (n + 1000) 97⟩
def mkF (names : List Str) (n : Nat) : Str := names.getD n (padF n)
theorem mkF_inj {names : List Str} (h1 : names.all (fun s => decide (s.cps.size < 1000)) = true) (h2 : names.Nodup) : ∀ a b, mkF names a = mkF names b → a = b := by
  intro a b h
  have gt : ∀ n (hn : n < names.length), mkF names n = names[n] := fun n hn => by
    unfold mkF; rw [List.getD_eq_getElem?_getD, List.getElem?_eq_getElem hn]; rfl
  have sz : ∀ n, names.length ≤ n → (mkF names n).cps.size = n + 1000 := fun n hn => by
    have e : mkF names n = padF n := by unfold mkF; rw [List.getD_eq_getElem?_getD, List.getElem?_eq_none hn]; rfl
    rw [e]
    simp [padF]
  have sm : ∀ n, n < names.length → (mkF names n).cps.size < 1000 := fun n hn => by
    rw [gt n hn]
    exact of_decide_eq_true (List.all_eq_true.mp h1 _ (List.getElem_mem hn))
  by_cases ha : a < names.length
  · by_cases hb : b < names.length
    · skip
      rw [gt a ha, gt b hb] at h
      exact (List.getElem_inj h2).mp h
    · have e1 := sm a ha
      have e2 := sz b (by omega)
      rw [h, e2] at e1
      omega
  · have e1 := sz a (by omega)
    by_cases hb : b < names.length
    · have e2 := sm b hb
      rw [← h, e1] at e2
      omega
    · have e2 := sz b (by omega)
      rw [h, e2] at e1
      omega
abbrev mkT (K : PySem.W.Frag) (ex cl fn : List Addr) (names : List Str) : Tab := { K := K, cls := fun n => cl.getD n 0, exc := fun n => ex.getD n 0, fnm := mkF names, fna := fun n => fn.getD n 0 }

/-! ### an exception class from the written part -/
section
variable {P : Program} {w : World} {K : PySem.W.Frag} {mg : Str → Option Value} {base : Heap} {T : Tab} {f cc cda C : Addr} {x qual : Str} {params : Arguments} {scope : Scope} {doc pm ct oc : Value} {an od : Option Addr}
    {osl : Array (Option Value)} {p0 p1 p2 p3 p4 q1 q2 q3 q4 q5 q6 q7 q8 q9 r1 : Pos} {a1 a2 f1 f2 : Str} {pl : Env → Sem Bool} {c n1 n2 : Nat}
theorem ext1 (lk : K.lookup f = some ⟨oc, od, .func (PySem.W.ksFn "__init__" qual params [supCall p0 p1 p2 p3 p4 [.Name a1 q1], .Assign [.Attribute (.Name "self" q2) f1 q3] (.Name a1 q4) q5] scope .none .none doc pm an (.ref cda) ct cc), osl⟩)
    (mgC : mg x = some (.ref C)) (hcd : PySem.W.codeIn K (.ref cda) qual = true) (T1 : SupC K P C cc cda) (TO : OexC K C) (iC : PySem.W.findIn K (.ref C) "__init__" = some (some (.ref f))) (tI : PySem.W.typeIn K (.ref f) = some (.type "function")) (hf1 : PySem.W.findIn K (.ref C) f1 = some none) (hms : mg "super" = none) (hC : T.exc c = C) (hn : T.fnm n1 = f1)
    (hS : nscB ["self", a1, "__class__"] ["self", a1] ["__class__"] scope = true) (har : ∃ ar, (params.posonlyargs ++ params.args).head? = some ar ∧ ar.arg = "self") (hsup : scope.names.lookup ("super" : Str) = some .globalImplicit) (hd1 : (a1 == ("__debug__" : Str)) = false) (hc1 : (a1 == ("__classdict__" : Str)) = false)
    (hb : ∀ us : List Value, us.length = 2 → bindArgs (PySem.W.ksFn "__init__" qual params [supCall p0 p1 p2 p3 p4 [.Name a1 q1], .Assign [.Attribute (.Name "self" q2) f1 q3] (.Name a1 q4) q5] scope .none .none doc pm an (.ref cda) ct cc) ⟨us, []⟩ = pure ((["self", a1] : List Str).zip us))
    (hev : ∀ env, eval (.Call (.Attribute (.Call (.Name "super" p0) [] [] p1) "__init__" p2) [.Name a1 q1] [] p3) env = (do
      let ov ← attributeBase (.Call (.Name "super" p0) [] [] p1) "__init__" env (eval (.Call (.Name "super" p0) [] [] p1) env)
      standAt p2.atName
      let (f, first) ← holding [ov] (getMethod ov "__init__" (pl env))
      callWith p3 f first (backTo p3 (starEach [.Name a1 q1] env)) [])) : ExT P w K mg base T 1 x c [n1] 1 :=
  ⟨C, [f1], ⟨TO, ⟨f, _, _, iC, tI, fn_x1 (pl := pl) lk hcd (nscope_by hS) T1 TO har hsup hms hf1 hd1 hc1 hev, .all hb⟩, mgC⟩, hC, by rw [List.map_cons, hn]; rfl, rfl⟩
theorem ext2 (lk : K.lookup f = some ⟨oc, od, .func (PySem.W.ksFn "__init__" qual params [supCall p0 p1 p2 p3 p4 [.Name a1 q1, .Name a2 q2], .Assign [.Attribute (.Name "self" q3) f1 q4] (.Name a1 q5) q6, .Assign [.Attribute (.Name "self" q7) f2 q8] (.Name a2 q9) r1] scope .none .none doc pm an (.ref cda) ct cc), osl⟩)
    (mgC : mg x = some (.ref C)) (hcd : PySem.W.codeIn K (.ref cda) qual = true) (T1 : SupC K P C cc cda) (TO : OexC K C) (iC : PySem.W.findIn K (.ref C) "__init__" = some (some (.ref f))) (tI : PySem.W.typeIn K (.ref f) = some (.type "function")) (hf1 : PySem.W.findIn K (.ref C) f1 = some none) (hf2 : PySem.W.findIn K (.ref C) f2 = some none) (hms : mg "super" = none) (hC : T.exc c = C) (hn : T.fnm n1 = f1) (hn2 : T.fnm n2 = f2)
    (hS : nscB ["self", a1, a2, "__class__"] ["self", a1, a2] ["__class__"] scope = true) (har : ∃ ar, (params.posonlyargs ++ params.args).head? = some ar ∧ ar.arg = "self") (hsup : scope.names.lookup ("super" : Str) = some .globalImplicit) (hd1 : (a1 == ("__debug__" : Str)) = false) (hc1 : (a1 == ("__classdict__" : Str)) = false) (hd2 : (a2 == ("__debug__" : Str)) = false) (hc2 : (a2 == ("__classdict__" : Str)) = false)
    (hb : ∀ us : List Value, us.length = 3 → bindArgs (PySem.W.ksFn "__init__" qual params [supCall p0 p1 p2 p3 p4 [.Name a1 q1, .Name a2 q2], .Assign [.Attribute (.Name "self" q3) f1 q4] (.Name a1 q5) q6, .Assign [.Attribute (.Name "self" q7) f2 q8] (.Name a2 q9) r1] scope .none .none doc pm an (.ref cda) ct cc) ⟨us, []⟩ = pure ((["self", a1, a2] : List Str).zip us))
    (hev : ∀ env, eval (.Call (.Attribute (.Call (.Name "super" p0) [] [] p1) "__init__" p2) [.Name a1 q1, .Name a2 q2] [] p3) env = (do
      let ov ← attributeBase (.Call (.Name "super" p0) [] [] p1) "__init__" env (eval (.Call (.Name "super" p0) [] [] p1) env)
      standAt p2.atName
      let (f, first) ← holding [ov] (getMethod ov "__init__" (pl env))
      callWith p3 f first (backTo p3 (starEach [.Name a1 q1, .Name a2 q2] env)) [])) : ExT P w K mg base T 1 x c [n2, n1] 2 :=
  ⟨C, [f1, f2], ⟨TO, ⟨f, _, _, iC, tI, fn_x2 (pl := pl) lk hcd (nscope_by hS) T1 TO har hsup hms hf1 hf2 hd1 hc1 hd2 hc2 hev, .all hb⟩, mgC⟩, hC, by rw [List.map_cons, List.map_cons, hn, hn2]; rfl, rfl⟩
end
/-- what an except clause of the class at S says of an exception of the class at C -/
theorem exm_of {K : PySem.W.Frag} {S C : Addr} {b : Bool} (h1 : PySem.W.subIn K (.ref S) (.type "BaseException") = some true) (h2 : PySem.W.isClsIn K S = true) (h3 : PySem.W.typeIn K (.ref S) = some (.type "type")) (h4 : PySem.W.subIn K (.ref C) (.ref S) = some b) :
    PySem.W.exmOne K (.ref C) (.ref S) = some b := by
  have h2' : (PySem.W.clsIn K S).isSome = true := h2
  have k : PySem.W.kitCls K (.ref C) (.ref S) = some b := by
    show (if ((PySem.W.clsIn K S).isSome && PySem.W.typeIn K (.ref S) == some (.type "type")) = true then PySem.W.subIn K (.ref C) (.ref S) else none) = some b
    rw [h2', h3]
    exact h4
  show (if (PySem.W.subIn K (.ref S) (.type "BaseException") == some true) = true then PySem.W.kitCls K (.ref C) (.ref S) else none) = some b
  rw [h1]
  exact k
/-- the law's promise from its def -/
def spTop (K : PySem.W.Frag) : Sp := fun vs H Q _ => ∃ (a : Addr) (ns : List Int), vs = [.ref a] ∧ SqL K H a (ns.map V.int) ∧ ns.length ≤ 63 ∧ ∀ H', Q (.bl true) H'
theorem top_of {K : PySem.W.Frag} {T : Tab} (hT : T.K = K) {F : FV} (h : ∀ ns : List Int, ns.length ≤ 63 → F [.scr (ns.map D.int)] = .ok (.bl true)) : ∀ vs H Q E, spTop K vs H Q E → spV T 1 F vs H Q E := by
  rintro vs H Q E ⟨a, ns, rfl, hs, hl, q⟩
  refine ⟨rfl, fun _ => none, H, [.scr (ns.map D.int)], ⟨L2.Same.refl _, rfl, fun i d e => by simp at e, fun i d e => by simp at e, fun i j d d' a e => by simp at e, fun a o e => (nomatch (show (none : Option HO) = some o from e)), fun i c ns vs e => by simp at e⟩, ?_, ?_⟩
  · refine .one ⟨a, ns.map V.int, rfl, hT ▸ hs, ?_⟩
    clear hs hl q
    induction ns with
    | nil => rfl
    | cons n r ih => exact ⟨_, _, rfl, rfl, ih⟩
  · rw [h ns hl]
    intro G' H' R s v r
    have r' : v = .bl true := r
    subst r'
    exact q H'
theorem FnG.imp {P : Program} {w : World} {K : PySem.W.Frag} {mg : Str → Option Value} {base : Heap} {CX : CXT} {k : Nat} {f : Addr} {fd : FuncData} {ps : List Str} {sp sp' : Sp} (F : FnG P w K mg base CX k f fd ps sp) (h : ∀ vs H Q E, sp' vs H Q E → sp vs H Q E) : FnG P w K mg base CX k f fd ps sp' :=
  ⟨fun vs H Q E q => F.len vs H Q E (h _ _ _ _ q), fun A outer s H args us vs Q E hg hr he hb hv hs => F.run A outer s H args us vs Q E hg hr he hb hv (h _ _ _ _ hs)⟩
end J

set_option Elab.async false
set_option linter.all false
set_option maxRecDepth 100000
namespace J
open PySem PySem.Spec PyProof.Rows L2
/-! ### equations for simp -/
variable {α : Type}
@[simp] theorem e_rVar (i : Nat) (ρ : En) : rVar i ρ = match ρ[i]? with | some (.sh _) => .ok (.s i) ρ | some (.ow _) => .ok (.s i) ρ | _ => .bad := rfl
@[simp] theorem e_rVal (f : EF) (ρ : En) : rVal f ρ = (f ρ).bnd fun d ρ' => .ok (.v d) ρ' := rfl
@[simp] theorem e_eVar (i : Nat) (ρ : En) : eVar i ρ = match ρ[i]? with
  | some (.sh d) => .ok d ρ
  | some (.ow d) => (match d with
    | .lst _ => .ok d (ρ.set i (.sh d))
    | .dct _ _ => .ok d (ρ.set i (.sh d))
    | .obj _ _ _ => .ok d (ρ.set i (.sh d))
    | _ => .bad)
  | _ => .bad := rfl
@[simp] theorem e_eC (d : D) (ρ : En) : eC d ρ = .ok d ρ := rfl
@[simp] theorem e_f2 (g : D → D → Option D) (fa fb : En → Rs Ar) (ρ : En) : f2 g fa fb ρ = (fa ρ).bnd fun a ρ1 => (fb ρ1).bnd fun b ρ2 => r2 g a b ρ2 := rfl
@[simp] theorem e_r2 (g : D → D → Option D) (a b : Ar) (ρ : En) : r2 g a b ρ = match look ρ a, look ρ b with
  | some d, some e => opt (g d e) ρ
  | _, _ => .bad := rfl
@[simp] theorem e_f1 (g : D → Option D) (fa : En → Rs Ar) (ρ : En) : f1 g fa ρ = (fa ρ).bnd fun a ρ1 => match look ρ1 a with
  | some d => opt (g d) ρ1
  | none => .bad := rfl
@[simp] theorem e_look_s (ρ : En) (i : Nat) : look ρ (.s i) = match ρ[i]? with
  | some (.sh d) => some d
  | some (.ow d) => some d
  | _ => none := rfl
@[simp] theorem e_looks_nil (ρ : En) : looks ρ [] = some [] := rfl
@[simp] theorem e_tB (f : EF) (ρ : En) : tB f ρ = (f ρ).bnd fun d ρ' => match d with
  | .bl b => .ok b ρ'
  | _ => .bad := rfl
@[simp] theorem e_tAnd (f g : TF) (ρ : En) : tAndJ f g ρ = (f ρ).bnd fun b ρ' => if b = true then g ρ' else .ok false ρ' := rfl
@[simp] theorem e_tOr (f g : TF) (ρ : En) : tOrJ f g ρ = (f ρ).bnd fun b ρ' => if b = true then .ok true ρ' else g ρ' := rfl
@[simp] theorem e_tNot (f : TF) (ρ : En) : tNotJ f ρ = (f ρ).bnd fun b ρ' => .ok (!b) ρ' := rfl
@[simp] theorem e_eIf (t : TF) (f g : EF) (ρ : En) : eIf t f g ρ = (t ρ).bnd fun b ρ' => if b = true then f ρ' else g ρ' := rfl
@[simp] theorem e_aNil (ρ : En) : aNil ρ = .ok [] ρ := rfl
@[simp] theorem e_aCons (f : En → Rs Ar) (g : AF) (ρ : En) : aCons f g ρ = (f ρ).bnd fun a ρ1 => (g ρ1).bnd fun as ρ2 => .ok (a :: as) ρ2 := rfl
@[simp] theorem e_eSeq (c : List D → D) (f : AF) (ρ : En) : eSeq c f ρ = (f ρ).bnd fun as ρ' => opt ((vals as).map c) ρ' := rfl
@[simp] theorem e_eCallB (g : List D → Option D) (f : AF) (ρ : En) : eCallB g f ρ = (f ρ).bnd fun as ρ' => match looks ρ' as with
  | some ds => opt (g ds) ρ'
  | none => .bad := rfl
@[simp] theorem e_eCall (F : FV) (dd : List D) (g : AF) (ρ : En) : eCall F dd g ρ = (g ρ).bnd fun as ρ' => match vals as with
  | some ds => (F (ds ++ dd)).at ρ'
  | none => .bad := rfl
@[simp] theorem e_sNil (ρ : En) : sNil ρ = .ok .nx ρ := rfl
@[simp] theorem e_sCons (f g : SF) (ρ : En) : sCons f g ρ = (f ρ).sq g := rfl
@[simp] theorem e_sExpr (f : EF) (ρ : En) : sExpr f ρ = (f ρ).bnd fun _ ρ' => .ok .nx ρ' := rfl
@[simp] theorem e_sRet (f : EF) (ρ : En) : sRet f ρ = (f ρ).bnd fun d ρ' => .ok (.rt d) ρ' := rfl
@[simp] theorem e_sIf (t : TF) (f g : SF) (ρ : En) : sIf t f g ρ = (t ρ).bnd fun b ρ' => if b = true then f ρ' else g ρ' := rfl
@[simp] theorem e_sSet (i : Nat) (f : EF) (ρ : En) : sSet i f ρ = (f ρ).bnd fun d ρ' => .ok .nx (ρ'.set i (.sh d)) := rfl
@[simp] theorem e_sSetO (i : Nat) (f : EF) (ρ : En) : sSetO i f ρ = (f ρ).bnd fun d ρ' => .ok .nx (ρ'.set i (.ow d)) := rfl
@[simp] theorem e_bName (i : Nat) (d : D) (ρ : En) : bName i d ρ = some (ρ.set i (.sh d)) := rfl
@[simp] theorem e_bNil (ρ : En) : bNil [] ρ = some ρ := rfl
@[simp] theorem e_bCons (b : BF) (c : BFs) (d : D) (r : List D) (ρ : En) : bCons b c (d :: r) ρ = (b d ρ).bind (c r) := rfl
@[simp] theorem e_bTup (n : Nat) (b : BFs) (ds : List D) (ρ : En) : bTup n b (.tup ds) ρ = if ds.length = n then b ds ρ else none := rfl
@[simp] theorem e_sAsg (f : EF) (b : BF) (ρ : En) : sAsg f b ρ = (f ρ).bnd fun d ρ' => match b d ρ' with
  | some ρ2 => .ok .nx ρ2
  | none => .bad := rfl
@[simp] theorem e_sPar (i j : Nat) (f : AF) (ρ : En) : sPar i j f ρ = (f ρ).bnd fun as ρ' => match vals as with
  | some [x, y] => .ok .nx ((ρ'.set i (.sh x)).set j (.sh y))
  | _ => .bad := rfl
@[simp] theorem e_iSeq (f : EF) (ρ : En) : iSeq f ρ = (f ρ).bnd fun d ρ' => opt (itemsD d) ρ' := rfl
@[simp] theorem e_iRng (g : List D → Option (List D)) (f : AF) (ρ : En) : iRng g f ρ = (f ρ).bnd fun as ρ' => match looks ρ' as with
  | some ds => opt (g ds) ρ'
  | none => .bad := rfl
@[simp] theorem e_sFor (f : LF) (b : BF) (body : SF) (ρ : En) : sFor f b body ρ = (f ρ).bnd fun ds ρ' => forS b body ds ρ' := rfl
@[simp] theorem e_eLc (i : LF) (b : BF) (vs : List Nat) (t : TF) (f : EF) (ρ : En) : eLc i b vs t f ρ = (i ρ).bnd fun ds ρ' => if noOw ρ' vs = true then lcS b vs t f ds [] ρ' else .bad := rfl
@[simp] theorem e_tYes (ρ : En) : tYesJ ρ = .ok true ρ := rfl
@[simp] theorem e_on1 (g : D → Option D) (d : D) : on1 g [d] = g d := rfl
@[simp] theorem e_on2 (g : D → D → Option D) (d e : D) : on2 g [d, e] = g d e := rfl
@[simp] theorem e_eIsT (t : String) (f : En → Rs Ar) (ρ : En) : eIsT t f ρ = (f ρ).bnd fun a ρ1 => match look ρ1 a with
  | some d => opt (isTD t d) ρ1
  | none => .bad := rfl
@[simp] theorem e_eIsTs (ts : List String) (f : En → Rs Ar) (ρ : En) : eIsTs ts f ρ = (f ρ).bnd fun a ρ1 => match look ρ1 a with
  | some d => opt (isTsD ts d) ρ1
  | none => .bad := rfl
@[simp] theorem e_sRaise (c : Nat) (ns : List Nat) (g : AF) (ρ : En) : sRaise c ns g ρ = (g ρ).bnd fun as ρ' => match vals as with
  | some ds => .ex c ns ds.reverse ρ'
  | none => .bad := rfl
@[simp] theorem e_eCut (fa : En → Rs Ar) (fl fh : En → Rs (Option Int)) (ρ : En) : eCut fa fl fh ρ = (fa ρ).bnd fun a ρ1 => (fl ρ1).bnd fun lo ρ2 => (fh ρ2).bnd fun hi ρ3 => match look ρ3 a with
  | some d => opt (cutD lo hi d) ρ3
  | none => .bad := rfl
@[simp] theorem e_sSub (i : Nat) (f : EF) (h : En → Rs Ar) (ρ : En) : sSub i f h ρ = (f ρ).bnd fun d ρ1 => match ownL ρ1 i with
  | some _ => (h ρ1).bnd fun a ρ2 => (match ownL ρ2 i, look ρ2 a with
    | some ds, some (.int k) => (match ixN ds.length k with
      | some j => .ok .nx (ρ2.set i (.ow (.lst (ds.set j d))))
      | none => .bad)
    | _, _ => .bad)
  | none => .bad := rfl
@[simp] theorem e_eCallL (F : FL) (g : AF) (ρ : En) : eCallL F g ρ = (g ρ).bnd fun as ρ' => match as with
  | .s i :: r => (match ρ'[i]?, vals r with
    | some (.ow d0), some ds => (match F d0 ds with
      | some (d, d1) => .ok d (ρ'.set i (.ow d1))
      | none => .bad)
    | _, _ => .bad)
  | _ => .bad := rfl
@[simp] theorem e_eMeth (i : Nat) (g : List D → List D → Option (D × List D)) (f : AF) (ρ : En) : eMeth i g f ρ = match ownL ρ i with
  | some _ => (f ρ).bnd fun as ρ' => (match ownL ρ' i, vals as with
    | some ds, some ys => (match g ds ys with
      | some (d, ds') => .ok d (ρ'.set i (.ow (.lst ds')))
      | none => .bad)
    | _, _ => .bad)
  | none => .bad := rfl
@[simp] theorem e_eLcOwn (i : Nat) (b : BF) (vs : List Nat) (t : TF) (f : EF) (ρ : En) : eLcOwn i b vs t f ρ = match ownL ρ i with
  | some ds => if noOw (ρ.set i .no) vs = true then (lcS b vs t f ds [] (ρ.set i .no)).bnd fun d ρ' => .ok d (ρ'.set i (.ow (.lst ds))) else .bad
  | none => .bad := rfl
@[simp] theorem e_sTryAs (i : Nat) (hm : Nat → Option Bool) (f g : SF) (ρ : En) : sTryAs i hm f g ρ = match f ρ with
  | .ok fl ρ' => .ok fl ρ'
  | .bad => .bad
  | .ex c ns vs ρ' => (match hm c with
    | some true => if noEx ρ' = true then (g (ρ'.set i (.ex c ns vs))).out i else .bad
    | some false => .ex c ns vs ρ'
    | none => .bad) := rfl
@[simp] theorem e_eXf (i n : Nat) (ok : Nat → Bool) (ρ : En) : eXf i n ok ρ = match ρ[i]? with
  | some (.ex c ns vs) => if ok c = true then opt (fget n ns vs) ρ else .bad
  | _ => .bad := rfl
@[simp] theorem e_tReprNe (f g : EF) (ρ : En) : tReprNe f g ρ = (f ρ).bnd fun d ρ1 => if reprOk d = true then (g ρ1).bnd fun e ρ2 => (if reprOk e = true then .ok (!decide ((toPy d).shown = (toPy e).shown)) ρ2 else .bad) else .bad := rfl
@[simp] theorem add_ii (a b : Int) : addD (.int a) (.int b) = some (.int (a + b)) := rfl
@[simp] theorem sub_ii (a b : Int) : subD (.int a) (.int b) = some (.int (a - b)) := rfl
@[simp] theorem mul_ii (a b : Int) : mulD (.int a) (.int b) = if CMul a b then some (.int (a * b)) else none := rfl
@[simp] theorem fdiv_ii (a b : Int) : fdivD (.int a) (.int b) = if CDivN a b then some (.int (a.fdiv b)) else none := rfl
@[simp] theorem mod_ii (a b : Int) : modD (.int a) (.int b) = if b ≠ 0 then some (.int (a.fmod b)) else none := rfl
@[simp] theorem neg_i (a : Int) : negD (.int a) = some (.int (-a)) := rfl
@[simp] theorem icmp_ii (p : Int → Int → Bool) (a b : Int) : icmp p (.int a) (.int b) = some (.bl (p a b)) := rfl
@[simp] theorem ixD_t (ds : List D) (i : Int) : ixD (.tup ds) (.int i) = L2.atI ds i := rfl
@[simp] theorem ixD_l (ds : List D) (i : Int) : ixD (.lst ds) (.int i) = L2.atI ds i := rfl
@[simp] theorem ixD_s (ds : List D) (i : Int) : ixD (.scr ds) (.int i) = L2.atI ds i := rfl
theorem ixN_nat (m n : Nat) : ixN m (n : Int) = if n < m then some n else none := by
  unfold ixN
  rw [if_pos (Int.natCast_nonneg n)]
  by_cases h : n < m
  · rw [if_pos h, if_pos (by omega)]; rfl
  · rw [if_neg h, if_neg (by omega)]
theorem atI_nat' {α : Type} (ds : List α) (n : Nat) : L2.atI ds (n : Int) = ds[n]? := by
  unfold L2.atI
  rw [ixN_nat]
  by_cases h : n < ds.length
  · rw [if_pos h]; rfl
  · rw [if_neg h, List.getElem?_eq_none (by omega)]; rfl
@[simp] theorem atI0 {α : Type} (ds : List α) : L2.atI ds 0 = ds[0]? := atI_nat' ds 0
@[simp] theorem atI1 {α : Type} (ds : List α) : L2.atI ds 1 = ds[1]? := atI_nat' ds 1
@[simp] theorem atI2 {α : Type} (ds : List α) : L2.atI ds 2 = ds[2]? := atI_nat' ds 2
@[simp] theorem atI3 {α : Type} (ds : List α) : L2.atI ds 3 = ds[3]? := atI_nat' ds 3
@[simp] theorem atI4 {α : Type} (ds : List α) : L2.atI ds 4 = ds[4]? := atI_nat' ds 4
@[simp] theorem atI5 {α : Type} (ds : List α) : L2.atI ds 5 = ds[5]? := atI_nat' ds 5
@[simp] theorem atI6 {α : Type} (ds : List α) : L2.atI ds 6 = ds[6]? := atI_nat' ds 6
@[simp] theorem atI7 {α : Type} (ds : List α) : L2.atI ds 7 = ds[7]? := atI_nat' ds 7
@[simp] theorem ixN0 (m : Nat) : ixN m 0 = if 0 < m then some 0 else none := ixN_nat m 0
@[simp] theorem ixN1 (m : Nat) : ixN m 1 = if 1 < m then some 1 else none := ixN_nat m 1
@[simp] theorem ixN2 (m : Nat) : ixN m 2 = if 2 < m then some 2 else none := ixN_nat m 2
@[simp] theorem ixN3 (m : Nat) : ixN m 3 = if 3 < m then some 3 else none := ixN_nat m 3
@[simp] theorem lenD_t (ds : List D) : lenD (.tup ds) = some (.int ds.length) := rfl
@[simp] theorem lenD_l (ds : List D) : lenD (.lst ds) = some (.int ds.length) := rfl
@[simp] theorem lenD_s (ds : List D) : lenD (.scr ds) = some (.int ds.length) := rfl
@[simp] theorem intD_i (i : Int) : intD (.int i) = some (.int i) := rfl
@[simp] theorem absD_i (i : Int) : absD (.int i) = some (.int (if i < 0 then -i else i)) := rfl
@[simp] theorem tupD_l (ds : List D) : tupD (.lst ds) = some (.tup ds) := rfl
@[simp] theorem tupD_t (ds : List D) : tupD (.tup ds) = some (.tup ds) := rfl
@[simp] theorem lstD_l (ds : List D) : lstD (.lst ds) = some (.lst ds) := rfl
@[simp] theorem lstD_t (ds : List D) : lstD (.tup ds) = some (.lst ds) := rfl
@[simp] theorem itemsD_l (ds : List D) : itemsD (.lst ds) = some ds := rfl
@[simp] theorem itemsD_t (ds : List D) : itemsD (.tup ds) = some ds := rfl
@[simp] theorem itemsD_s (ds : List D) : itemsD (.scr ds) = some ds := rfl
@[simp] theorem ownL_some (ρ : En) (i : Nat) : ownL ρ i = match (ρ[i]? : Option Sl) with
  | some (Sl.ow (D.lst ds)) => some ds
  | _ => none := rfl
@[simp] theorem e_eAnd (f g : EF) (ρ : En) : eAndJ f g ρ = (f ρ).bnd fun d ρ' => match d with
  | .bl true => g ρ'
  | .bl false => .ok (.bl false) ρ'
  | _ => .bad := rfl
@[simp] theorem e_eOr (f g : EF) (ρ : En) : eOrJ f g ρ = (f ρ).bnd fun d ρ' => match d with
  | .bl true => .ok (.bl true) ρ'
  | .bl false => g ρ'
  | _ => .bad := rfl
@[simp] theorem e_eNot (f : EF) (ρ : En) : eNotJ f ρ = (f ρ).bnd fun d ρ' => match d with
  | .bl b => .ok (.bl (!b)) ρ'
  | _ => .bad := rfl
@[simp] theorem e_pNo (ρ : En) : pNo ρ = .ok none ρ := rfl
@[simp] theorem e_pSome (f : EF) (ρ : En) : pSome f ρ = (f ρ).bnd fun d ρ' => match d with
  | .int i => .ok (some i) ρ'
  | _ => .bad := rfl
/-! ### a def's result -/
def toV : Rs Fl → Rv
  | .ok .nx _ => .ok .non
  | .ok (.rt d) _ => .ok d
  | .ex c ns vs _ => .ex c ns vs
  | .bad => .bad
@[simp] theorem e_fnV (m : Nat) (body : SF) (ds : List D) : fnV m body ds = toV (body (ds.map .sh ++ List.replicate m .no)) := by
  unfold fnV toV
  cases body (ds.map .sh ++ List.replicate m .no) with
  | ok a ρ => cases a <;> rfl
  | ex _ _ _ _ => rfl
  | bad => rfl
@[simp] theorem toV_nx (ρ : En) : toV (.ok .nx ρ) = .ok .non := rfl
@[simp] theorem toV_rt (d : D) (ρ : En) : toV (.ok (.rt d) ρ) = .ok d := rfl
@[simp] theorem toV_ex (c : Nat) (ns : List Nat) (vs : List D) (ρ : En) : toV (.ex c ns vs ρ) = .ex c ns vs := rfl
@[simp] theorem toV_at (r : Rv) (ρ : En) : toV ((r.at ρ).bnd fun d ρ' => .ok (.rt d) ρ') = r := by cases r <;> rfl
def toL : Rs Fl → Option (D × D)
  | .ok .nx ρ => ow0 ρ .non
  | .ok (.rt d) ρ => ow0 ρ d
  | _ => none
@[simp] theorem e_fnL (m : Nat) (body : SF) (d0 : D) (ds : List D) : fnL m body d0 ds = toL (body (.ow d0 :: (ds.map .sh ++ List.replicate m .no))) := by
  unfold fnL toL
  cases body (.ow d0 :: (ds.map .sh ++ List.replicate m .no)) with
  | ok a ρ => cases a <;> rfl
  | ex _ _ _ _ => rfl
  | bad => rfl
@[simp] theorem toL_rt (d d0 : D) (ρ : En) : toL (.ok (.rt d) (.ow d0 :: ρ)) = some (d, d0) := rfl
@[simp] theorem toL_nx (d0 : D) (ρ : En) : toL (.ok .nx (.ow d0 :: ρ)) = some (.non, d0) := rfl
@[simp] theorem pow_ii (a b : Int) : powD (.int a) (.int b) = if CPow a b then some (.int (a ^ b.toNat)) else none := rfl
@[simp] theorem isT_int_non : isTD "int" .non = some (.bl false) := by rfl
@[simp] theorem isT_int_bl (b : Bool) : isTD "int" (.bl b) = some (.bl true) := by rfl
@[simp] theorem isT_int_int (i : Int) : isTD "int" (.int i) = some (.bl true) := by rfl
@[simp] theorem isT_int_str (s : Str) : isTD "int" (.str s) = some (.bl false) := by rfl
@[simp] theorem isT_int_tup (ds : List D) : isTD "int" (.tup ds) = some (.bl false) := by rfl
@[simp] theorem isT_int_lst (ds : List D) : isTD "int" (.lst ds) = some (.bl false) := by rfl
@[simp] theorem isT_int_dct (ks ds : List D) : isTD "int" (.dct ks ds) = some (.bl false) := by rfl
@[simp] theorem isT_bool_non : isTD "bool" .non = some (.bl false) := by rfl
@[simp] theorem isT_bool_bl (b : Bool) : isTD "bool" (.bl b) = some (.bl true) := by rfl
@[simp] theorem isT_bool_int (i : Int) : isTD "bool" (.int i) = some (.bl false) := by rfl
@[simp] theorem isT_bool_str (s : Str) : isTD "bool" (.str s) = some (.bl false) := by rfl
@[simp] theorem isT_bool_tup (ds : List D) : isTD "bool" (.tup ds) = some (.bl false) := by rfl
@[simp] theorem isT_bool_lst (ds : List D) : isTD "bool" (.lst ds) = some (.bl false) := by rfl
@[simp] theorem isT_bool_dct (ks ds : List D) : isTD "bool" (.dct ks ds) = some (.bl false) := by rfl
@[simp] theorem isT_str_non : isTD "str" .non = some (.bl false) := by rfl
@[simp] theorem isT_str_bl (b : Bool) : isTD "str" (.bl b) = some (.bl false) := by rfl
@[simp] theorem isT_str_int (i : Int) : isTD "str" (.int i) = some (.bl false) := by rfl
@[simp] theorem isT_str_str (s : Str) : isTD "str" (.str s) = some (.bl true) := by rfl
@[simp] theorem isT_str_tup (ds : List D) : isTD "str" (.tup ds) = some (.bl false) := by rfl
@[simp] theorem isT_str_lst (ds : List D) : isTD "str" (.lst ds) = some (.bl false) := by rfl
@[simp] theorem isT_str_dct (ks ds : List D) : isTD "str" (.dct ks ds) = some (.bl false) := by rfl
@[simp] theorem isT_list_non : isTD "list" .non = some (.bl false) := by rfl
@[simp] theorem isT_list_bl (b : Bool) : isTD "list" (.bl b) = some (.bl false) := by rfl
@[simp] theorem isT_list_int (i : Int) : isTD "list" (.int i) = some (.bl false) := by rfl
@[simp] theorem isT_list_str (s : Str) : isTD "list" (.str s) = some (.bl false) := by rfl
@[simp] theorem isT_list_tup (ds : List D) : isTD "list" (.tup ds) = some (.bl false) := by rfl
@[simp] theorem isT_list_lst (ds : List D) : isTD "list" (.lst ds) = some (.bl true) := by rfl
@[simp] theorem isT_list_dct (ks ds : List D) : isTD "list" (.dct ks ds) = some (.bl false) := by rfl
@[simp] theorem isT_tuple_non : isTD "tuple" .non = some (.bl false) := by rfl
@[simp] theorem isT_tuple_bl (b : Bool) : isTD "tuple" (.bl b) = some (.bl false) := by rfl
@[simp] theorem isT_tuple_int (i : Int) : isTD "tuple" (.int i) = some (.bl false) := by rfl
@[simp] theorem isT_tuple_str (s : Str) : isTD "tuple" (.str s) = some (.bl false) := by rfl
@[simp] theorem isT_tuple_tup (ds : List D) : isTD "tuple" (.tup ds) = some (.bl true) := by rfl
@[simp] theorem isT_tuple_lst (ds : List D) : isTD "tuple" (.lst ds) = some (.bl false) := by rfl
@[simp] theorem isT_tuple_dct (ks ds : List D) : isTD "tuple" (.dct ks ds) = some (.bl false) := by rfl
@[simp] theorem isT_dict_non : isTD "dict" .non = some (.bl false) := by rfl
@[simp] theorem isT_dict_bl (b : Bool) : isTD "dict" (.bl b) = some (.bl false) := by rfl
@[simp] theorem isT_dict_int (i : Int) : isTD "dict" (.int i) = some (.bl false) := by rfl
@[simp] theorem isT_dict_str (s : Str) : isTD "dict" (.str s) = some (.bl false) := by rfl
@[simp] theorem isT_dict_tup (ds : List D) : isTD "dict" (.tup ds) = some (.bl false) := by rfl
@[simp] theorem isT_dict_lst (ds : List D) : isTD "dict" (.lst ds) = some (.bl false) := by rfl
@[simp] theorem isT_dict_dct (ks ds : List D) : isTD "dict" (.dct ks ds) = some (.bl true) := by rfl
@[simp] theorem isTs_tuple_list_non : isTsD ["tuple", "list"] .non = some (.bl false) := by rfl
@[simp] theorem isTs_tuple_list_bl (b : Bool) : isTsD ["tuple", "list"] (.bl b) = some (.bl false) := by rfl
@[simp] theorem isTs_tuple_list_int (i : Int) : isTsD ["tuple", "list"] (.int i) = some (.bl false) := by rfl
@[simp] theorem isTs_tuple_list_str (s : Str) : isTsD ["tuple", "list"] (.str s) = some (.bl false) := by rfl
@[simp] theorem isTs_tuple_list_tup (ds : List D) : isTsD ["tuple", "list"] (.tup ds) = some (.bl true) := by rfl
@[simp] theorem isTs_tuple_list_lst (ds : List D) : isTsD ["tuple", "list"] (.lst ds) = some (.bl true) := by rfl
@[simp] theorem isTs_tuple_list_dct (ks ds : List D) : isTsD ["tuple", "list"] (.dct ks ds) = some (.bl false) := by rfl
@[simp] theorem isTs_list_tuple_non : isTsD ["list", "tuple"] .non = some (.bl false) := by rfl
@[simp] theorem isTs_list_tuple_bl (b : Bool) : isTsD ["list", "tuple"] (.bl b) = some (.bl false) := by rfl
@[simp] theorem isTs_list_tuple_int (i : Int) : isTsD ["list", "tuple"] (.int i) = some (.bl false) := by rfl
@[simp] theorem isTs_list_tuple_str (s : Str) : isTsD ["list", "tuple"] (.str s) = some (.bl false) := by rfl
@[simp] theorem isTs_list_tuple_tup (ds : List D) : isTsD ["list", "tuple"] (.tup ds) = some (.bl true) := by rfl
@[simp] theorem isTs_list_tuple_lst (ds : List D) : isTsD ["list", "tuple"] (.lst ds) = some (.bl true) := by rfl
@[simp] theorem isTs_list_tuple_dct (ks ds : List D) : isTsD ["list", "tuple"] (.dct ks ds) = some (.bl false) := by rfl
/-! ### loops, one turn at a time -/
theorem lcS_cons (b : BF) (vs : List Nat) (t : TF) (f : EF) (d : D) (ds acc : List D) (ρ : En) : lcS b vs t f (d :: ds) acc ρ = match b d (wipeE ρ vs) with
    | none => .bad
    | some ρ1 => (t ρ1).calm.bnd fun ok ρ2 => if ok = true then (f ρ2).calm.bnd fun y ρ3 => lcS b vs t f ds (acc ++ [y]) (rst ρ ρ3 vs) else lcS b vs t f ds acc (rst ρ ρ2 vs) := rfl
theorem lcS_step {b : BF} {vs : List Nat} {t : TF} {f : EF} {d : D} {ds acc ys : List D} {ρ ρ' : En} (h : lcS b vs t f [d] [] ρ = .ok (.lst ys) ρ') : lcS b vs t f (d :: ds) acc ρ = lcS b vs t f ds (acc ++ ys) ρ' := by
  rw [lcS_cons] at h ⊢
  cases e : b d (wipeE ρ vs) with
  | none => rw [e] at h; cases h
  | some ρ1 =>
    rw [e] at h
    dsimp only at h ⊢
    cases e2 : t ρ1 with
    | bad => rw [e2] at h; cases h
    | ex _ _ _ _ => rw [e2] at h; cases h
    | ok c ρ2 =>
      rw [e2] at h
      simp only [Rs.calm_ok, Rs.bnd_ok] at h ⊢
      cases c with
      | false =>
        rw [if_neg Bool.false_ne_true] at h ⊢
        cases h
        rw [List.append_nil]
      | true =>
        rw [if_pos rfl] at h ⊢
        cases e3 : f ρ2 with
        | bad => rw [e3] at h; cases h
        | ex _ _ _ _ => rw [e3] at h; cases h
        | ok y ρ3 =>
          rw [e3] at h
          simp only [Rs.calm_ok, Rs.bnd_ok] at h ⊢
          cases h
          rfl
theorem lcS_all {α : Type} {b : BF} {vs : List Nat} {t : TF} {f : EF} {ρ : En} {e : α → D} {q : α → List D} : ∀ {l : List α} {acc : List D}, (∀ a ∈ l, lcS b vs t f [e a] [] ρ = .ok (.lst (q a)) ρ) → lcS b vs t f (l.map e) acc ρ = .ok (.lst (acc ++ l.flatMap q)) ρ
  | [], acc, _ => by simp [lcS]
  | a :: l, acc, h => by
    rw [List.map_cons, lcS_step (h a List.mem_cons_self), lcS_all fun c hc => h c (List.mem_cons_of_mem _ hc)]
    simp
/-- .. where the slots change -/
theorem lcS_run {α σ : Type} {b : BF} {vs : List Nat} {t : TF} {f : EF} {enc : σ → En} {e : α → D} (I : σ → Prop) (P : α → List D → Prop) : ∀ {l : List α} {acc : List D} {s : σ}, I s → (∀ a ∈ l, ∀ s, I s → ∃ (s' : σ) (y : List D), lcS b vs t f [e a] [] (enc s) = .ok (.lst y) (enc s') ∧ I s' ∧ P a y) →
    ∃ (s' : σ) (ys : List (List D)), lcS b vs t f (l.map e) acc (enc s) = .ok (.lst (acc ++ ys.flatten)) (enc s') ∧ I s' ∧ ys.length = l.length ∧ ∀ (i : Nat) (a : α) (y : List D), l[i]? = some a → ys[i]? = some y → P a y
  | [], acc, s, hs, _ => ⟨s, [], by simp [lcS], hs, rfl, fun i a y h => by simp at h⟩
  | a :: l, acc, s, hs, h => by
    obtain ⟨s1, y, e1, h1, p1⟩ := h a List.mem_cons_self s hs
    obtain ⟨s2, ys, e2, h2, l2, p2⟩ := lcS_run (acc := acc ++ y) I P h1 fun c hc => h c (List.mem_cons_of_mem _ hc)
    refine ⟨s2, y :: ys, ?_, h2, by simp [l2], fun i c z hc hz => ?_⟩
    · rw [List.map_cons, lcS_step e1, e2]
      simp
    · cases i with
      | zero => cases hc; cases hz; exact p1
      | succ i => exact p2 i c z hc hz
theorem forS_cons (b : BF) (body : SF) (d : D) (ds : List D) (ρ : En) : forS b body (d :: ds) ρ = match b d ρ with
    | some ρ1 => (body ρ1).sq (forS b body ds)
    | none => .bad := rfl
@[simp] theorem forS_nil (b : BF) (body : SF) (ρ : En) : forS b body [] ρ = .ok .nx ρ := rfl
theorem sq_nil (r : Rs Fl) : (r.sq fun ρ => .ok .nx ρ) = r := by
  cases r with
  | ok a ρ => cases a <;> rfl
  | ex _ _ _ _ => rfl
  | bad => rfl
theorem forS_step (b : BF) (body : SF) (d : D) (ds : List D) (ρ : En) : forS b body (d :: ds) ρ = (forS b body [d] ρ).sq (forS b body ds) := by
  rw [forS_cons, forS_cons]
  cases b d ρ with
  | none => rfl
  | some ρ1 =>
    show _ = ((body ρ1).sq fun ρ => .ok .nx ρ).sq _
    rw [sq_nil]
theorem forS_run {α σ : Type} {b : BF} {body : SF} {enc : σ → En} {e : α → D} (step : σ → α → σ) (I : σ → Prop) : ∀ {l : List α} {s : σ}, I s → (∀ a ∈ l, ∀ s, I s → forS b body [e a] (enc s) = .ok .nx (enc (step s a)) ∧ I (step s a)) →
    forS b body (l.map e) (enc s) = .ok .nx (enc (l.foldl step s)) ∧ I (l.foldl step s)
  | [], s, hs, _ => ⟨rfl, hs⟩
  | a :: l, s, hs, h => by
    obtain ⟨e1, h1⟩ := h a List.mem_cons_self s hs
    obtain ⟨e2, h2⟩ := forS_run step I (l := l) h1 fun c hc => h c (List.mem_cons_of_mem _ hc)
    exact ⟨by rw [List.map_cons, forS_step, e1, Rs.sq_nx, e2]; rfl, h2⟩
/-- .. an invariant by the turn -/
theorem forS_inv {α : Type} {b : BF} {body : SF} {e : α → D} (I : Nat → En → Prop) : ∀ {l : List α} {ρ : En} {k : Nat}, I k ρ → (∀ (i : Nat) (a : α) ρ, l[i]? = some a → I (k + i) ρ → ∃ ρ', forS b body [e a] ρ = .ok .nx ρ' ∧ I (k + i + 1) ρ') →
    ∃ ρ', forS b body (l.map e) ρ = .ok .nx ρ' ∧ I (k + l.length) ρ'
  | [], ρ, k, h, _ => ⟨ρ, rfl, h⟩
  | a :: l, ρ, k, h, hs => by
    obtain ⟨ρ1, e1, h1⟩ := hs 0 a ρ rfl h
    obtain ⟨ρ2, e2, h2⟩ := forS_inv I (l := l) (k := k + 1) h1 fun i c ρ hc hi => by
      have z := hs (i + 1) c ρ (by simpa using hc) (by rw [show k + (i + 1) = k + 1 + i by omega]; exact hi)
      rw [show k + (i + 1) + 1 = k + 1 + i + 1 by omega] at z
      exact z
    exact ⟨ρ2, by rw [List.map_cons, forS_step, e1, Rs.sq_nx, e2], by rw [List.length_cons, show k + (l.length + 1) = k + 1 + l.length by omega]; exact h2⟩
theorem whileS_succ (c : TF) (b : SF) (n : Nat) (ρ : En) : whileS c b (n + 1) ρ = (c ρ).bnd fun t ρ1 => if t = true then (b ρ1).sq (whileS c b n) else .ok .nx ρ1 := rfl
/-- a while, by what becomes smaller -/
theorem whileS_run {σ : Type} {c : TF} {b : SF} {enc : σ → En} (go : σ → Bool) (step : σ → σ) (m : σ → Nat) (I : σ → Prop) (hc : ∀ s, I s → c (enc s) = .ok (go s) (enc s)) (hb : ∀ s, I s → go s = true → b (enc s) = .ok .nx (enc (step s)) ∧ I (step s) ∧ m (step s) < m s) :
    ∀ {n : Nat} {s : σ}, I s → m s < n → ∃ s', whileS c b n (enc s) = .ok .nx (enc s') ∧ I s' ∧ go s' = false ∧ ∃ k, s' = Nat.repeat step k s
  | 0, s, _, h => by omega
  | n + 1, s, hs, h => by
    rw [whileS_succ, hc s hs]
    cases e : go s with
    | false => exact ⟨s, rfl, hs, e, 0, rfl⟩
    | true =>
      obtain ⟨e1, h1, h2⟩ := hb s hs e
      obtain ⟨s', e2, h3, h4, k, hk⟩ := whileS_run go step m I hc hb (n := n) h1 (by omega)
      refine ⟨s', ?_, h3, h4, k + 1, ?_⟩
      · simp only [Rs.bnd_ok, if_true]
        rw [e1, Rs.sq_nx, e2]
      · rw [hk]
        clear hk
        induction k with
        | zero => rfl
        | succ k ih => show step _ = step _; rw [ih]
end J

set_option Elab.async false
set_option linter.all false
set_option maxRecDepth 100000
set_option maxHeartbeats 4000000
namespace J
open PySem PySem.Spec PyProof.Rows L2
/-! ### the draws -/
def b_taken : SF :=
  (sCons (sIf (tB (f2 gtD (rVal (f2 ixD (rVar 0) (rVal (eC (.int 3))))) (rVal (eC (.int 0))))) (sCons (sSet 3 (f2 modD (rVal (eCallB (on1 intD) (aCons (rVal (f2 ixD (rVar 0) (rVal (eC (.int 3))))) aNil))) (rVar 1)))
  (sCons (sSub 0 (f2 fdivD (rVal (f2 ixD (rVar 0) (rVal (eC (.int 3))))) (rVar 1)) (rVal (eC (.int 3))))
  (sRet (eVar 3)))) sNil)
  (sCons (sSub 0 (f2 addD (rVal (f2 ixD (rVar 0) (rVal (eC (.int 1))))) (rVal (eC (.int 1)))) (rVal (eC (.int 1))))
  (sCons (sIf (tB (f2 gtD (rVal (f2 ixD (rVar 0) (rVal (eC (.int 1))))) (rVal (eCallB (on1 lenD) (aCons (rVal (f2 ixD (rVar 0) (rVal (eC (.int 0))))) aNil))))) (sCons (sSub 0 (f2 modD (rVal (eCallB (on1 intD) (aCons (rVal (f2 addD (rVal (f2 mulD (rVal (f2 ixD (rVar 0) (rVal (eC (.int 2))))) (rVal (eC (.int 48271))))) (rVal (eC (.int 11))))) aNil))) (rVal (eC (.int 2147483647)))) (rVal (eC (.int 2))))
  (sRet (f2 modD (rVal (eCallB (on1 intD) (aCons (rVal (f2 fdivD (rVal (f2 ixD (rVar 0) (rVal (eC (.int 2))))) (rVal (eC (.int 7))))) aNil))) (rVar 1)))) sNil)
  (sCons (sSet 2 (f2 ixD (rVal (f2 ixD (rVar 0) (rVal (eC (.int 0))))) (rVal (f2 subD (rVal (f2 ixD (rVar 0) (rVal (eC (.int 1))))) (rVal (eC (.int 1)))))))
  (sCons (sSub 0 (f2 modD (rVal (eCallB (on1 intD) (aCons (rVal (f2 addD (rVal (f2 addD (rVal (f2 mulD (rVal (f2 ixD (rVar 0) (rVal (eC (.int 2))))) (rVal (eC (.int 48271))))) (rVar 2))) (rVal (eC (.int 11))))) aNil))) (rVal (eC (.int 2147483647)))) (rVal (eC (.int 2))))
  (sCons (sIf (tB (f2 geD (rVar 2) (rVal (f2 powD (rVal (eC (.int 10))) (rVal (eC (.int 18))))))) (sSub 0 (f2 fdivD (rVar 2) (rVar 1)) (rVal (eC (.int 3)))) sNil)
  (sRet (f2 modD (rVal (eCallB (on1 intD) (aCons (rVar 2) aNil))) (rVar 1)))))))))
def takenF : FL := fnL 2 b_taken
structure Dr where
  i : Int
  mix : Int
  rest : Int
def Dr.ok (s : Dr) : Prop := 0 ≤ s.i ∧ 0 ≤ s.mix ∧ s.mix ≤ 2147483647 ∧ 0 ≤ s.rest
def encR (ns : List Int) (s : Dr) : D := .lst [.scr (ns.map D.int), .int s.i, .int s.mix, .int s.rest]
theorem taken_ok (ns : List Int) (s : Dr) (h : s.ok) (many : Int) (hm : 1 ≤ many) (hm2 : many < 1073741824) : ∃ v s', takenF (encR ns s) [.int many] = some (.int v, encR ns s') ∧ s'.ok ∧ 0 ≤ v ∧ v < many := by
  obtain ⟨i, mix, rest⟩ := s
  obtain ⟨h1, h2, h3, h4⟩ := h
  dsimp only at h1 h2 h3 h4
  have cm : CMul mix 48271 := .inr ⟨by decide, by decide⟩
  have cd : ∀ a, CDivN a many := fun a => ⟨by omega, by omega⟩
  have cd7 : ∀ a, CDivN a 7 := fun a => ⟨by decide, by decide⟩
  have cp : CPow 10 18 := ⟨by decide, by decide, by decide⟩
  have hne : many ≠ 0 := by omega
  by_cases hr : 0 < rest
  · refine ⟨rest.fmod many, ⟨i, mix, rest.fdiv many⟩, ?_, ⟨h1, h2, h3, ?_⟩, ?_, ?_⟩
    · simp [takenF, b_taken, encR, hr, hne, cd, h1]
    · exact Int.fdiv_nonneg (by omega) (by omega)
    · exact Int.fmod_nonneg (by omega) (by omega)
    · exact Int.fmod_lt_of_pos _ (by omega)
  · have hr' : rest = 0 := by omega
    subst hr'
    have mo : ∀ a : Int, 0 ≤ a.fmod 2147483647 ∧ a.fmod 2147483647 ≤ 2147483647 := fun a => ⟨Int.fmod_nonneg_of_pos _ (by decide), by have := Int.fmod_lt_of_pos a (b := 2147483647) (by decide); omega⟩
    have m7 : ∀ a : Int, 0 ≤ a.fmod many ∧ a.fmod many < many := fun a => ⟨Int.fmod_nonneg_of_pos _ (by omega), Int.fmod_lt_of_pos _ (by omega)⟩
    by_cases hl : (ns.length : Int) < i + 1
    · refine ⟨(((mix * 48271 + 11).fmod 2147483647).fdiv 7).fmod many, ⟨i + 1, (mix * 48271 + 11).fmod 2147483647, 0⟩, ?_, ⟨by show 0 ≤ i + 1; omega, (mo _).1, (mo _).2, Int.le_refl _⟩, m7 _⟩
      simp [takenF, b_taken, encR, hne, cd7, cm, hl]
    · have hi : i.toNat < ns.length := by omega
      have hat : L2.atI (ns.map D.int) (i + 1 - 1) = some (.int ns[i.toNat]) := by
        rw [show i + 1 - 1 = ((i.toNat : Nat) : Int) by omega, atI_nat', List.getElem?_map, List.getElem?_eq_getElem hi]
        rfl
      have hat' : L2.atI (ns.map D.int) i = some (.int ns[i.toNat]) := by
        rw [show i + 1 - 1 = i by omega] at hat; exact hat
      by_cases hc : (1000000000000000000 : Int) ≤ ns[i.toNat]
      · refine ⟨ns[i.toNat].fmod many, ⟨i + 1, (mix * 48271 + ns[i.toNat] + 11).fmod 2147483647, ns[i.toNat].fdiv many⟩, ?_, ⟨by show 0 ≤ i + 1; omega, (mo _).1, (mo _).2, Int.fdiv_nonneg (by omega) (by omega)⟩, m7 _⟩
        simp [takenF, b_taken, encR, hne, cm, cp, cd, hl, hat, hat', hc]
      · refine ⟨ns[i.toNat].fmod many, ⟨i + 1, (mix * 48271 + ns[i.toNat] + 11).fmod 2147483647, 0⟩, ?_, ⟨by show 0 ≤ i + 1; omega, (mo _).1, (mo _).2, Int.le_refl _⟩, m7 _⟩
        simp [takenF, b_taken, encR, hne, cm, cp, hl, hat, hat', hc]
/-! ### two answers alike -/
def b_alike (rec : FV) : SF :=
  (sCons (sIf (tB (eIsTs ["tuple", "list"] (rVar 1))) (sCons (sIf (tOrJ (tNotJ (tB (eIsTs ["tuple", "list"] (rVar 0)))) (tB (f2 neD (rVal (eIsT "list" (rVar 0))) (rVal (eIsT "list" (rVar 1)))))) (sRet (eC (.bl false))) sNil)
  (sCons (sIf (tB (f2 neD (rVal (eCallB (on1 lenD) (aCons (rVar 0) aNil))) (rVal (eCallB (on1 lenD) (aCons (rVar 1) aNil))))) (sRet (eC (.bl false))) sNil)
  (sRet (f2 eqD (rVal (eLc (iRng rng1 (aCons (rVal (eCallB (on1 lenD) (aCons (rVar 1) aNil))) aNil)) (bName 2) [2] (tNotJ (tB (eCall rec [] (aCons (rVal (f2 ixD (rVar 0) (rVar 2))) (aCons (rVal (f2 ixD (rVar 1) (rVar 2))) aNil))))) (eVar 2))) (rVal (eSeq .lst aNil)))))) sNil)
  (sCons (sIf (tOrJ (tB (f2 isNonD (rVar 1) (rVal (eC .non)))) (tB (eIsT "str" (rVar 1)))) (sRet (eAndJ (f2 eqD (rVar 0) (rVar 1)) (f2 eqD (rVal (eIsT "str" (rVar 0))) (rVal (eIsT "str" (rVar 1)))))) sNil)
  (sRet (eAndJ (eIsT "int" (rVar 0)) (eAndJ (f2 eqD (rVal (eIsT "bool" (rVar 0))) (rVal (eIsT "bool" (rVar 1)))) (f2 eqD (rVar 0) (rVar 1)))))))
def alikeF : Nat → FV
  | 0 => fun _ => .bad
  | n + 1 => fnV 1 (b_alike (alikeF n))
/-- plain data, short -/
def sz : Nat → D → Bool
  | 0, _ => false
  | n + 1, d => match d with
    | .tup ds => decide (ds.length ≤ 16777216) && ds.all (sz n)
    | .lst ds => decide (ds.length ≤ 16777216) && ds.all (sz n)
    | .non => true
    | .bl _ => true
    | .int _ => true
    | .str _ => true
    | _ => false
theorem rng1_nat (n : Nat) (h : n ≤ 16777216) : rng1 [.int (n : Int)] = some ((List.range n).map fun i => .int (i : Nat)) := by
  show (if -(2 ^ 62) ≤ (n : Int) ∧ (n : Int) ≤ 16777216 then some (rangeL 0 (n : Int).toNat) else none) = _
  rw [if_pos ⟨by omega, by omega⟩]
  unfold rangeL
  congr 1
  apply List.map_congr_left
  intro a _
  simp
@[simp] theorem looks_one (ρ : En) (d : D) : looks ρ [.v d] = some [d] := rfl
theorem alike_seq {n : Nat} {d : D} {ds : List D} (hd : d = .tup ds ∨ d = .lst ds) (hl : ds.length ≤ 16777216) (ih : ∀ e ∈ ds, alikeF n [e, e] = .ok (.bl true)) : alikeF (n + 1) [d, d] = .ok (.bl true) := by
  have key : ∀ (ρ : En), ρ = [.sh d, .sh d, .no] → lcS (bName 2) [2] (tNotJ (tB (eCall (alikeF n) [] (aCons (rVal (f2 ixD (rVar 0) (rVar 2))) (aCons (rVal (f2 ixD (rVar 1) (rVar 2))) aNil))))) (eVar 2) ((List.range ds.length).map fun i => D.int (i : Nat)) [] ρ = .ok (.lst []) ρ := by
    rintro ρ rfl
    rw [lcS_all (q := fun _ => []) fun a ha => ?_]
    · simp
    · have ha := List.mem_range.mp ha
      have e1 := ih ds[a] (List.getElem_mem ha)
      rcases hd with rfl | rfl <;> simp [lcS, wipeE, rst, atI_nat', ha, e1]
  have r1 := rng1_nat ds.length hl
  rcases hd with rfl | rfl
  · simp [alikeF, b_alike, r1, noOw, key, neD, eqD, okE, okEs, eqv, eqvs]
  · simp [alikeF, b_alike, r1, noOw, key, neD, eqD, okE, okEs, eqv, eqvs]
theorem alike_refl : ∀ (n : Nat) (d : D), sz n d = true → alikeF n [d, d] = .ok (.bl true)
  | 0, d, h => by cases h
  | n + 1, .tup ds, h => by
    have h : (decide (ds.length ≤ 16777216) && ds.all (sz n)) = true := h
    rw [Bool.and_eq_true] at h
    exact alike_seq (.inl rfl) (of_decide_eq_true h.1) fun e he => alike_refl n e (List.all_eq_true.mp h.2 e he)
  | n + 1, .lst ds, h => by
    have h : (decide (ds.length ≤ 16777216) && ds.all (sz n)) = true := h
    rw [Bool.and_eq_true] at h
    exact alike_seq (.inr rfl) (of_decide_eq_true h.1) fun e he => alike_refl n e (List.all_eq_true.mp h.2 e he)
  | n + 1, .non, h => by simp [alikeF, b_alike, isNonD, neD, eqD, okE, eqv]
  | n + 1, .bl b, h => by simp [alikeF, b_alike, isNonD, neD, eqD, okE, eqv]
  | n + 1, .int b, h => by simp [alikeF, b_alike, isNonD, neD, eqD, okE, eqv]
  | n + 1, .str b, h => by simp [alikeF, b_alike, isNonD, neD, eqD, okE, eqv]
  | n + 1, .dct _ _, h => by cases h
  | n + 1, .obj _ _ _, h => by cases h
  | n + 1, .fn _, h => by cases h
  | n + 1, .scr _, h => by cases h
def b_truth : SF :=
  (sRet (eAndJ (eIsT "bool" (rVar 0)) (f2 eqD (rVar 0) (rVar 1))))
def truthF : FV := fnV 0 b_truth
theorem truth_ok (b : Bool) : truthF [.bl b, .bl b] = .ok (.bl true) := by simp [truthF, b_truth, eqD, okE, eqv]
/-! ### lists -/
theorem insD_ok (ds : List D) (y : D) (k : Nat) (hk : k ≤ 1000000) (hl : ds.length ≤ 1000000) : insD ds [.int (k : Int), y] = some (.non, ds.take k ++ [y] ++ ds.drop k) := by
  have h : ds.length < sizeLine ∧ 0 ≤ (k : Int) ∧ (k : Int) < 2 ^ 63 := ⟨by rw [sizeLine_eq]; omega, by omega, by omega⟩
  show (if ds.length < sizeLine ∧ 0 ≤ (k : Int) ∧ (k : Int) < 2 ^ 63 then some (D.non, ds.take (k : Int).toNat ++ [y] ++ ds.drop (k : Int).toNat) else none) = _
  rw [if_pos h]
  rfl
theorem appD_ok (ds : List D) (y : D) (hl : ds.length ≤ 1000000) : appD ds [y] = some (.non, ds ++ [y]) := by
  show (if ds.length < sizeLine then some (D.non, ds ++ [y]) else none) = _
  rw [if_pos (by rw [sizeLine_eq]; omega)]
theorem extD_ok (ds es : List D) (hl : ds.length + es.length ≤ 1000000) : extD ds [.lst es] = some (.non, ds ++ es) := by
  show (if ds.length + es.length ≤ sizeLine then some (D.non, ds ++ es) else none) = _
  rw [if_pos (by rw [sizeLine_eq]; omega)]
theorem add_ll (a b : List D) (hl : a.length + b.length ≤ 1000000) : addD (.lst a) (.lst b) = some (.lst (a ++ b)) := by
  show (if a.length + b.length ≤ sizeLine then some (D.lst (a ++ b)) else none) = _
  rw [if_pos (by rw [sizeLine_eq]; omega)]
theorem add_tt (a b : List D) (hl : a.length + b.length ≤ 1000000) : addD (.tup a) (.tup b) = some (.tup (a ++ b)) := by
  show (if a.length + b.length ≤ sizeLine then some (D.tup (a ++ b)) else none) = _
  rw [if_pos (by rw [sizeLine_eq]; omega)]
theorem cut_from {α : Type} (ds : List α) (k : Nat) : cutL ds (some (k : Int)) none = ds.drop k := by
  unfold cutL
  rw [HT.sIx_nat, HT.sIx_none]
  by_cases h : k ≤ ds.length
  · rw [Nat.min_eq_left h, List.take_of_length_le (by simp)]
  · rw [Nat.min_eq_right (by omega), List.drop_eq_nil_of_le (by omega : ds.length ≤ k), List.drop_eq_nil_of_le (Nat.le_refl _), List.take_nil]
theorem cut_to {α : Type} (ds : List α) (k : Nat) : cutL ds none (some (k : Int)) = ds.take k := by
  unfold cutL
  rw [HT.sIx_nat, HT.sIx_none]
  simp
theorem flat_len {α : Type} (p : α → Bool) (g : α → D) : ∀ l : List α, (l.flatMap fun o => if p o = true then ([] : List D) else [g o]).length = (l.filter fun o => !p o).length
  | [] => rfl
  | a :: l => by
    have ih := flat_len p g l
    cases e : p a <;> simp [List.flatMap_cons, e, ih]
theorem flat_len2 {α : Type} (p : α → Bool) (g : α → D) : ∀ l : List α, (l.flatMap fun o => if p o = true then [g o] else ([] : List D)).length = l.countP p
  | [] => rfl
  | a :: l => by
    have ih := flat_len2 p g l
    cases e : p a <;> simp [List.flatMap_cons, e, ih]
@[simp] theorem cutD_l (lo hi : Option Int) (ds : List D) : cutD lo hi (.lst ds) = some (.lst (cutL ds lo hi)) := rfl
@[simp] theorem cutD_t (lo hi : Option Int) (ds : List D) : cutD lo hi (.tup ds) = some (.tup (cutL ds lo hi)) := rfl
@[simp] theorem cutD_s (lo hi : Option Int) (z : Str) : cutD lo hi (.str z) = some (.str (cutS z lo hi)) := rfl
theorem foldl_minL (r : List Int) : ∀ a : Int, (r.foldl min a ≤ a ∧ ∀ y ∈ r, r.foldl min a ≤ y) ∧ (r.foldl min a = a ∨ r.foldl min a ∈ r) := by
  induction r with
  | nil => intro a; simp
  | cons b r ih =>
    intro a
    obtain ⟨⟨h1, h2⟩, h3⟩ := ih (min a b)
    refine ⟨⟨by simp only [List.foldl_cons]; omega, fun y hy => ?_⟩, ?_⟩
    · rcases List.mem_cons.mp hy with rfl | hy
      · simp only [List.foldl_cons]; omega
      · exact h2 y hy
    · simp only [List.foldl_cons]
      rcases h3 with h3 | h3
      · rw [h3]
        by_cases hab : a ≤ b
        · exact .inl (by omega)
        · exact .inr (by rw [show min a b = b by omega]; exact List.mem_cons_self)
      · exact .inr (List.mem_cons_of_mem _ h3)
theorem maxL_is {l : List Int} {m : Int} (h1 : m ∈ l) (h2 : ∀ x ∈ l, x ≤ m) : maxL l = some m := by
  cases l with
  | nil => cases h1
  | cons a r =>
    obtain ⟨⟨k1, k2⟩, k3⟩ := foldl_max r a
    have up : r.foldl max a ≤ m := by
      rcases k3 with k3 | k3
      · rw [k3]; exact h2 a List.mem_cons_self
      · exact h2 _ (List.mem_cons_of_mem _ k3)
    have dn : m ≤ r.foldl max a := by
      rcases List.mem_cons.mp h1 with rfl | h
      · exact k1
      · exact k2 m h
    show some (r.foldl max a) = some m
    rw [show r.foldl max a = m by omega]
theorem minL_is {l : List Int} {m : Int} (h1 : m ∈ l) (h2 : ∀ x ∈ l, m ≤ x) : minL l = some m := by
  cases l with
  | nil => cases h1
  | cons a r =>
    obtain ⟨⟨k1, k2⟩, k3⟩ := foldl_minL r a
    have up : m ≤ r.foldl min a := by
      rcases k3 with k3 | k3
      · rw [k3]; exact h2 a List.mem_cons_self
      · exact h2 _ (List.mem_cons_of_mem _ k3)
    have dn : r.foldl min a ≤ m := by
      rcases List.mem_cons.mp h1 with rfl | h
      · exact k1
      · exact k2 m h
    show some (r.foldl min a) = some m
    rw [show r.foldl min a = m by omega]
theorem maxD_ints (l : List Int) : maxD (.lst (l.map D.int)) = (maxL l).map D.int := by
  show (intsD (l.map D.int)).bind _ = _
  rw [intsD_map]; rfl
theorem minD_ints (l : List Int) : minD (.lst (l.map D.int)) = (minL l).map D.int := by
  show (intsD (l.map D.int)).bind _ = _
  rw [intsD_map]; rfl
theorem sumD_ints (l : List Int) : sumD (.lst (l.map D.int)) = some (.int l.sum) := by
  show (intsD (l.map D.int)).bind _ = _
  rw [intsD_map]; rfl
theorem flat_filter {α : Type} (p : α → Bool) (g : α → D) : ∀ l : List α, (l.flatMap fun o => if p o = true then [g o] else ([] : List D)) = (l.filter p).map g
  | [] => rfl
  | a :: l => by
    have ih := flat_filter p g l
    cases e : p a <;> simp [List.flatMap_cons, e, ih]
theorem countP_le {α : Type} (p : α → Bool) (l : List α) (k : Nat) (h : ∀ (i : Nat) (x : α), l[i]? = some x → k ≤ i → p x = false) : l.countP p ≤ k := by
  induction l generalizing k with
  | nil => simp
  | cons a l ih =>
    cases k with
    | zero =>
      have z : (a :: l).countP p = 0 := List.countP_eq_zero.mpr fun x hx => by
        obtain ⟨i, hi⟩ := List.mem_iff_getElem?.mp hx
        rw [h i x hi (Nat.zero_le _)]; decide
      omega
    | succ k =>
      have h1 := ih k fun i x hi hk => h (i + 1) x (by simpa using hi) (by omega)
      have h2 : (a :: l).countP p ≤ l.countP p + 1 := by
        rw [List.countP_cons]; split <;> omega
      omega
theorem countP_ge {α : Type} (p : α → Bool) (l : List α) (k : Nat) (h : ∀ (i : Nat) (x : α), l[i]? = some x → i < k → p x = false) : l.countP p ≤ l.length - k := by
  induction l generalizing k with
  | nil => simp
  | cons a l ih =>
    cases k with
    | zero => exact List.countP_le_length
    | succ k =>
      have h1 := ih k fun i x hi hk => h (i + 1) x (by simpa using hi) (by omega)
      have h2 : p a = false := h 0 a rfl (by omega)
      rw [List.countP_cons_of_neg (by rw [h2]; decide), List.length_cons]
      omega
/-- a comprehension whose slots change, one value a turn -/
theorem lcS_run1 {α σ : Type} {b : BF} {vs : List Nat} {t : TF} {f : EF} {enc : σ → En} {e : α → D} (I : σ → Prop) (P : α → D → Prop) : ∀ {l : List α} {acc : List D} {s : σ}, I s → (∀ a ∈ l, ∀ s, I s → ∃ (s' : σ) (y : D), lcS b vs t f [e a] [] (enc s) = .ok (.lst [y]) (enc s') ∧ I s' ∧ P a y) →
    ∃ (s' : σ) (ys : List D), lcS b vs t f (l.map e) acc (enc s) = .ok (.lst (acc ++ ys)) (enc s') ∧ I s' ∧ ys.length = l.length ∧ ∀ y ∈ ys, ∃ a ∈ l, P a y
  | [], acc, s, hs, _ => ⟨s, [], by simp [lcS], hs, rfl, fun y h => by simp at h⟩
  | a :: l, acc, s, hs, h => by
    obtain ⟨s1, y, e1, h1, p1⟩ := h a List.mem_cons_self s hs
    obtain ⟨s2, ys, e2, h2, l2, p2⟩ := lcS_run1 (acc := acc ++ [y]) I P h1 fun c hc => h c (List.mem_cons_of_mem _ hc)
    refine ⟨s2, y :: ys, ?_, h2, by simp [l2], fun z hz => ?_⟩
    · rw [List.map_cons, lcS_step e1, e2]
      simp
    · rcases List.mem_cons.mp hz with rfl | hz
      · exact ⟨a, List.mem_cons_self, p1⟩
      · obtain ⟨c, hc, q⟩ := p2 z hz
        exact ⟨c, List.mem_cons_of_mem _ hc, q⟩
theorem all_map {β : Type} {g : β → D} {Q : β → Prop} : ∀ {ys : List D}, (∀ y ∈ ys, ∃ x, y = g x ∧ Q x) → ∃ xs : List β, ys = xs.map g ∧ ∀ x ∈ xs, Q x
  | [], _ => ⟨[], rfl, fun x h => by simp at h⟩
  | y :: ys, h => by
    obtain ⟨x, rfl, q⟩ := h y List.mem_cons_self
    obtain ⟨xs, rfl, qs⟩ := all_map fun z hz => h z (List.mem_cons_of_mem _ hz)
    refine ⟨x :: xs, rfl, fun z hz => ?_⟩
    rcases List.mem_cons.mp hz with rfl | hz
    · exact q
    · exact qs z hz
end J

set_option Elab.async false
set_option linter.all false
set_option maxRecDepth 100000
set_option maxHeartbeats 4000000
namespace J
open PySem PySem.Spec PyProof.Rows L2

/-! ### own classes: methods, making, with what is raised wished for at the caller's slots -/
section
variable {X : Cx} {CX : CXT} {k : Nat} {f C : Addr} {fd : FuncData} {ps : List Str} {sp : Sp} {dvs : List V} {ds : List Value} {E : L2.St → XK} {x m : Str} {p pos apos : Pos} {e o : Expr} {es : List Expr} {ta : TE} {t : TA}
def tMethSD (C : Addr) (m : Str) (sp : Sp) (dvs : List V) (E : L2.St → XK) (ta : TE) (t : TA) : TE := fun σ H Q => ta σ H fun x H1 => ∃ a dx fs, x = .ref a ∧ H1 a = some (.ins C dx fs) ∧ fs.lookup m = none ∧ t σ H1 fun vs H2 => sp (x :: (vs ++ dvs)) H2 Q (E σ)
theorem pe_methSD {pl : Sem Bool} (he : PE X o ta) (c : Cls X.K C) (hm : Meth X.K C m f) (F : FnOk X.prog X.w X.K X.mg X.base CX k f fd ps sp) (hr : Room k X.A) (hb : Binds X.K fd ps ds) (hd : Vals dvs ds) (hx : ∀ σ, PassesAt CX X σ (E σ)) (ha : PA X (e :: es) t)
    (hst : starEach (e :: es) X.env = (false, eval e X.env) :: starEach es X.env := by rfl) (hpl : (backTo pos (starEach es X.env)).any (·.1) = false := by rfl)
    (ht : eval (.Call (.Attribute o m apos) (e :: es) [] pos) X.env = (do
      let ov ← eval o X.env
      standAt apos.atName
      let (f, first) ← holding [ov] (getMethod ov m pl)
      callWith pos f first (backTo pos (starEach (e :: es) X.env)) (backToKw pos (keywordEach [] X.env))) := by rfl) :
    PE X (.Call (.Attribute o m apos) (e :: es) [] pos) (tMethSD C m sp dvs E ta t) := by
  refine ⟨fun pins s σ H Q I h => ?_⟩
  refine PySem.W.methodCall_KW (pl := pl) (thn (he.run pins s σ H _ I h) fun u s1 ⟨x, H1, I1, rx, a, dx, fs, ex, ea, l, q⟩ => ?_) ht
  subst ex
  obtain rfl : u = Value.ref a := rx
  refine getmeth_ok I1 ea c hm l ?_
  refine PySem.W.callWith_K (first := [.ref a]) (h₀ := X.base) I.ok.mod.kin hm.kp (thn (ha.run pos pins s1 σ H1 _ I1 q) fun us s2 ⟨vs, H2, I2, r, q2⟩ => ⟨I2.kIn, ?_⟩) hst hpl
  exact run_fnSD (us := .ref a :: us) (vs := .ref a :: vs) F hr hb hd (hx σ) I2 (.cons rfl r) q2
theorem pe_methSD0 {pl : Sem Bool} (he : PE X o ta) (c : Cls X.K C) (hm : Meth X.K C m f) (F : FnOk X.prog X.w X.K X.mg X.base CX k f fd ps sp) (hr : Room k X.A) (hb : Binds X.K fd ps ds) (hd : Vals dvs ds) (hx : ∀ σ, PassesAt CX X σ (E σ))
    (ht : eval (.Call (.Attribute o m apos) [] [] pos) X.env = (do
      let ov ← eval o X.env
      standAt apos.atName
      let (f, first) ← holding [ov] (getMethod ov m pl)
      callWith pos f first (backTo pos (starEach [] X.env)) (backToKw pos (keywordEach [] X.env))) := by rfl) :
    PE X (.Call (.Attribute o m apos) [] [] pos) (tMethSD C m sp dvs E ta tNil) := by
  refine ⟨fun pins s σ H Q I h => ?_⟩
  refine PySem.W.methodCall_KW (pl := pl) (thn (he.run pins s σ H _ I h) fun u s1 ⟨x, H1, I1, rx, a, dx, fs, ex, ea, l, q⟩ => ?_) ht
  subst ex
  obtain rfl : u = Value.ref a := rx
  refine getmeth_ok I1 ea c hm l ?_
  exact PySem.W.callWith_K0 (first := [.ref a]) I1.kIn hm.kp (run_fnSD (us := [.ref a]) (vs := [.ref a]) F hr hb hd (hx σ) I1 (.cons rfl .nil) q)
def tMakeSD (C : Addr) (sp : Sp) (dvs : List V) (E : L2.St → XK) (t : TA) : TE := fun σ H Q => t σ H fun vs H1 => ∀ x dx, H1 x = none → H1 dx = none → dx ≠ x → sp (.ref x :: (vs ++ dvs)) (upd (upd H1 dx (.own x)) x (.ins C dx [])) (fun v H2 => v = .non ∧ Q (.ref x) H2) (E σ)
theorem run_makeSD {pins : List (Addr × Obj)} {σ : L2.St} {H : Hp} {s : Shared} {Q : VK} {us : List Value} {vs : List V} (M : Mk X.K C f) (F : FnOk X.prog X.w X.K X.mg X.base CX k f fd ps sp) (hr : Room (k + 1) X.A) (hb : Binds X.K fd ps ds) (hd : Vals dvs ds)
    (hx : PassesAt CX X σ (E σ)) (I : Inv X pins σ H s) (r : Vals vs us)
    (h : ∀ x dx, H x = none → H dx = none → dx ≠ x → sp (.ref x :: (vs ++ dvs)) (upd (upd H dx (.own x)) x (.ins C dx [])) (fun v H2 => v = .non ∧ Q (.ref x) H2) (E σ)) :
    wpAny (model X.prog X.w) X.A (call (.ref C) us) (EP X pins σ Q) X.xe s := by
  have hq := h (s.heap.objs.size + 1) s.heap.objs.size (I.hok.fresh (Nat.le_succ _)) (I.hok.fresh (Nat.le_refl _)) (Nat.ne_of_lt (Nat.lt_succ_self _))
  have I2 := Inv.made (C := C) I
  have r2 : Vals (V.ref (s.heap.objs.size + 1) :: (vs ++ dvs)) (Value.ref (s.heap.objs.size + 1) :: (us ++ ds)) := .cons rfl (r.append hd)
  have hl : (Value.ref (s.heap.objs.size + 1) :: us ++ ds).length = ps.length := by
    have e := r2.length
    rw [F.len _ _ _ _ hq] at e
    exact e.symm
  refine wpAny_call (make_map (f := f) I.kIn M.makes M.init (beq_iff_eq.mp M.fn) (codeAny_mono (F.run _ X.stack _ _ ⟨Value.ref (s.heap.objs.size + 1) :: us, []⟩ (Value.ref (s.heap.objs.size + 1) :: (us ++ ds)) _ _ (E σ) (hr.make C us [])
    (I2.env0.make C us []) (hb _ (Value.ref (s.heap.objs.size + 1) :: us) I2.kIn hl) r2 hq) fun r s' hq' => ?_))
  cases r with
  | error e => exact hx pins _ _ e s' I2 hq'
  | ok fl =>
    cases fl with
    | ret u =>
      obtain ⟨v, H', I3, rv, ev, q3⟩ := I2.after hq'
      subst ev
      exact ⟨rv, ⟨V.ref (s.heap.objs.size + 1), H', I3, rfl, q3⟩⟩
    | next => exact False.elim hq'
    | brk => exact False.elim hq'
    | cont => exact False.elim hq'
theorem pe_makeSD (M : Mk X.K C f) (F : FnOk X.prog X.w X.K X.mg X.base CX k f fd ps sp) (hr : Room (k + 1) X.A) (hg : Gl X x) (hm : X.mg x = some (.ref C)) (hb : Binds X.K fd ps ds) (hd : Vals dvs ds) (hx : ∀ σ, PassesAt CX X σ (E σ))
    (ha : PA X (e :: es) t) (hdb : (x == ("__debug__" : Str)) = false := by decide) (he : starEach (e :: es) X.env = (false, eval e X.env) :: starEach es X.env := by rfl) (hpl : (backTo pos (starEach es X.env)).any (·.1) = false := by rfl) :
    PE X (.Call (.Name x p) (e :: es) [] pos) (tMakeSD C sp dvs E t) := by
  refine ⟨fun pins s σ H Q I h => ?_⟩
  refine wpAny_Call_Name_kw (ld_glob I hg hm ?_ hdb)
  refine PySem.W.callWith_K (h₀ := X.base) I.ok.mod.kin M.kp (thn (ha.run pos pins s σ H _ I h) fun us s1 ⟨vs, H1, I1, r, q⟩ => ⟨I1.kIn, ?_⟩) he hpl
  exact run_makeSD M F hr hb hd (hx σ) I1 r q
theorem pe_makeSD0 (M : Mk X.K C f) (F : FnOk X.prog X.w X.K X.mg X.base CX k f fd ps sp) (hr : Room (k + 1) X.A) (hg : Gl X x) (hm : X.mg x = some (.ref C)) (hb : Binds X.K fd ps ds) (hd : Vals dvs ds) (hx : ∀ σ, PassesAt CX X σ (E σ))
    (hdb : (x == ("__debug__" : Str)) = false := by decide) : PE X (.Call (.Name x p) [] [] pos) (tMakeSD C sp dvs E tNil) := by
  refine ⟨fun pins s σ H Q I h => ?_⟩
  refine wpAny_Call_Name_kw (ld_glob I hg hm ?_ hdb)
  exact PySem.W.callWith_K0 I.kIn M.kp (run_makeSD (us := []) M F hr hb hd (hx σ) I .nil h)
end

/-! ### fields -/
def putNs (n : Nat) : List Nat → List Nat
  | [] => [n]
  | m :: r => if m = n then m :: r else m :: putNs n r
def putVs (n : Nat) (d : D) : List Nat → List D → List D
  | m :: r, v :: vs => if m = n then d :: vs else v :: putVs n d r vs
  | _, _ => [d]
theorem putF_ok {T : Tab} {G : Hp} (hinj : ∀ a b, T.fnm a = T.fnm b → a = b) {n : Nat} {v : V} {d : D} (rv : Rep T G v d) : ∀ {ns : List Nat} {vs : List D} {fs : List (Str × V)}, fs.map (·.1) = ns.map T.fnm → Reps T G (fs.map (·.2)) vs →
    (putF (T.fnm n) v fs).map (·.1) = (putNs n ns).map T.fnm ∧ Reps T G ((putF (T.fnm n) v fs).map (·.2)) (putVs n d ns vs)
  | [], vs, [], _, r => by
    have : vs = [] := by cases vs with | nil => rfl | cons a b => obtain ⟨_, _, e, _⟩ := r; cases e
    subst this
    exact ⟨rfl, .one rv⟩
  | [], _, _ :: _, h, _ => by cases h
  | _ :: _, _, [], h, _ => by cases h
  | m :: ns, [], (g, x) :: fs, h, r => by cases r
  | m :: ns, w :: vs, (g, x) :: fs, h, r => by
    simp only [List.map_cons, List.cons.injEq] at h
    obtain ⟨hg, h⟩ := h
    obtain ⟨y, rest, e, ry, rr⟩ := r
    simp only [List.map_cons, List.cons.injEq] at e
    obtain ⟨rfl, rfl⟩ := e
    obtain ⟨k1, k2⟩ := putF_ok hinj rv h rr
    by_cases hm : m = n
    · subst hm
      have e2 : putF (T.fnm m) v ((g, x) :: fs) = (g, v) :: fs := by show (if g = T.fnm m then (g, v) :: fs else _) = _; rw [if_pos hg]
      rw [e2]
      refine ⟨?_, ?_⟩
      · show g :: fs.map (·.1) = (if m = m then m :: ns else _).map T.fnm
        rw [if_pos rfl, hg, h]; rfl
      · show Reps T G (v :: fs.map (·.2)) (if m = m then d :: vs else _)
        rw [if_pos rfl]
        exact ⟨v, _, rfl, rv, rr⟩
    · have hne : g ≠ T.fnm n := fun z => hm (hinj _ _ (hg.symm.trans z))
      have e2 : putF (T.fnm n) v ((g, x) :: fs) = (g, x) :: putF (T.fnm n) v fs := by show (if g = T.fnm n then _ else _) = _; rw [if_neg hne]
      rw [e2]
      refine ⟨?_, ?_⟩
      · show g :: (putF (T.fnm n) v fs).map (·.1) = (if m = n then m :: ns else m :: putNs n ns).map T.fnm
        rw [if_neg hm, k1, hg]; rfl
      · show Reps T G (x :: (putF (T.fnm n) v fs).map (·.2)) (if m = n then d :: vs else w :: putVs n d ns vs)
        rw [if_neg hm]
        exact ⟨x, _, rfl, ry, k2⟩
theorem lookup_none_of {α : Type} {m : Str} : ∀ {fs : List (Str × α)}, (∀ g ∈ fs.map (·.1), g ≠ m) → fs.lookup m = none
  | [], _ => rfl
  | (g, x) :: fs, h => by
    have h1 : g ≠ m := h g List.mem_cons_self
    have h2 : (m == g) = false := beq_false_of_ne fun z => h1 z.symm
    simp only [List.lookup, h2]
    exact lookup_none_of fun g' hg' => h g' (List.mem_cons_of_mem _ hg')
/-- field number n, called f, of the classes that ok says -/
structure FldT (K : PySem.W.Frag) (T : Tab) (n : Nat) (f : Str) (ok : Nat → Bool) : Prop where
  nm : T.fnm n = f
  at_ : ∀ c, ok c = true → Cls K (T.cls c) ∧ NoAttr K (T.cls c) f
  inj : ∀ a b, T.fnm a = T.fnm b → a = b
section
variable {X : Cx} {T : Tab} {W : WX} {e : Expr} {f : Str} {pos pos' p : Pos} {n : Nat} {ok : Nat → Bool}
def eFld (n : Nat) (ok : Nat → Bool) (f : En → Rs Ar) : EF := fun ρ => (f ρ).bnd fun a ρ1 => match look ρ1 a with
  | some (.obj c ns vs) => if ok c = true then opt (fget n ns vs) ρ1 else .bad
  | _ => .bad
theorem j_fld {g : En → Rs Ar} (F : FldT X.K T n f ok) (h : JR X T W e g) (hb : attributeBase e f X.env (eval e X.env) = eval e X.env := by rfl) : JE X T W (.Attribute e f pos) (eFld n ok g) := by
  refine ⟨h.k, pe_imp (pe_fld h.run hb) fun σ H Q ⟨U, G, ρ, R, q⟩ => ⟨U, G, ρ, R, ?_⟩⟩
  refine (Pst.bnd q).mono (L2.Same.refl _) fun a G1 H1 ρ1 _ ⟨R1, s1, p1⟩ v av => ?_
  split at p1
  · rename_i c ns vs el
    split at p1
    · rename_i hc
      obtain ⟨d, e1, p⟩ := Pst.opt p1
      obtain ⟨a, dx, fs, rfl, hh, h6, h7⟩ := (look_ok R1 av el).obj R1.same
      obtain ⟨u, l, r⟩ := fget_ok F.inj h6 h7 e1
      obtain ⟨c1, c2⟩ := F.at_ c hc
      exact ⟨a, T.cls c, dx, fs, u, rfl, hh, c1, c2, by rw [← F.nm]; exact l, p G1 H1 R1 (L2.Same.refl _) u r⟩
    · exact p1.elim
  · exact p1.elim
/-- x.f = e, x an owned object -/
def ownO (ρ : En) (i : Nat) : Option (Nat × List Nat × List D) := match (ρ[i]? : Option Sl) with
  | some (Sl.ow (D.obj c ns vs)) => some (c, ns, vs)
  | _ => none
theorem ownO_ok {ρ : En} {i c : Nat} {ns : List Nat} {vs : List D} (h : ownO ρ i = some (c, ns, vs)) : ρ[i]? = some (.ow (.obj c ns vs)) := by
  unfold ownO at h
  split at h
  · rename_i e; cases h; exact e
  · cases h
def sFldJ (i n : Nat) (ok : Nat → Bool) (f : EF) : SF := fun ρ => (f ρ).bnd fun d ρ1 => match ownO ρ1 i with
  | some (c, ns, vs) => if ok c = true ∧ ns.length < 1000 then .ok .nx (ρ1.set i (.ow (.obj c (putNs n ns) (putVs n d ns vs)))) else .bad
  | none => .bad
theorem j_fld_store {i : Nat} {x : Str} {g : EF} (F : FldT X.K T n f ok) (h : JE X T W e g) (hN : X.N[i]? = some x := by rfl) (hs : swapsWith e (some (.Attribute (.Name x p) f pos')) pos.line X.env = pure false := by rfl)
    (hv : Vis X.env.scope x := by first | exact Or.inl rfl | exact Or.inr (Or.inl rfl) | exact Or.inr (Or.inr rfl)) (hd : (x == ("__debug__" : Str)) = false := by decide)
    (hcd : (x == ("__classdict__" : Str)) = false := by decide) : JS X T W [] (.Assign [.Attribute (.Name x p) f pos'] e pos) (sFldJ i n ok g) := by
  refine ⟨h.k, ps_imp (ps_fld (pe_var hN hv hd hcd) h.run hs) fun D σ H ⟨U, G, ρ, R, q⟩ => ⟨U, G, ρ, R, ?_⟩⟩
  refine (PstS.bndE q).mono (L2.Same.refl _) fun d G1 H1 ρ1 _ ⟨R1, s1, p1⟩ v rv => ?_
  cases e1 : ownO ρ1 i with
  | none => rw [e1] at p1; exact p1.elim
  | some z =>
    obtain ⟨c, ns, vs⟩ := z
    rw [e1] at p1
    dsimp only at p1
    split at p1
    · rename_i hc
      obtain ⟨p, o, eσ, g0, u0, hh, r0⟩ := R1.ow i _ (ownO_ok e1)
      obtain ⟨dx, fs, rfl, h6, h7⟩ := r0
      obtain ⟨c1, c2⟩ := F.at_ c hc.1
      obtain ⟨k1, k2⟩ := putF_ok F.inj (n := n) rv h6 h7
      have hl : fs.length = ns.length := by have := congrArg List.length h6; simpa using this
      refine ⟨_, eσ, p, T.cls c, dx, fs, rfl, hh, c1, c2, by rw [hl]; exact hc.2, ?_⟩
      rw [← F.nm]
      exact p1 σ G1 _ (R1.put (ownO_ok e1) eσ (d' := .obj c (putNs n ns) (putVs n d ns vs)) ⟨dx, _, rfl, k1, k2⟩) (L2.Same.refl _) (Keeps.refl _ _)
    · exact p1.elim
end

/-! ### methods -/
structure CalM (P : Program) (w : World) (K : PySem.W.Frag) (mg : Str → Option Value) (base : Heap) (T : Tab) (k c : Nat) (m : Str) (n : Nat) (F : FV) : Prop where
  ex : ∃ (f : Addr) (fd : FuncData) (ps : List Str), FnOk P w K mg base (L2.CX P w) k f fd ps (spV T n F) ∧ Cls K (T.cls c) ∧ Meth K (T.cls c) m f ∧ Binds K fd ps []
  nf : ∀ i, T.fnm i ≠ m
section
variable {X : Cx} {T : Tab} {W : WX} {k j c n : Nat} {x m : Str} {p pos apos : Pos} {e o : Expr} {es : List Expr}
def eCallM (c : Nat) (F : FV) (fo : EF) (g : AF) : EF := fun ρ => (fo ρ).bnd fun d ρ1 => match d with
  | .obj c' _ _ => if c' = c then (g ρ1).bnd fun as ρ2 => (match vals as with
    | some ds => (F (d :: ds)).at ρ2
    | none => .bad) else .bad
  | _ => .bad
theorem callM_red {F : FV} {fo : EF} {g : AF} (hlen : ∀ ρ as ρ', g ρ = .ok as ρ' → as.length + 1 = n) (nf : ∀ i, T.fnm i ≠ m) {σ : L2.St} {H : Hp} {Q : VK} (q : tE T W (eCallM c F fo g) σ H Q) : tMethSD (T.cls c) m (spV T n F) [] (WE W) (tE T W fo) (tA T W g) σ H Q := by
  obtain ⟨U, G, ρ, R, q⟩ := q
  refine ⟨U, G, ρ, R, (Pst.bnd q).mono (L2.Same.refl _) fun d G0 H0 ρ0 _ ⟨R0, s0, p0⟩ v rv => ?_⟩
  cases d with
  | obj c' ns vs0 =>
    dsimp only at p0
    split at p0
    · rename_i hc
      subst hc
      obtain ⟨a, dx, fs, rfl, hG, h6, h7⟩ := id rv
      refine ⟨a, dx, fs, rfl, R0.same _ _ hG, lookup_none_of (fun g' hg' => ?_), U, G0, ρ0, R0, ?_⟩
      · rw [h6] at hg'
        obtain ⟨i, _, rfl⟩ := List.mem_map.mp hg'
        exact nf i
      · have q' := Pst.bnd p0
        cases hf : g ρ0 with
        | ok as ρ' =>
          rw [hf] at q'
          intro G1 H1 R1 s1 vs avs
          obtain ⟨_, _, p⟩ := q' G1 H1 R1 s1
          cases e2 : vals as with
          | none => rw [e2] at p; exact p.elim
          | some ds =>
            rw [e2] at p
            have rs := vals_ok avs e2
            refine ⟨?_, J.lift H1 G1, G1, .obj c' ns vs0 :: ds, R1.lift, ⟨_, _, rfl, rv.mono s1, by rw [List.append_nil]; exact rs⟩, ?_⟩
            · rw [List.append_nil, List.length_cons, ars_len avs]
              exact hlen _ _ _ hf
            · dsimp only at p
              cases e3 : F (.obj c' ns vs0 :: ds) with
              | ok d => rw [e3] at p; exact fun G2 H2 R2 s2 v r => p G2 H2 (R1.over R2 s2) s2 v r
              | ex c ns vs => rw [e3] at p; exact fun cls dx G2 H2 R2 s2 x => p cls dx G2 H2 (R1.over R2 s2) s2 x
              | bad => rw [e3] at p; exact p.elim
        | ex c ns vs ρ' => rw [hf] at q'; exact q'
        | bad => rw [hf] at q'; exact q'
    · exact p0.elim
  | _ => exact p0.elim
theorem jm {F : FV} {fo : EF} {g : AF} {pl : Sem Bool} (cm : CalM X.prog X.w X.K X.mg X.base T k c m n F) (hr : Room j X.A) (tk : Takes X W) (ho : JE X T W o fo) (ha : JA X T W (e :: es) g) (hk : k ≤ j := by decide) (hn : (e :: es).length + 1 = n := by rfl)
    (hst : starEach (e :: es) X.env = (false, eval e X.env) :: starEach es X.env := by rfl) (hpl : (backTo pos (starEach es X.env)).any (·.1) = false := by rfl)
    (ht : eval (.Call (.Attribute o m apos) (e :: es) [] pos) X.env = (do
      let ov ← eval o X.env
      standAt apos.atName
      let (f, first) ← holding [ov] (getMethod ov m pl)
      callWith pos f first (backTo pos (starEach (e :: es) X.env)) (backToKw pos (keywordEach [] X.env))) := by rfl) : JE X T W (.Call (.Attribute o m apos) (e :: es) [] pos) (eCallM c F fo g) := by
  obtain ⟨f, fd, ps, Fo, hc, hm, b⟩ := cm.ex
  exact ⟨ho.k, pe_imp (pe_methSD (pl := pl) ho.run hc hm Fo (hr.mono hk) b .nil (passAt tk) ha.run hst hpl ht) fun σ H Q q => callM_red (fun ρ as ρ' h => by rw [ha.len _ _ _ h]; exact hn) cm.nf q⟩
theorem jm0 {F : FV} {fo : EF} {pl : Sem Bool} (cm : CalM X.prog X.w X.K X.mg X.base T k c m 1 F) (hr : Room j X.A) (tk : Takes X W) (ho : JE X T W o fo) (hk : k ≤ j := by decide)
    (ht : eval (.Call (.Attribute o m apos) [] [] pos) X.env = (do
      let ov ← eval o X.env
      standAt apos.atName
      let (f, first) ← holding [ov] (getMethod ov m pl)
      callWith pos f first (backTo pos (starEach [] X.env)) (backToKw pos (keywordEach [] X.env))) := by rfl) : JE X T W (.Call (.Attribute o m apos) [] [] pos) (eCallM c F fo aNil) := by
  obtain ⟨f, fd, ps, Fo, hc, hm, b⟩ := cm.ex
  refine ⟨ho.k, pe_imp (pe_methSD0 (pl := pl) (E := WE W) ho.run hc hm Fo (hr.mono hk) b .nil (passAt tk) ht) fun σ H Q q => ?_⟩
  obtain ⟨U, G, ρ, R, q⟩ := callM_red (n := 1) (fun ρ as ρ' h => by cases h; rfl) cm.nf q
  refine ⟨U, G, ρ, R, ?_⟩
  cases hf : fo ρ with
  | ok d ρ' =>
    rw [hf] at q
    intro G' H' R' s v r
    obtain ⟨a, dx, fs, h1, h2, h3, U2, G2, ρ2, R2, q2⟩ := q G' H' R' s v r
    exact ⟨a, dx, fs, h1, h2, h3, q2 G2 H' R2 (L2.Same.refl _) [] True.intro⟩
  | ex c ns vs ρ' => rw [hf] at q; exact q
  | bad => rw [hf] at q; exact q
end

/-! ### making -/
def spI (T : Tab) (c n : Nat) (F : FV) : Sp := fun vs H Q E => vs.length = n + 1 ∧ ∃ U G ds x vs', vs = .ref x :: vs' ∧ Rel T U G H [some (.ref x)] [.ow (.obj c [] [])] ∧ Reps T G vs' ds ∧
  match F ds with
  | .ok d => ∀ G' H', Rel T U G' H' [some (.ref x)] [.ow d] → L2.Same G G' → Q .non H'
  | .ex c ns vs => ∀ cls dx G' H', Rel T U G' H' [] [] → L2.Same G G' → XRep T G' c ns vs cls dx → E cls dx H'
  | .bad => False
def fnI (m c : Nat) (body : SF) : FV := fun ds => match body (.ow (.obj c [] []) :: (ds.map .sh ++ List.replicate m .no)) with
  | .ok .nx ρ => (match (ρ[0]? : Option Sl) with
    | some (Sl.ow d) => .ok d
    | _ => .bad)
  | .ex c ns vs _ => .ex c ns vs
  | _ => .bad
section
variable {P : Program} {w : World} {K : PySem.W.Frag} {mg : Str → Option Value} {base : Heap} {T : Tab}
theorem fnI_ok {x qual : Str} {st : Stmt} {f : Addr} {fd : FuncData} {N ps : List Str} {k m n c : Nat} {ws : List Nat} {body : SF} (F : Fun K x qual st f fd) (S : FnScope N ps (defScope st)) (hN : N.length = ps.length + m) (hn : ps.length = n + 1) (hw : 0 ∉ ws)
    (hbody : ∀ (cdv : Value) (A : Around) (outer : List Env) (s : Shared) (H : Hp) (E : XK), Room k (A.deeper (envOfC qual (defScope st) s.heap.objs.size f cdv)) →
      JSs (cxOf (L2.CX P w) P w K mg base N qual (defScope st) f cdv A outer s H E) T (WO E) ws (defBody st) body) : FnOk P w K mg base (L2.CX P w) (k + 1) f fd ps (spI T c n (fnI m c body)) := by
  refine F.okX S (fun vs H Q E h => h.1.trans hn.symm) (fun cdv A outer s H vs Q E hr h => ?_)
  obtain ⟨hl, U, G, ds, q, vs', rfl, R, r, p⟩ := h
  refine ⟨_, (hbody cdv A outer s H E hr).run, U, G, _, (by rw [start_at hN (hl.trans hn.symm)]; exact R.entryL r m), ?_⟩
  have hσ : ∀ σ', Keeps ws (L2.start N (V.ref q :: vs')) σ' → σ'[0]? = some (some (.ref q)) := fun σ' k => by
    rw [k.2 0 hw, start_at hN (hl.trans hn.symm)]
    rfl
  unfold fnI at p
  cases e : body (.ow (.obj c [] []) :: (ds.map .sh ++ List.replicate m .no)) with
  | ok a ρ' =>
    rw [e] at p
    cases a with
    | nx =>
      dsimp only at p
      split at p
      · rename_i d e1
        split at e1
        · rename_i d2 e3
          cases e1
          exact fun σ' G' H' R' s' k' => p G' H' (R'.exitL (hσ σ' k') e3) s'
        · cases e1
      · rename_i e1
        split at e1
        · cases e1
        · cases e1
      · exact p.elim
    | rt d => exact p.elim
  | ex c ns vs ρ' => rw [e] at p; exact fun cls dx σ' G' H' R' s' _ x => p cls dx G' H' R'.nil s' x
  | bad => rw [e] at p; exact p.elim
end
/-- a class that may be made by its name -/
structure CalK (P : Program) (w : World) (K : PySem.W.Frag) (mg : Str → Option Value) (base : Heap) (T : Tab) (k c : Nat) (x : Str) (n : Nat) (F : FV) (dd : List D) : Prop where
  ex : ∃ (f : Addr) (fd : FuncData) (ps : List Str) (ds : List Value) (dv : List V), FnOk P w K mg base (L2.CX P w) k f fd ps (spI T c n F) ∧ Mk K (T.cls c) f ∧ mg x = some (.ref (T.cls c)) ∧ Binds K fd ps ds ∧ Vals dv ds ∧ ∀ G, Reps T G dv dd
section
variable {X : Cx} {T : Tab} {W : WX} {k j c n : Nat} {x m : Str} {p pos apos : Pos} {e o : Expr} {es : List Expr}
theorem make_red {F : FV} {g : AF} {dd : List D} {dv : List V} (hlen : ∀ ρ as ρ', g ρ = .ok as ρ' → as.length + dd.length = n) (hdd : ∀ G, Reps T G dv dd) {σ : L2.St} {H : Hp} {Q : VK} (q : tO T W (eCall F dd g) σ H Q) : tMakeSD (T.cls c) (spI T c n F) dv (WE W) (tA T W g) σ H Q := by
  obtain ⟨U, G, ρ, R, q⟩ := q
  refine ⟨U, G, ρ, R, ?_⟩
  have q' := Pst.bnd q
  cases hf : g ρ with
  | ok as ρ' =>
    rw [hf] at q'
    intro G1 H1 R1 s1 vs avs
    obtain ⟨_, _, p⟩ := q' G1 H1 R1 s1
    cases e2 : vals as with
    | none => rw [e2] at p; exact p.elim
    | some ds =>
      rw [e2] at p
      have rs := vals_ok avs e2
      intro y dx hy hdx hne
      have hx2 : ∀ a o, H1 a = some o → (upd (upd H1 dx (.own y)) y (.ins (T.cls c) dx [])) a = some o := fun a o e => by
        rw [upd_ne (ne_of_none e hy), upd_ne (ne_of_none e hdx)]; exact e
      have RR : Rel T (J.lift H1 G1) G1 (upd (upd H1 dx (.own y)) y (.ins (T.cls c) dx [])) [some (.ref y)] [.ow (.obj c [] [])] := by
        refine ⟨fun a o e => hx2 a o (R1.same _ _ e), rfl, fun i d h => ?_, fun i d h => ?_, fun i i' d d' a h1 h2 _ _ => ?_, fun a o h => ?_, fun i c ns vs h => ?_⟩
        · cases i with
          | zero => cases h
          | succ i => simp at h
        · cases i with
          | zero =>
            cases h
            refine ⟨y, _, rfl, R1.gfree hy, ?_, upd_same, dx, [], rfl, rfl, rfl⟩
            unfold J.lift
            rw [R1.gfree hy]
            exact hy
          | succ i => simp at h
        · cases i with
          | zero =>
            cases i' with
            | zero => rfl
            | succ i => simp at h2
          | succ i => simp at h1
        · obtain ⟨h1, h2⟩ := lift_ok.mp h
          exact ⟨hx2 a o h1, h2⟩
        · cases i with
          | zero => cases h
          | succ i => simp at h
      refine ⟨?_, J.lift H1 G1, G1, ds ++ dd, y, vs ++ dv, rfl, RR, rs.app (hdd G1), ?_⟩
      · rw [List.length_cons, List.length_append, ars_len avs, (hdd G1).length, hlen _ _ _ hf]
      · dsimp only at p
        cases e3 : F (ds ++ dd) with
        | ok d =>
          rw [e3] at p
          intro G2 H2 R2 s2
          obtain ⟨a, o, e4, g4, u4, h4, r4⟩ := R2.ow 0 d rfl
          cases e4
          exact ⟨rfl, p G2 H2 (R1.over R2.nil s2) s2 y o g4 (R1.ufree hy) h4 r4 fun i d hi hz => by
            obtain ⟨a, q, e5, _, _, h5, _⟩ := R1.ow i d hi
            rw [hz] at e5
            cases e5
            rw [hy] at h5
            cases h5⟩
        | ex c ns vs => rw [e3] at p; exact fun cls dx G2 H2 R2 s2 x => p cls dx G2 H2 (R1.over R2 s2) s2 x
        | bad => rw [e3] at p; exact p.elim
  | ex c ns vs ρ' => rw [hf] at q'; exact q'
  | bad => rw [hf] at q'; exact q'
theorem jk {F : FV} {g : AF} {dd : List D} (ck : CalK X.prog X.w X.K X.mg X.base T k c x n F dd) (hr : Room j X.A) (tk : Takes X W) (ha : JA X T W (e :: es) g) (hk : k + 1 ≤ j := by decide) (hn : (e :: es).length + dd.length = n := by rfl) (hg : Gl X x := by rfl) (hdb : (x == ("__debug__" : Str)) = false := by decide)
    (he : starEach (e :: es) X.env = (false, eval e X.env) :: starEach es X.env := by rfl) (hpl : (backTo pos (starEach es X.env)).any (·.1) = false := by rfl) : JO X T W (.Call (.Name x p) (e :: es) [] pos) (eCall F dd g) := by
  obtain ⟨f, fd, ps, ds, dv, Fo, M, hm, b, hd, hdd⟩ := ck.ex
  exact ⟨ha.k, pe_imp (pe_makeSD M Fo (hr.mono hk) hg hm b hd (passAt tk) ha.run hdb he hpl) fun σ H Q q => make_red (fun ρ as ρ' h => by rw [ha.len _ _ _ h]; exact hn) hdd q⟩
theorem jk0 {F : FV} {dd : List D} (hK : X.K = T.K) (ck : CalK X.prog X.w X.K X.mg X.base T k c x n F dd) (hr : Room j X.A) (tk : Takes X W) (hk : k + 1 ≤ j := by decide) (hn : dd.length = n := by rfl) (hg : Gl X x := by rfl) (hdb : (x == ("__debug__" : Str)) = false := by decide) :
    JO X T W (.Call (.Name x p) [] [] pos) (eCall F dd aNil) := by
  obtain ⟨f, fd, ps, ds, dv, Fo, M, hm, b, hd, hdd⟩ := ck.ex
  refine ⟨hK, pe_imp (pe_makeSD0 M Fo (hr.mono hk) hg hm b hd (E := WE W) (passAt tk) hdb) fun σ H Q q => ?_⟩
  obtain ⟨U, G, ρ, R, q3⟩ := make_red (c := c) (n := n) (dv := dv) (fun ρ as ρ' h => by cases h; simpa using hn) hdd q
  exact q3 G H R (L2.Same.refl _) [] True.intro
end
end J

set_option Elab.async false
set_option linter.all false
set_option maxRecDepth 100000
set_option maxHeartbeats 4000000
namespace J
open PySem PySem.Spec PyProof.Rows L2 PySem.W

/-! ### == and != by an own __eq__ -/
section
variable {M : Model} {A : Around} {E : Value → Shared → Prop} {s : Shared} {K : PySem.W.Frag} {x C : Addr} {ox : Obj} {od : Option Obj} {prog : Program} {w : World} {h₀ : Heap} {L : Addr} {m : Str → Option Value} {f : Addr} {b tb : Value}
theorem ifBound_ne {args : List Value} {Q : Option Value → Shared → Prop} (X : K.In s.heap) (I : PySem.W.InstAt s.heap x ox C od) (hs : PySem.W.findIn K (.ref C) "__ne__" = some (some (.builtin "object.__ne__")))
    (h : wpAny M A (call (.builtin "object.__ne__") (.ref x :: args)) (fun v => Q (some v)) E s) : wpAny M A (callSpecialIfBound? (.ref x) "__ne__" args) Q E s := by
  simp only [callSpecialIfBound?, bindSpecialIfBound?]
  refine wpAny_holding (wpAny_bind (wpAny_bind (wpAny_bind (I.type.here ((looks_findIn X hs).here ?_)))))
  have hb := (PySem.F.cmp_object.ne).bind
  simp only [hb]
  refine wpAny_bind (wpAny_askSetting (wpAny_ite ?_))
  have fin : wpAny M A (call (.builtin "object.__ne__") ([.ref x] ++ args) >>= fun v => pure (some v)) Q E s := wpAny_bind (wpAny_mono h (fun v s' h' => wpAny_pure h') fun _ _ h' => h')
  repeat (first | exact fin | exact wpAny_pure fin | exact wpAny_bind (wpAny_pure fin) | exact wpAny_tryCatch fin | exact wpAny_tryCatch (wpAny_pure fin) | exact wpAny_bind (wpAny_pure (by exact fin)) | exact wpAny_tryCatch (wpAny_bind (wpAny_pure (by exact fin))) | split | wp_step)
theorem ne_entry {Q : Fin → Shared → Prop} (X : K.In s.heap) (I : PySem.W.InstAt s.heap x ox C od) (hs : PySem.W.findIn K (.ref C) "__eq__" = some (some (.ref f))) (hf : PySem.W.isFn K (.ref f) = true) (hu : A.units < cLine)
    (hcall : wpAny (model prog w) A (call (.ref f) [.ref x, b]) (fun v s' => ∃ r, v = .bool r ∧ Q (.done (.ret (.bool (!r)))) s') E s) : wpAny (model prog w) A (Builtin.«object.__ne__» ⟨[.ref x, b], []⟩) Q E s := by
  obtain ⟨hp, g, d, tk, os⟩ := s
  unfold Builtin.«object.__ne__»
  repeat (first
    | with_reducible refine wpAny_cRoomFor hu ?_
    | (refine wpAny_bind (m := callSpecialIfBound? (.ref x) (Str.ofString "__eq__") [b])
        (PySem.W.ifBound_K X I hs hf (wpAny_mono hcall (fun v s' hr => by
          obtain ⟨r, rfl, hq⟩ := hr
          repeat (first | exact hq | exact wpAny_pure hq | exact wpAny_truthy_bool hq | (refine wpAny_bind (m := truthy (.bool _)) (wpAny_truthy_bool ?_)) | wp_step)) fun _ _ e => e)))
    | wp_step)
theorem ne_call {Q : Value → Shared → Prop} (X : K.In s.heap) (I : PySem.W.InstAt s.heap x ox C od) (hob : PySem.W.mroIn K C (.type "object") = some true) (hs : PySem.W.findIn K (.ref C) "__eq__" = some (some (.ref f))) (hf : PySem.W.isFn K (.ref f) = true) (hu : A.units + 1 < cLine)
    (hcall : wpAny (model prog w) A.in1 (call (.ref f) [.ref x, b]) (fun v s' => ∃ r, v = .bool r ∧ Q (.bool (!r)) s') E s) : wpAny (model prog w) A (call (.builtin "object.__ne__") [.ref x, b]) Q E s := by
  refine wpAny_call (codeAny_call_builtin PySem.F.cmp_object.ne.plain PySem.F.cmpEntry_ne (PySem.W.check_slot (i := "object.__ne__") (owner := "object") (n := "__ne__") PySem.F.cmpKind_ne PySem.F.cmpSplit_ne (I.type.andThen (PySem.W.looks_mroIn X hob)) (PySem.F.cmpArgs_ne _ _) ?_))
  exact ne_entry X I hs hf hu (wpAny_mono hcall (fun v s' hv => by
    obtain ⟨r, rfl, hq⟩ := hv
    exact ⟨r, rfl, hq⟩) fun _ _ e => e)
theorem ne_K {Q : Value → Shared → Prop} (hu : A.units + 1 < cLine) (F : PyProof.Rows.Fr h₀ L s.heap m) (X₀ : K.In h₀) (I : PySem.W.InstAt s.heap x ox C od) (hb : PySem.W.Looks (model prog w) s.heap (typeOf b) tb) (hn : PySem.W.notFirst K C tb = true) (hob : PySem.W.mroIn K C (.type "object") = some true)
    (hne : PySem.W.findIn K (.ref C) "__ne__" = some (some (.builtin "object.__ne__"))) (hs : PySem.W.findIn K (.ref C) "__eq__" = some (some (.ref f))) (hf : PySem.W.isFn K (.ref f) = true)
    (h : wpAny (model prog w) A.in1 (call (.ref f) [.ref x, b]) (fun v s' => ∃ r, v = .bool r ∧ Q (.bool (!r)) s') E s) : wpAny (model prog w) A (richCompare .NotEq (.ref x) b) Q E s := by
  have X := X₀.keeps F.keep
  have one : wpAny (model prog w) A (tryCompare (.ref x) "__ne__" b) (fun r s' => ∃ v, r = some v ∧ Q v s') E s := by
    unfold tryCompare
    refine wpAny_bind (ifBound_ne X I hne (wpAny_mono (ne_call (Q := fun v s' => ∃ r, v = .bool r ∧ Q v s') X I hob hs hf hu (wpAny_mono h (fun v s' hv => ?_) fun _ _ e => e)) (fun v s' hv => ?_) fun _ _ e => e))
    · obtain ⟨r, rfl, hq⟩ := hv
      exact ⟨r, rfl, !r, rfl, hq⟩
    · obtain ⟨r, rfl, hq⟩ := hv
      exact wpAny_pure ⟨_, rfl, hq⟩
  unfold richCompare
  simp only [oneThing_ref]
  refine wpAny_holding (wpAny_bind (wpAny_cRoomFor (Nat.lt_of_succ_lt hu) ?_))
  rw [cmpInfo_NotEq]
  dsimp only
  refine wpAny_bind (I.type.here (wpAny_bind (hb.here ?_)))
  split
  · rename_i q
    have e : PySem.W.subIn K tb (.ref C) = some false := by
      rcases Bool.or_eq_true_iff.mp hn with e | e
      · rw [beq_iff_eq.mp e] at q; simp at q
      · exact beq_iff_eq.mp e
    refine wpAny_bind ((PySem.W.looks_subIn X e).here ?_)
    simp only [Bool.false_eq_true, if_false]
    refine wpAny_bind (wpAny_mono one (fun r s' z => ?_) fun _ _ e => e)
    obtain ⟨v, rfl, hq⟩ := z
    exact wpAny_pure hq
  · refine wpAny_bind (wpAny_pure ?_)
    simp only [Bool.false_eq_true, if_false]
    refine wpAny_bind (wpAny_mono one (fun r s' z => ?_) fun _ _ e => e)
    obtain ⟨v, rfl, hq⟩ := z
    exact wpAny_pure hq
end

theorem cx_false {P : Program} {w : World} {st : List Env} {H : Hp} {s s' : Shared} {e : Value} (h : L2.CX P w st H s (fun _ _ _ => False) e s') : False := by
  obtain ⟨_, _, _, _, _, _, _, _, _, _, _, _, z⟩ := h
  exact z
/-- what the class at C, whose own __eq__ is F, must have -/
structure EqC (P : Program) (w : World) (K : PySem.W.Frag) (mg : Str → Option Value) (base : Heap) (T : Tab) (k c : Nat) (F : FV) : Prop where
  ex : ∃ (f : Addr) (fd : FuncData) (ps : List Str), FnOk P w K mg base (L2.CX P w) k f fd ps (spV T 2 F) ∧ PySem.W.findIn K (.ref (T.cls c)) "__eq__" = some (some (.ref f)) ∧ PySem.W.isFn K (.ref f) = true ∧ Binds K fd ps []
  ne : PySem.W.findIn K (.ref (T.cls c)) "__ne__" = some (some (.builtin "object.__ne__"))
  ob : PySem.W.mroIn K (T.cls c) (.type "object") = some true
  tup : PySem.W.subIn K (.type "tuple") (.ref (T.cls c)) = some false
section
variable {X : Cx} {T : Tab} {W : WX} {k j c : Nat} {F : FV}
/-- the right side is one of the class, or a tuple -/
def eqArg (c : Nat) : D → Bool
  | .obj c' _ _ => decide (c' = c)
  | .tup _ => true
  | _ => false
def rOwnEq (T : Tab) (c : Nat) (F : FV) (neg : Bool) : R2 := fun x y H Q => ∃ U G σ ρ d e r, Rel T U G H σ ρ ∧ Rep T G x d ∧ Rep T G y e ∧ eqArg c d = true ∧ (∃ ns vs, d = .obj c ns vs) ∧ eqArg c e = true ∧ F [d, e] = .ok (.bl r) ∧ ∀ G' H', Rel T U G' H' σ ρ → L2.Same G G' → Q (.bl (if neg = true then !r else r)) H'
theorem op_ownEq (hk : X.K = T.K) (ec : EqC X.prog X.w X.K X.mg X.base T k c F) (hr : Room j X.A) (hkj : k + 1 ≤ j) (neg : Bool) : OpR X (compareOp (if neg = true then .NotEq else .Eq)) (rOwnEq T c F neg) := by
  intro pins s σ' H x y u v Q I rx ry hq
  obtain ⟨U, G, σ, ρ, d, e, r, R, rd, re, h1, ⟨ns, vs, hd⟩, h2, hF, q⟩ := hq
  subst hd
  obtain ⟨a, dx, fs, rfl, hG, h6, h7⟩ := id rd
  have ha := R.same _ _ hG
  cases rx
  obtain ⟨f, fd, ps, Fo, hs, hf, hb⟩ := ec.ex
  obtain ⟨mA, JA0, _⟩ := ins_get I.hok ha
  obtain ⟨od, JA, _⟩ := JA0.look
  obtain ⟨m, hFr⟩ := I.fr
  have key : ∃ tb, PySem.W.Looks (model X.prog X.w) s.heap (typeOf v) tb ∧ PySem.W.notFirst X.K (T.cls c) tb = true := by
    cases e with
    | obj c' ns' vs' =>
      have hc : c' = c := of_decide_eq_true h2
      subst hc
      obtain ⟨b, dy, gs, rfl, hG', _, _⟩ := id re
      cases ry
      obtain ⟨mB, J', _⟩ := ins_get I.hok (R.same _ _ hG')
      obtain ⟨od', J', _⟩ := J'.look
      exact ⟨_, J'.type, by simp [PySem.W.notFirst]⟩
    | tup ds =>
      obtain ⟨b, xs, rfl, hb', _⟩ := id re
      cases ry
      obtain ⟨its, rv, p, hz⟩ := I.tuple (hk ▸ Same.seqT R.same hb')
      obtain ⟨o, e1, e2, _⟩ := id (show s.heap.IsTuple b its.toArray from p)
      exact ⟨.type "tuple", fun A Q E s' k z => wpAny_typeOf_ref (k _ _ e1) (by rw [e2]; exact z), by unfold PySem.W.notFirst; rw [ec.tup]; rfl⟩
    | _ => cases h2
  obtain ⟨tb, hb2, hnf⟩ := key
  have run : ∀ (A : Around) (Q' : Value → Shared → Prop), Room k A → A.frames = X.A.frames → (∀ s', EP X pins σ' (fun w H' => w = .bl r ∧ ∃ G', Rel T U G' H' σ ρ ∧ L2.Same G G') (.bool r) s' → Q' (.bool r) s') → wpAny (model X.prog X.w) A (call (.ref f) [.ref a, v]) Q' X.xe s := by
    intro A Q' hrA hfr hQ
    have e0 : Env0 X.prog X.w X.K X.mg X.base A X.stack s H := by
      have e := I.env0
      exact ⟨by rw [hfr]; exact e.frames, e.mod, e.bs, e.bsz, e.funs, e.frf, e.hok, e.bare⟩
    have hsp : spV T 2 F [.ref a, y] H (fun w H' => w = .bl r ∧ ∃ G', Rel T U G' H' σ ρ ∧ L2.Same G G') (fun _ _ _ => False) := by
      refine ⟨rfl, J.lift H G, G, [_, e], R.lift, ⟨_, _, rfl, rd, .one re⟩, ?_⟩
      rw [hF]
      exact fun G' H' R' s' w rw' => ⟨rw', G', R.over R' s', s'⟩
    have hl := Fo.len _ _ _ _ hsp
    have r2 : Vals [V.ref a, y] [Value.ref a, v] := .cons rfl (.cons ry .nil)
    refine wpAny_call (codeAny_mono (Fo.run A X.stack s H ⟨[.ref a, v], []⟩ [.ref a, v] [.ref a, y] _ _ hrA e0 (by
      have := hb s [.ref a, v] I.kIn (by simpa using hl)
      simpa using this) r2 hsp) fun z s' hq' => ?_)
    cases z with
    | error e => exact (cx_false hq').elim
    | ok fl =>
      cases fl with
      | ret w =>
        have hq2 := I.after hq'
        obtain ⟨w', H', I', rw', ew, z⟩ := id hq2
        subst ew
        cases rw'
        exact hQ s' ⟨.bl r, H', I', rfl, rfl, z⟩
      | next => exact False.elim hq'
      | brk => exact False.elim hq'
      | cont => exact False.elim hq'
  cases neg with
  | false =>
    simp only [Bool.false_eq_true, if_false] at q ⊢
    show wpAny (model X.prog X.w) X.A (richCompare .Eq (.ref a) v) _ _ _
    refine PySem.W.cmp_K (op := .Eq) (tb := tb) hr.units0 hFr I.ok.mod.kin JA hb2 hnf hs hf (run X.A _ (hr.mono (by omega)) rfl fun s' h => ?_)
    obtain ⟨w, H', I', rw', ew, G', R', s'⟩ := h
    exact ⟨.bl r, H', I', rfl, q G' H' R' s'⟩
  | true =>
    simp only [if_true] at q ⊢
    show wpAny (model X.prog X.w) X.A (richCompare .NotEq (.ref a) v) _ _ _
    have hu : X.A.units + 1 < cLine := by have := hr.un; omega
    refine ne_K (tb := tb) hu hFr I.ok.mod.kin JA hb2 hnf ec.ob ec.ne hs hf (run X.A.in1 _ ?_ rfl fun s' h => ?_)
    · exact (hr.mono hkj).in1
    obtain ⟨w, H', I', rw', ew, G', R', s'⟩ := h
    exact ⟨r, rfl, .bl (!r), H', I', rfl, q G' H' R' s'⟩
end
end J

set_option Elab.async false
set_option linter.all false
set_option maxRecDepth 100000
set_option maxHeartbeats 4000000
namespace J
open PySem PySem.Spec PyProof.Rows L2

/-! ### lists, tuples, texts as what enumerate and zip draw from -/
inductive Kd where
  | l (a : Addr) | t (a : Addr) | s (z : Str) (tk : Tok)
def Kd.val : Kd → Value
  | .l a => .ref a
  | .t a => .ref a
  | .s z tk => .str z tk
def Kd.obj : Kd → Obj
  | .l a => { cls := .type "list_iterator", data := .fields #[.ref a, .int 0 0] }
  | .t a => { cls := .type "tuple_iterator", data := .fields #[.ref a, .int 0 0] }
  | .s z tk => { cls := .type (strIterType z), data := .fields #[.str z tk, .int 0 0] }
def Kd.its (k : Kd) (it : Addr) (i : Nat) (h : Heap) : Prop := match k with
  | .l a => h.IsListIter it a i
  | .t a => h.IsTupleIter it a i
  | .s z tk => h.IsStrIter it (strIterType z) z tk i
def signV (z : Str) : List V := z.cps.toList.map fun c => V.str ⟨#[c]⟩
def Kd.has (K : PySem.W.Frag) (k : Kd) (H : Hp) (xs : List V) : Prop := match k with
  | .l a => SqL K H a xs
  | .t a => SqT K H a xs
  | .s z _ => xs = signV z
def Kd.at (k : Kd) (xs : List V) (h : Heap) : Prop := match k with
  | .l a => ∃ its : List Value, Vals xs its ∧ h.IsList a its.toArray
  | .t a => ∃ its : List Value, Vals xs its ∧ h.IsTuple a its.toArray
  | .s z _ => xs = signV z
def Kd.fp (k : Kd) : List Addr := match k with
  | .l a => [a]
  | .t a => [a]
  | .s _ _ => []
theorem Kd.at_of {X : Cx} {pins : List (Addr × Obj)} {σ : L2.St} {H : Hp} {s : Shared} {k : Kd} {xs : List V} (I : Inv X pins σ H s) (h : k.has X.K H xs) : k.at xs s.heap := by
  cases k with
  | l a => obtain ⟨its, rv, p, _⟩ := I.list h; exact ⟨its, rv, p.isList⟩
  | t a => obtain ⟨its, rv, p, _⟩ := I.tuple h; exact ⟨its, rv, p⟩
  | s z tk => exact h
theorem Kd.keep {k : Kd} {xs : List V} {h h' : Heap} (a : k.at xs h) (hk : ∀ b ∈ k.fp, ∀ o, h.get? b = some o → h'.get? b = some o) : k.at xs h' := by
  cases k with
  | l a => obtain ⟨its, rv, p⟩ := a; exact ⟨its, rv, p.at fun o e => hk _ (by simp [Kd.fp]) o e⟩
  | t a => obtain ⟨its, rv, p⟩ := a; exact ⟨its, rv, p.at fun o e => hk _ (by simp [Kd.fp]) o e⟩
  | s z tk => exact a
theorem Kd.lt {k : Kd} {xs : List V} {h : Heap} (a : k.at xs h) : ∀ b ∈ k.fp, b < h.objs.size := by
  cases k with
  | l a =>
    obtain ⟨its, rv, ⟨o, ho, _⟩⟩ := a
    intro b hb
    have : b = a := by simpa [Kd.fp] using hb
    rw [this]; exact Heap.lt_size ho
  | t a =>
    obtain ⟨its, rv, ⟨o, ho, _⟩⟩ := a
    intro b hb
    have : b = a := by simpa [Kd.fp] using hb
    rw [this]; exact Heap.lt_size ho
  | s z tk => intro b hb; simp [Kd.fp] at hb
theorem Kd.itsKeep {k : Kd} {it : Addr} {i : Nat} {h h' : Heap} (a : k.its it i h) (hk : ∀ o, h.get? it = some o → h'.get? it = some o) : k.its it i h' := by
  cases k with
  | l a => exact a.at hk
  | t a => exact a.at hk
  | s z tk => obtain ⟨o, ho, r⟩ := a; exact ⟨o, hk o ho, r⟩
theorem Kd.itsObj {k : Kd} {it : Addr} {i : Nat} {h : Heap} (a : k.its it i h) : ∃ o, h.get? it = some o ∧ ∀ v, o.data ≠ .cell v := by
  cases k with
  | l a => obtain ⟨o, ho, _, hd⟩ := a; exact ⟨o, ho, fun v q => by rw [hd] at q; cases q⟩
  | t a => obtain ⟨o, ho, _, hd⟩ := a; exact ⟨o, ho, fun v q => by rw [hd] at q; cases q⟩
  | s z tk => obtain ⟨o, ho, _, hd⟩ := a; exact ⟨o, ho, fun v q => by rw [hd] at q; cases q⟩
theorem Kd.itsNew {k : Kd} {it : Addr} {h : Heap} (e : h.get? it = some k.obj) : k.its it 0 h := by
  cases k with
  | l a => exact ⟨_, e, rfl, rfl⟩
  | t a => exact ⟨_, e, rfl, rfl⟩
  | s z tk => exact ⟨_, e, rfl, rfl⟩
theorem Kd.begins (k : Kd) {xs : List V} : Begins k.val k.obj fun h => k.at xs h := by
  cases k with
  | l a => exact ⟨fun prog w A E s Q hl h => by obtain ⟨its, _, p⟩ := hl; exact wpAny_pyIter_list p h, fun h h' x hk => Kd.keep x fun b _ o e => hk b o e, rfl⟩
  | t a => exact ⟨fun prog w A E s Q hl h => by obtain ⟨its, _, p⟩ := hl; exact wpAny_pyIter_tuple p h, fun h h' x hk => Kd.keep x fun b _ o e => hk b o e, rfl⟩
  | s z tk => exact ⟨fun prog w A E s Q _ h => wpAny_pyIter_strU h, fun _ _ x _ => x, rfl⟩
theorem getL {xs : List V} {its : List Value} (rv : Vals xs its) {i : Nat} (hi : i < xs.length) : ∃ x u, xs[i]? = some x ∧ its.toArray[i]? = some u ∧ RelV x u := by
  obtain ⟨u, hu, ru⟩ := rv.get (List.getElem?_eq_getElem hi)
  exact ⟨_, u, List.getElem?_eq_getElem hi, by simpa using hu, ru⟩
theorem Kd.draws {prog : Program} {w : World} {A : Around} (hh : A.handled = none) (k : Kd) (it : Addr) (hne : it ∉ k.fp) (xs : List V) :
    Draws prog w A it (it :: k.fp) xs.length (fun i v => ∃ x, xs[i]? = some x ∧ RelV x v) (fun i h => k.its it i h ∧ k.at xs h) where
  live := fun _ _ st => let ⟨o, ho, _⟩ := Kd.itsObj st.1; ⟨o, ho⟩
  frame := fun _ _ _ st hk => ⟨Kd.itsKeep st.1 fun o e => hk it (by simp) o e, Kd.keep st.2 fun b hb o e => hk b (by simp [hb]) o e⟩
  item := fun i s Q E hi st hQ => by
    obtain ⟨st1, st2⟩ := st
    cases k with
    | l a =>
      obtain ⟨its, rv, p⟩ := id st2
      obtain ⟨x, u, hx, hu, ru⟩ := getL rv hi
      refine wpAny_nextOf_list_item st1 p hu fun h' hit' hs' => ?_
      exact hQ _ h' s.toks ⟨x, hx, ru⟩ ⟨hit', Kd.keep (k := .l a) st2 fun b hb o e => (hs'.2 b fun z => hne (z ▸ hb)).trans e⟩ hs'
    | t a =>
      obtain ⟨its, rv, p⟩ := id st2
      obtain ⟨x, u, hx, hu, ru⟩ := getL rv hi
      refine RZ.nextOf_tuple_item st1 p hu fun h' hit' hs' => ?_
      exact hQ _ h' s.toks ⟨x, hx, ru⟩ ⟨hit', Kd.keep (k := .t a) st2 fun b hb o e => (hs'.2 b fun z => hne (z ▸ hb)).trans e⟩ hs'
    | s z tk =>
      have e0 : xs = signV z := st2
      subst e0
      have hz : i < z.cps.size := by simpa [signV] using hi
      have hx : (signV z)[i]? = some (.str ⟨#[z.cps[i]]⟩) := by simp [signV, hz]
      cases ha : z.cps.all (· < 128) with
      | true =>
        have st1' : s.heap.IsStrIter it "str_ascii_iterator" z tk i := by have q : s.heap.IsStrIter it (strIterType z) z tk i := st1; simpa [strIterType, ha] using q
        refine wpAny_nextOf_ascii_item st1' (c := z.cps[i]) (by simp [hz]) fun h' hit' hs' => ?_
        exact hQ _ h' (s.toks + 1) ⟨_, hx, ⟨_, rfl⟩⟩ ⟨by show h'.IsStrIter it (strIterType z) z tk (i + 1); simpa [strIterType, ha] using hit', rfl⟩ hs'
      | false =>
        have st1' : s.heap.IsStrIter it "str_iterator" z tk i := by have q : s.heap.IsStrIter it (strIterType z) z tk i := st1; simpa [strIterType, ha] using q
        refine wpAny_nextOf_wide_item st1' (c := z.cps[i]) (by simp [hz]) fun h' hit' hs' => ?_
        exact hQ _ h' (s.toks + 1) ⟨_, hx, ⟨_, rfl⟩⟩ ⟨by show h'.IsStrIter it (strIterType z) z tk (i + 1); simpa [strIterType, ha] using hit', rfl⟩ hs'
  done := fun s Q E st hE => by
    obtain ⟨st1, st2⟩ := st
    cases k with
    | l a =>
      obtain ⟨its, rv, p⟩ := id st2
      exact wpAny_nextOf_list_end hh st1 p (by have := rv.length; simp; omega) hE
    | t a =>
      obtain ⟨its, rv, p⟩ := id st2
      exact RZ.nextOf_tuple_end hh st1 p (by have := rv.length; simp; omega) hE
    | s z tk =>
      have e0 : xs = signV z := st2
      subst e0
      have hl : (signV z).length = z.cps.size := by simp [signV]
      cases ha : z.cps.all (· < 128) with
      | true =>
        have st1' : s.heap.IsStrIter it "str_ascii_iterator" z tk (signV z).length := by have q : s.heap.IsStrIter it (strIterType z) z tk (signV z).length := st1; simpa [strIterType, ha] using q
        exact wpAny_nextOf_ascii_end hh st1' (by simp [hl]) hE
      | false =>
        have st1' : s.heap.IsStrIter it "str_iterator" z tk (signV z).length := by have q : s.heap.IsStrIter it (strIterType z) z tk (signV z).length := st1; simpa [strIterType, ha] using q
        exact wpAny_nextOf_wide_end hh st1' (by simp [hl]) hE

/-! ### enumerate -/
def Ien (K : PySem.W.Frag) (k : Kd) (xs : List V) : It :=
  ⟨fun i H => i < xs.length ∧ k.has K H xs, fun i H v H' => ∃ T x, v = .ref T ∧ H T = none ∧ H' = upd H T (.tup [.int (i : Nat), x]) ∧ xs[i]? = some x, fun i H => i = xs.length ∧ k.has K H xs⟩
theorem turn_en {P : Program} {w : World} {K : PySem.W.Frag} {elts : List Expr} {kk : Nat} {tpos : Pos} (k : Kd) (xs : List V) (e it : Addr) (hne : e ≠ it) (hef : e ∉ k.fp) (hif : it ∉ k.fp) :
    Turn P w K (.Tuple elts kk tpos) (Ien K k xs) [e, it] e (fun i h => (∃ old, IsEnum h e it ((i : Nat) : Int) old) ∧ k.its it i h) where
  mem := by simp
  obj := fun i h st b hb => by
    obtain ⟨⟨old, he⟩, hi⟩ := st
    have e' : b = e ∨ b = it := by simpa using hb
    rcases e' with z | z
    · rw [z]; exact ⟨_, he, fun v q => nomatch q⟩
    · rw [z]; exact Kd.itsObj hi
  keep := fun i h h' st hk => let ⟨⟨old, he⟩, hi⟩ := st; ⟨⟨old, hk e (by simp) _ he⟩, Kd.itsKeep hi fun o q => hk it (by simp) o q⟩
  item := by
    intro X hP hw hK hc i pins s σ H E I hf st hg
    subst hP hw hK
    obtain ⟨⟨old, he⟩, hit⟩ := st
    obtain ⟨hi, hq⟩ := hg
    have hA : X.A.in1.handled = none := I.ok.hd hc
    have D := Kd.draws (prog := X.prog) (w := X.w) (A := X.A.in1) hA k it hif xs
    have hel : e < s.heap.objs.size := Heap.lt_size he
    have hil : it < s.heap.objs.size := by obtain ⟨_, q, _⟩ := Kd.itsObj hit; exact Heap.lt_size q
    have hef' : e ∉ it :: k.fp := fun z => by rcases List.mem_cons.mp z with z | z; exact hne z; exact hef z
    refine wpAny_pyNext_enum_itemD D he ⟨hit, Kd.at_of I hq⟩ hi hne hef' fun u h' tk hx ho hst' hT hsz hk => ?_
    obtain ⟨x, hx, ru⟩ := hx
    refine ⟨_, rfl, wpAny_letOwnedTupleGo_enum (s := { s with heap := h', toks := tk + 1 }) ho fun h'' he' sb => ?_⟩
    have hT2 : h''.get? s.heap.objs.size = some { cls := .type "tuple", data := .seq #[.int i tk, u] } := (sb.2 _ (Nat.ne_of_gt hel)).trans hT
    have new : ObjOk X.prog X.w (upd H s.heap.objs.size (.tup [.int (i : Nat), x])) h'' s.heap.objs.size (.tup [.int (i : Nat), x]) :=
      ⟨by show 2 ≤ sizeLine; decide, [.int i tk, u], .cons ⟨_, rfl⟩ (.cons ru .nil), ⟨_, hT2, rfl, _, rfl⟩⟩
    have I1 : Inv X pins σ (upd H s.heap.objs.size (.tup [.int (i : Nat), x])) { s with heap := h'', toks := tk + 1 } :=
      I.turnedNew (t' := tk + 1) (ch := [e, it]) (fun b ob hb q => (sb.2 b (fun z => hb (by simp [z]))).trans (hk b ob (fun z => hb (by simp [z])) (fun z => hb (by simp [z])) q)) hf (Nat.le_refl _) new
    refine ⟨.ref s.heap.objs.size, _, I1, rfl, ⟨_, x, rfl, I.hok.fresh (Nat.le_refl _), rfl, hx⟩, ⟨⟨u, ?_⟩, Kd.itsKeep hst'.1 fun o q => (sb.2 it (Ne.symm hne)).trans q⟩, fun b hb => ?_⟩
    · have e1 : ((i + 1 : Nat) : Int) = (i : Int) + 1 := by omega
      rw [e1]; exact he'
    · have hb' : b < s.heap.objs.size := by
        have e' : b = e ∨ b = it := by simpa using hb
        rcases e' with z | z
        · rw [z]; exact hel
        · rw [z]; exact hil
      rw [upd_ne (Nat.ne_of_lt hb')]
      exact (hf b hb).1
  done := by
    intro X hP hw hK hc i pins s σ H E I hf st hg
    subst hP hw hK
    obtain ⟨⟨old, he⟩, hit⟩ := st
    obtain ⟨hi, hq⟩ := hg
    subst hi
    obtain ⟨f0, f1, f2, f3, f4, f5⟩ := hf it (by simp)
    have hA : X.A.in1.handled = none := I.ok.hd hc
    exact wpAny_pyNext_enum_endD (Kd.draws (prog := X.prog) (w := X.w) (A := X.A.in1) hA k it hif xs) he ⟨hit, Kd.at_of I hq⟩ fun h' eb => ⟨rfl, I.turned (t' := s.toks) (fun b o hb q => eb b o hb q) f0 f1 f3 f4 f5⟩
  self := fun A i s Q E st h => let ⟨⟨_, he⟩, _⟩ := st; wpAny_pyIter_enum he h
set_option maxHeartbeats 8000000 in
theorem meets_enum1 {v : Value} {o : Obj} {H : Heap → Prop} (B : Begins v o H) :
    Meets (Builtin.«enumerate.__new__» ⟨[.type "enumerate", v], []⟩) (fun _ R s => H s.heap ∧
      R (.ok (.ret (.ref (s.heap.push o).objs.size))) { s with heap := (s.heap.push o).push { cls := .type "enumerate", data := .fields #[.none, .bool false, .ref s.heap.objs.size, rawInt 0, .none, .none] } }) :=
  .of_wp fun prog w A R s h => by
    obtain ⟨hp, g, d, tk, os⟩ := s; obtain ⟨h1, h⟩ := h
    have hsub := sub_enumerate
    have q1 : ∀ {A' : Around} {E : Value → Shared → Prop} {Q : Value → Shared → Prop}, Q (.ref hp.objs.size) ⟨hp.push o, g, d, tk, os⟩ → wpAny (model prog w) A' (pyIter v) Q E ⟨hp, g, d, tk, os⟩ :=
      fun q => B.iter prog w _ _ ⟨hp, g, d, tk, os⟩ _ h1 q
    wp_walk using q1
    refine wpAny_stack_any fun st => wpAny_pure ?_
    split
    · rename_i c _ _ _ _ _
      cases (c == Value.type "enumerate")
      · wp_walk using q1
        exact ⟨_, rfl, h⟩
      · wp_walk using q1
        exact ⟨_, rfl, h⟩
    · wp_walk using q1
      exact ⟨_, rfl, h⟩
theorem call_enum1 {prog : Program} {w : World} {A : Around} {E : Value → Shared → Prop} {s : Shared} {v : Value} {o : Obj} {H : Heap → Prop} {Q : Value → Shared → Prop} (B : Begins v o H) (h1 : H s.heap)
    (h : ∀ h', IsEnum h' (s.heap.objs.size + 1) s.heap.objs.size 0 .none → h'.get? s.heap.objs.size = some o → h'.objs.size = s.heap.objs.size + 2 →
      (∀ b o, s.heap.get? b = some o → h'.get? b = some o) → Q (.ref (s.heap.objs.size + 1)) { s with heap := h' }) :
    wpAny (model prog w) A (call (.type "enumerate") [v]) Q E s := by
  refine callType_new F.called_enumerate (by decide) (F.typeCall_enumerate_1 _) (F.newCall_enumerate_1 _) (fun obj => F.args_object_init_2 obj _) F.entry_enumerate_new (meets_enum1 B) ⟨h1, ?_⟩
  have hz : (s.heap.push o).objs.size = s.heap.objs.size + 1 := Heap.size_push ..
  show _ ∧ _
  rw [hz]
  have he : IsEnum ((s.heap.push o).push { cls := .type "enumerate", data := .fields #[.none, .bool false, .ref s.heap.objs.size, rawInt 0, .none, .none] }) (s.heap.objs.size + 1) s.heap.objs.size 0 .none := by
    have := Heap.get?_push_size (s.heap.push o) (o := { cls := .type "enumerate", data := .fields #[.none, .bool false, .ref s.heap.objs.size, rawInt 0, .none, .none] }) rfl
    rw [hz] at this; exact this
  refine ⟨⟨_, he, rfl⟩, h _ he (Heap.get?_push_of_some _ (Heap.get?_push_size _ B.free)) (by rw [Heap.size_push, hz]) fun b o x => Heap.get?_push_of_some _ (Heap.get?_push_of_some _ x)⟩
/-- a list, a tuple or a text as a source -/
def Srcs (K : PySem.W.Frag) (x : V) (H : Hp) (R : Kd → List V → Prop) : Prop :=
  (∃ a xs, x = .ref a ∧ SqL K H a xs ∧ (xs.length ≤ sizeLine → R (.l a) xs)) ∨ (∃ a xs, x = .ref a ∧ SqT K H a xs ∧ (xs.length ≤ sizeLine → R (.t a) xs)) ∨ (∃ z, x = .str z ∧ ∀ tk, R (.s z tk) (signV z))
theorem Srcs.get {X : Cx} {pins : List (Addr × Obj)} {σ : L2.St} {H : Hp} {s : Shared} {x : V} {u : Value} {R : Kd → List V → Prop} (I : Inv X pins σ H s) (rx : RelV x u) (h : Srcs X.K x H R) : ∃ k xs, u = k.val ∧ k.has X.K H xs ∧ R k xs := by
  rcases h with ⟨a, xs, rfl, hq, q⟩ | ⟨a, xs, rfl, hq, q⟩ | ⟨z, rfl, q⟩
  · cases rx
    obtain ⟨its, rv, p, hz⟩ := I.list hq
    exact ⟨.l a, xs, rfl, hq, q hz⟩
  · cases rx
    obtain ⟨its, rv, p, hz⟩ := I.tuple hq
    exact ⟨.t a, xs, rfl, hq, q hz⟩
  · obtain ⟨tk, rfl⟩ := rx
    exact ⟨.s z tk, _, rfl, rfl, q tk⟩
def iEn (K : PySem.W.Frag) (ta : TA) : TI := fun σ H R => ta σ H fun vs H1 => ∃ x, vs = [x] ∧ Srcs K x H1 fun k xs => R (Ien K k xs) H1
theorem pi_en {X : Cx} {e : Expr} {ta : TA} {p pos tpos : Pos} {elts : List Expr} {kk : Nat} (hg : Gl X "enumerate") (hm : X.mg "enumerate" = none) (ha : PA X [e] ta) (hs : starEach [e] X.env = [(false, eval e X.env)] := by rfl) :
    PI X (.Tuple elts kk tpos) (.Call (.Name "enumerate" p) [e] [] pos) (iEn X.K ta) := by
  refine ⟨fun pins s σ H R I h => ?_⟩
  refine Call_ (ld_blt I hg hm boot_enumerate (PyProof.Rows.callWith_type1 (thn (ha.run pos pins s σ H _ I h) fun us s1 ⟨vs, H1, I1, r1, q1⟩ => ?_) hs rfl))
  obtain ⟨x, ex, q⟩ := q1
  subst ex
  cases r1 with
  | cons r rr =>
    cases rr
    obtain ⟨k, xs, rfl, hq, q⟩ := q.get I1 r
    have hat := Kd.at_of I1 hq
    have hlt := Kd.lt hat
    refine call_enum1 (k.begins (xs := xs)) hat fun h' he hit hsz hk => wpAny_pyIter_enum he ?_
    have I2 : Inv X pins σ H1 { s1 with heap := h' } := I1.kept (t' := s1.toks) hk
    refine ⟨s1.heap.objs.size + 1, [s1.heap.objs.size + 1, s1.heap.objs.size], _, _, H1, rfl, I2, turn_en k xs (s1.heap.objs.size + 1) s1.heap.objs.size (Nat.succ_ne_self _) (fun z => absurd (hlt _ z) (Nat.not_lt.mpr (Nat.le_add_right _ _))) (fun z => absurd (hlt _ z) (Nat.lt_irrefl _)), ⟨⟨.none, he⟩, Kd.itsNew hit⟩, fun b hb => ?_, q⟩
    have e' : b = s1.heap.objs.size + 1 ∨ b = s1.heap.objs.size := by simpa using hb
    have hle : s1.heap.objs.size ≤ b := by
      rcases e' with z | z
      · rw [z]; exact Nat.le_add_right _ _
      · rw [z]; exact Nat.le_refl _
    exact I1.fpOk hle (I1.hok.fresh hle)

/-! ### zip -/
def Izi (K : PySem.W.Frag) (k1 k2 : Kd) (xs ys : List V) : It :=
  ⟨fun i H => i < xs.length ∧ i < ys.length ∧ k1.has K H xs ∧ k2.has K H ys, fun i H v H' => ∃ T x y, v = .ref T ∧ H T = none ∧ H' = upd H T (.tup [x, y]) ∧ xs[i]? = some x ∧ ys[i]? = some y, fun i H => i = min xs.length ys.length ∧ k1.has K H xs ∧ k2.has K H ys⟩
theorem turn_zi {P : Program} {w : World} {K : PySem.W.Frag} {elts : List Expr} {kk : Nat} {tpos : Pos} (k1 k2 : Kd) (xs ys : List V) {z TI TO i1 i2 : Addr} (S : ZipSep2 z TI TO i1 i2 (i1 :: k1.fp) (i2 :: k2.fp)) (h1 : i1 ∉ k1.fp) (h2 : i2 ∉ k2.fp) (hi12 : i1 ≠ i2) :
    Turn P w K (.Tuple elts kk tpos) (Izi K k1 k2 xs ys) [z, TI, TO, i1, i2] z (fun i h => IsZip h z TI TO .none ∧ IsTupOf2 h TI (.ref i1) (.ref i2) ∧ (∃ x y, IsTupOf2 h TO x y) ∧ k1.its i1 i h ∧ k2.its i2 i h) where
  mem := by simp
  obj := fun i h st c hc => by
    obtain ⟨hz, hTI, ⟨x, y, hTO⟩, e1, e2⟩ := st
    have e' : c = z ∨ c = TI ∨ c = TO ∨ c = i1 ∨ c = i2 := by simpa using hc
    rcases e' with q | q | q | q | q
    · rw [q]; exact ⟨_, hz, fun v q => nomatch q⟩
    · rw [q]; exact ⟨_, hTI, fun v q => nomatch q⟩
    · rw [q]; exact ⟨_, hTO, fun v q => nomatch q⟩
    · rw [q]; exact Kd.itsObj e1
    · rw [q]; exact Kd.itsObj e2
  keep := fun i h h' st k => by
    obtain ⟨hz, hTI, ⟨x, y, hTO⟩, h1, h2⟩ := st
    exact ⟨k z (by simp) _ hz, k TI (by simp) _ hTI, ⟨x, y, k TO (by simp) _ hTO⟩, Kd.itsKeep h1 fun o q => k i1 (by simp) o q, Kd.itsKeep h2 fun o q => k i2 (by simp) o q⟩
  item := by
    intro X hP hw hK hc i pins s σ H E I hf st hg
    subst hP hw hK
    obtain ⟨hz, hTI, ⟨x0, y0, hTO⟩, e1, e2⟩ := st
    obtain ⟨l1, l2, q1, q2⟩ := hg
    have hA : X.A.in1.handled = none := I.ok.hd hc
    have hzl : z < s.heap.objs.size := Heap.lt_size hz
    refine wpAny_pyNext_zipD2_item S (Kd.draws (prog := X.prog) (w := X.w) (A := X.A.in1) hA k1 i1 h1 xs) (Kd.draws (prog := X.prog) (w := X.w) (A := X.A.in1) hA k2 i2 h2 ys) hz hTI hTO ⟨e1, Kd.at_of I q1⟩ ⟨e2, Kd.at_of I q2⟩ l1 l2 fun u u2 h' tk p1 p2 z' TO' st1 st2 hT hsz hk => ?_
    obtain ⟨x, hx, ru⟩ := p1
    obtain ⟨y, hy, ru2⟩ := p2
    refine ⟨_, rfl, wpAny_letOwnedTupleGo_zip (s := { s with heap := h', toks := tk }) z' fun h'' z'' sb => ?_⟩
    have hT2 : h''.get? s.heap.objs.size = some { cls := .type "tuple", data := .seq #[u, u2] } := (sb.2 _ (Nat.ne_of_gt hzl)).trans hT
    have new : ObjOk X.prog X.w (upd H s.heap.objs.size (.tup [x, y])) h'' s.heap.objs.size (.tup [x, y]) :=
      ⟨by show 2 ≤ sizeLine; decide, [u, u2], .cons ru (.cons ru2 .nil), ⟨_, hT2, rfl, _, rfl⟩⟩
    have hTIo : TI ≠ TO := S.TITO
    have I1 : Inv X pins σ (upd H s.heap.objs.size (.tup [x, y])) { s with heap := h'', toks := tk } :=
      I.turnedNew (t' := tk) (ch := [z, TI, TO, i1, i2]) (fun c o hb q => (sb.2 c (fun q' => hb (by simp [q']))).trans (hk c o (fun q' => hb (by simp [q'])) (fun q' => hb (by simp [q'])) (fun q' => hb (by simp [q'])) (fun q' => hb (by simp [q'])) q)) hf (Nat.le_refl _) new
    refine ⟨.ref s.heap.objs.size, _, I1, rfl, ⟨_, x, y, rfl, I.hok.fresh (Nat.le_refl _), rfl, hx, hy⟩, ⟨z'', ?_, ⟨u, u2, ?_⟩, ?_, ?_⟩, fun c hcm => ?_⟩
    · exact (sb.2 _ S.TIz).trans (hk _ _ S.TIz S.TITO S.TIi1 S.TIi2 hTI)
    · exact (sb.2 _ S.TOz).trans TO'
    · exact Kd.itsKeep st1.1 fun o q => (sb.2 _ (Ne.symm S.zi1)).trans q
    · exact Kd.itsKeep st2.1 fun o q => (sb.2 _ (Ne.symm S.zi2)).trans q
    · have hlt : c < s.heap.objs.size := by
        have e' : c = z ∨ c = TI ∨ c = TO ∨ c = i1 ∨ c = i2 := by simpa using hcm
        rcases e' with q | q | q | q | q
        · rw [q]; exact hzl
        · rw [q]; exact Heap.lt_size hTI
        · rw [q]; exact Heap.lt_size hTO
        · rw [q]; obtain ⟨_, e1, _⟩ := Kd.itsObj e1; exact Heap.lt_size e1
        · rw [q]; obtain ⟨_, e2, _⟩ := Kd.itsObj e2; exact Heap.lt_size e2
      rw [upd_ne (Nat.ne_of_lt hlt)]
      exact (hf c hcm).1
  done := by
    intro X hP hw hK hc i pins s σ H E I hf st hg
    subst hP hw hK
    obtain ⟨hz, hTI, ⟨x0, y0, hTO⟩, e1, e2⟩ := st
    obtain ⟨hi, q1, q2⟩ := hg
    have hA : X.A.in1.handled = none := I.ok.hd hc
    exact wpAny_pyNext_zipD2_end S (Kd.draws (prog := X.prog) (w := X.w) (A := X.A.in1) hA k1 i1 h1 xs) (Kd.draws (prog := X.prog) (w := X.w) (A := X.A.in1) hA k2 i2 h2 ys) hz hTI hTO ⟨e1, Kd.at_of I q1⟩ ⟨e2, Kd.at_of I q2⟩ (by omega) (by omega) (by omega)
      fun h' tk hk => ⟨rfl, I.turnedL (t' := tk) (ch := [z, TI, TO, i1, i2]) (fun c o hb q => hk c o (fun q' => hb (by simp [q'])) (fun q' => hb (by simp [q'])) (fun q' => hb (by simp [q'])) (fun q' => hb (by simp [q'])) q) hf⟩
  self := fun A i s Q E st h => wpAny_pyIter_zip st.1 h
def iZi (K : PySem.W.Frag) (ta : TA) : TI := fun σ H R => ta σ H fun vs H1 => ∃ x y, vs = [x, y] ∧ Srcs K x H1 fun k xs => Srcs K y H1 fun k2 ys => R (Izi K k k2 xs ys) H1
theorem pi_zi {X : Cx} {e e2 : Expr} {ta : TA} {p pos tpos : Pos} {elts : List Expr} {kk : Nat} (hg : Gl X "zip") (hm : X.mg "zip" = none) (ha : PA X [e, e2] ta)
    (hs : starEach [e, e2] X.env = (false, eval e X.env) :: starEach [e2] X.env := by rfl) (hpl : (backTo pos (starEach [e2] X.env)).any (·.1) = false := by rfl) :
    PI X (.Tuple elts kk tpos) (.Call (.Name "zip" p) [e, e2] [] pos) (iZi X.K ta) := by
  refine ⟨fun pins s σ H R I h => ?_⟩
  refine Call_ (ld_blt I hg hm PyProof.Rows.boot_zip (PyProof.Rows.callWith_type1 (thn (ha.run pos pins s σ H _ I h) fun us s1 ⟨vs, H1, I1, r1, q1⟩ => ?_) hs hpl))
  obtain ⟨x, y, ex, q⟩ := q1
  subst ex
  cases r1 with
  | cons r rr =>
    cases rr with
    | cons r' rr =>
      cases rr
      obtain ⟨k1, xs, rfl, hq1, q⟩ := q.get I1 r
      obtain ⟨k2, ys, rfl, hq2, q⟩ := q.get I1 r'
      have hat1 := Kd.at_of I1 hq1
      have hat2 := Kd.at_of I1 hq2
      have hlt1 := Kd.lt hat1
      have hlt2 := Kd.lt hat2
      refine zip_begins2 (k1.begins (xs := xs)) (k2.begins (xs := ys)) hat1 hat2 fun h' hz hTI hTO g1 g2 hsz hk => wpAny_pyIter_zip hz ?_
      have I2 : Inv X pins σ H1 { s1 with heap := h' } := I1.kept (t' := s1.toks) hk
      refine ⟨s1.heap.objs.size + 4, [s1.heap.objs.size + 4, s1.heap.objs.size + 2, s1.heap.objs.size + 3, s1.heap.objs.size, s1.heap.objs.size + 1], _, _, H1, rfl, I2, turn_zi k1 k2 xs ys (zip_sep2 hlt1 hlt2) (fun z => absurd (hlt1 _ z) (Nat.lt_irrefl _)) (fun z => absurd (hlt2 _ z) (Nat.not_lt.mpr (Nat.le_add_right _ _))) (Nat.succ_ne_self _).symm, ⟨hz, hTI, ⟨_, _, hTO⟩, Kd.itsNew g1, Kd.itsNew g2⟩, fun c hcm => ?_, q⟩
      have e' : c = s1.heap.objs.size + 4 ∨ c = s1.heap.objs.size + 2 ∨ c = s1.heap.objs.size + 3 ∨ c = s1.heap.objs.size ∨ c = s1.heap.objs.size + 1 := by simpa using hcm
      have hle : s1.heap.objs.size ≤ c := by
        rcases e' with z | z | z | z | z
        · rw [z]; exact Nat.le_add_right _ _
        · rw [z]; exact Nat.le_add_right _ _
        · rw [z]; exact Nat.le_add_right _ _
        · rw [z]; exact Nat.le_refl _
        · rw [z]; exact Nat.le_add_right _ _
      exact I1.fpOk hle (I1.hok.fresh hle)

/-! ### .. as what is walked -/
section
variable {X : Cx} {T : Tab} {W : WX} {tg : Expr}
theorem signs_reps {G : Hp} {z : Str} (h : SOk z) : Reps T G (signV z) (signs z) := by
  refine Reps.of_get (by simp [signV, signs]) fun i x d h1 h2 => ?_
  unfold signV at h1
  unfold signs at h2
  rw [List.getElem?_map] at h1 h2
  cases e : z.cps.toList[i]? with
  | none => rw [e] at h1; cases h1
  | some c =>
    rw [e] at h1 h2
    cases h1
    cases h2
    exact ⟨rfl, h.sign (List.mem_of_getElem? e)⟩
theorem srcs_ok {U G H : Hp} {σ : L2.St} {ρ : En} {v : V} {d : D} {ds : List D} {R : Kd → List V → Prop} (RR : Rel T U G H σ ρ) (rv : Rep T G v d) (e : itemsD d = some ds)
    (q : ∀ k xs, Reps T G xs ds → ds.length ≤ sizeLine → (∀ G2 H2, L2.Same G G2 → L2.Same G2 H2 → k.has T.K H2 xs) → R k xs) : Srcs T.K v H R := by
  cases d <;> simp only [itemsD] at e <;> first | (cases e; done) | skip
  · cases e
    obtain ⟨rfl, o⟩ := rv
    refine .inr (.inr ⟨_, rfl, fun tk => q (.s _ tk) _ (signs_reps o) ?_ fun _ _ _ _ => rfl⟩)
    unfold signs
    simp only [List.length_map, Array.length_toList]
    exact o.1
  · cases e
    obtain ⟨a, xs, rfl, hs, r⟩ := rv
    exact .inr (.inl ⟨a, xs, rfl, Same.seqT RR.same hs, fun hl => q (.t a) xs r (r.length ▸ hl) fun G2 H2 s1 s2 => Same.seqT (s1.trans s2) hs⟩)
  · cases e
    obtain ⟨a, xs, rfl, hs, r⟩ := rv
    exact .inl ⟨a, xs, rfl, .of (RR.same _ _ hs), fun hl => q (.l a) xs r (r.length ▸ hl) fun G2 H2 s1 s2 => .of (s2 _ _ (s1 _ _ hs))⟩
  · cases e
    obtain ⟨a, xs, rfl, hs, r⟩ := rv
    exact .inl ⟨a, xs, rfl, RR.same.seq hs, fun hl => q (.l a) xs r (r.length ▸ hl) fun G2 H2 s1 s2 => (s1.trans s2).seq hs⟩
def enumL (ds : List D) : List D := ds.zipIdx.map fun p => .tup [.int (p.2 : Nat), p.1]
def zipL (ds es : List D) : List D := (ds.zip es).map fun p => .tup [p.1, p.2]
theorem yl_enum {G0 : Hp} {k : Kd} {xs : List V} {ds : List D} (hl : ds.length ≤ sizeLine) (r : Reps T G0 xs ds) (hk : ∀ G2 H2, L2.Same G0 G2 → L2.Same G2 H2 → k.has T.K H2 xs) : Yl T G0 (Ien T.K k xs) (enumL ds) (fun _ => True) := by
  have hn : (enumL ds).length = xs.length := by simp [enumL, r.length]
  refine ⟨by rw [hn, r.length]; exact hl, fun H => k.has T.K H xs, fun i H v H' => ∃ p x, v = .ref p ∧ H p = none ∧ H' = upd H p (.tup [.int (i : Nat), x]) ∧ xs[i]? = some x,
    by rw [hn]; exact ⟨fun i H hi h => ⟨hi, h⟩, fun H h => ⟨rfl, h⟩, fun i H x H' hi h y => y⟩, fun U' G H σ ρ R s _ => hk G H s R.same, fun i H v H' U' σ ρ G hi y R s => ?_⟩
  obtain ⟨p, x, rfl, hp, rfl, hx⟩ := y
  obtain ⟨d, e2, rd⟩ := r.get hx
  have s2 := same_upd (o := .tup [.int (i : Nat), x]) (R.gfree hp)
  refine ⟨_, .tup [.int (i : Nat), d], R.alloc hp, s2, ?_, p, _, rfl, .of upd_same, ⟨_, _, rfl, rfl, .one (rd.mono (s.trans s2))⟩⟩
  simp [enumL, e2]
theorem yl_zip {G0 : Hp} {k1 k2 : Kd} {xs ys : List V} {ds es : List D} (hl : ds.length ≤ sizeLine) (r : Reps T G0 xs ds) (r2 : Reps T G0 ys es) (hk : ∀ G2 H2, L2.Same G0 G2 → L2.Same G2 H2 → k1.has T.K H2 xs) (hk2 : ∀ G2 H2, L2.Same G0 G2 → L2.Same G2 H2 → k2.has T.K H2 ys) :
    Yl T G0 (Izi T.K k1 k2 xs ys) (zipL ds es) (fun _ => True) := by
  have hn : (zipL ds es).length = min xs.length ys.length := by simp [zipL, r.length, r2.length]
  refine ⟨by rw [hn, r.length]; omega, fun H => k1.has T.K H xs ∧ k2.has T.K H ys, fun i H v H' => ∃ p x y, v = .ref p ∧ H p = none ∧ H' = upd H p (.tup [x, y]) ∧ xs[i]? = some x ∧ ys[i]? = some y,
    by rw [hn]; exact ⟨fun i H hi h => ⟨by omega, by omega, h.1, h.2⟩, fun H h => ⟨rfl, h.1, h.2⟩, fun i H x H' hi h y => y⟩, fun U' G H σ ρ R s _ => ⟨hk G H s R.same, hk2 G H s R.same⟩, fun i H v H' U' σ ρ G hi y R s => ?_⟩
  obtain ⟨p, x, y, rfl, hp, rfl, hx, hy⟩ := y
  obtain ⟨d, e2, rd⟩ := r.get hx
  obtain ⟨d', e3, rd'⟩ := r2.get hy
  have s2 := same_upd (o := .tup [x, y]) (R.gfree hp)
  refine ⟨_, .tup [d, d'], R.alloc hp, s2, ?_, p, _, rfl, .of upd_same, ⟨_, _, rfl, rd.mono (s.trans s2), .one (rd'.mono (s.trans s2))⟩⟩
  have ez : (ds.zip es)[i]? = some (d, d') := List.getElem?_zip_eq_some.mpr ⟨e2, e3⟩
  simp only [zipL, List.getElem?_map, ez]
  rfl
def iEnum (f : EF) : LF := fun ρ => (f ρ).bnd fun d ρ' => opt ((itemsD d).map enumL) ρ'
def iZip (f g : EF) : LF := fun ρ => (f ρ).bnd fun d ρ1 => (g ρ1).bnd fun e ρ2 => opt ((itemsD d).bind fun ds => (itemsD e).map fun es => zipL ds es) ρ2
theorem ji_enum {e : Expr} {f : EF} {p pos tpos : Pos} {elts : List Expr} {kk : Nat} (h : JE X T W e f) (hm : X.mg "enumerate" = none) (hg : Gl X "enumerate" := by rfl) (hs : starEach [e] X.env = (false, eval e X.env) :: starEach [] X.env := by rfl) (hs2 : starEach [e] X.env = [(false, eval e X.env)] := by rfl) :
    JI X T W (.Tuple elts kk tpos) (.Call (.Name "enumerate" p) [e] [] pos) (iEnum f) := by
  refine ⟨h.k, pi_imp (pi_en hg hm (pa_cons h.run pa_nil hs) hs2) fun σ H R ⟨U, G, ρ, R0, q⟩ => ?_⟩
  refine ⟨U, G, ρ, R0, (Pst.bnd q).mono (L2.Same.refl _) fun d G1 H1 ρ1 _ ⟨R1, s1, p1⟩ v rv => ?_⟩
  obtain ⟨ds', e1, p⟩ := Pst.opt p1
  cases e2 : itemsD d with
  | none => rw [e2] at e1; cases e1
  | some ds =>
    rw [e2] at e1
    cases e1
    refine ⟨v, rfl, ?_⟩
    rw [h.k]
    exact srcs_ok R1 rv e2 fun k xs r hl hk => p G1 H1 R1 (L2.Same.refl _) _ (yl_enum hl r hk)
theorem ji_zip {e e2 : Expr} {f g : EF} {p pos tpos : Pos} {elts : List Expr} {kk : Nat} (h : JE X T W e f) (h' : JE X T W e2 g) (hm : X.mg "zip" = none) (hg : Gl X "zip" := by rfl) (hs : starEach [e, e2] X.env = (false, eval e X.env) :: starEach [e2] X.env := by rfl)
    (hs2 : starEach [e2] X.env = (false, eval e2 X.env) :: starEach [] X.env := by rfl) (hpl : (backTo pos (starEach [e2] X.env)).any (·.1) = false := by rfl) :
    JI X T W (.Tuple elts kk tpos) (.Call (.Name "zip" p) [e, e2] [] pos) (iZip f g) := by
  refine ⟨h.k, pi_imp (pi_zi hg hm (pa_cons h.run (pa_cons h'.run pa_nil hs2) hs) hs hpl) fun σ H R ⟨U, G, ρ, R0, q⟩ => ?_⟩
  refine ⟨U, G, ρ, R0, (Pst.bnd q).mono (L2.Same.refl _) fun d G1 H1 ρ1 _ ⟨R1, s1, p1⟩ v rv => ?_⟩
  refine ⟨U, G1, ρ1, R1, (Pst.bnd p1).mono (L2.Same.refl _) fun d2 G2 H2 ρ2 _ ⟨R2, s2, p2⟩ v2 rv2 => ?_⟩
  obtain ⟨ds', e1, p⟩ := Pst.opt p2
  cases e3 : itemsD d with
  | none => rw [e3] at e1; cases e1
  | some ds =>
    cases e4 : itemsD d2 with
    | none => rw [e3, e4] at e1; cases e1
    | some es =>
      rw [e3, e4] at e1
      cases e1
      refine ⟨v, v2, rfl, ?_⟩
      rw [h.k]
      exact srcs_ok R2 (rv.mono s2) e3 fun k xs r hl hk => srcs_ok R2 rv2 e4 fun k2 ys r2 hl2 hk2 => p G2 H2 R2 (L2.Same.refl _) _ (yl_zip hl r r2 hk hk2)
end
end J

set_option Elab.async false
set_option linter.all false
set_option maxRecDepth 100000
set_option maxHeartbeats 4000000
namespace J
open PySem PySem.Spec PyProof.Rows L2

/-! ### the order of data -/
mutual
def likeE : D → D → Bool
  | .non, .non => true
  | .bl _, .bl _ => true
  | .int _, .int _ => true
  | .str _, .str _ => true
  | .lst xs, .lst ys => likeEs xs ys
  | .tup xs, .tup ys => likeEs xs ys
  | _, _ => false
def likeEs : List D → List D → Bool
  | [], _ => true
  | _ :: _, [] => true
  | x :: xs, y :: ys => likeE x y && likeEs xs ys
end
mutual
def ltE : D → D → Bool
  | .bl a, .bl b => !a && b
  | .int a, .int b => decide (a < b)
  | .str x, .str y => decide (x.cps.toList < y.cps.toList)
  | .lst xs, .lst ys => ltEs xs ys
  | .tup xs, .tup ys => ltEs xs ys
  | _, _ => false
def ltEs : List D → List D → Bool
  | _, [] => false
  | [], _ :: _ => true
  | x :: xs, y :: ys => if eqv x y = true then ltEs xs ys else ltE x y
end
mutual
theorem like_py : ∀ {n m : Nat} {d e : D}, okE n d = true → okE m e = true → PySem.W.alike (toPy d) (toPy e) = likeE d e
  | n + 1, m + 1, .tup ds, .tup es, h, h' => by
    have h1 : okEs n ds = true := by simpa [okE] using h
    have h2 : okEs m es = true := by simpa [okE] using h'
    simp [toPy, PySem.W.alike, likeE, likes_py h1 h2]
  | n + 1, m + 1, .lst ds, .lst es, h, h' => by
    have h1 : okEs n ds = true := by simpa [okE] using h
    have h2 : okEs m es = true := by simpa [okE] using h'
    simp [toPy, PySem.W.alike, likeE, likes_py h1 h2]
  | n, m, .non, e, h, h' => by cases e <;> cases m <;> first | (simp [toPy, PySem.W.alike, likeE]; done) | simp [okE] at h'
  | n, m, .bl _, e, h, h' => by cases e <;> cases m <;> first | (simp [toPy, PySem.W.alike, likeE]; done) | simp [okE] at h'
  | n, m, .int _, e, h, h' => by cases e <;> cases m <;> first | (simp [toPy, PySem.W.alike, likeE]; done) | simp [okE] at h'
  | n, m, .str _, e, h, h' => by cases e <;> cases m <;> first | (simp [toPy, PySem.W.alike, likeE]; done) | simp [okE] at h'
  | 0, m, .tup _, e, h, h' => by simp [okE] at h
  | 0, m, .lst _, e, h, h' => by simp [okE] at h
  | n, m, .dct _ _, e, h, h' => by cases n <;> simp [okE] at h
  | n, m, .obj _ _ _, e, h, h' => by cases n <;> simp [okE] at h
  | n, m, .fn _, e, h, h' => by cases n <;> simp [okE] at h
  | n, m, .scr _, e, h, h' => by cases n <;> simp [okE] at h
  | n + 1, 0, .tup _, e, h, h' => by cases e <;> first | (simp [toPy, PySem.W.alike, likeE]; done) | simp [okE] at h'
  | n + 1, 0, .lst _, e, h, h' => by cases e <;> first | (simp [toPy, PySem.W.alike, likeE]; done) | simp [okE] at h'
  | n + 1, m + 1, .tup _, .non, h, h' => by simp [toPy, PySem.W.alike, likeE]
  | n + 1, m + 1, .tup _, .bl _, h, h' => by simp [toPy, PySem.W.alike, likeE]
  | n + 1, m + 1, .tup _, .int _, h, h' => by simp [toPy, PySem.W.alike, likeE]
  | n + 1, m + 1, .tup _, .str _, h, h' => by simp [toPy, PySem.W.alike, likeE]
  | n + 1, m + 1, .tup _, .lst _, h, h' => by simp [toPy, PySem.W.alike, likeE]
  | n + 1, m + 1, .lst _, .non, h, h' => by simp [toPy, PySem.W.alike, likeE]
  | n + 1, m + 1, .lst _, .bl _, h, h' => by simp [toPy, PySem.W.alike, likeE]
  | n + 1, m + 1, .lst _, .int _, h, h' => by simp [toPy, PySem.W.alike, likeE]
  | n + 1, m + 1, .lst _, .str _, h, h' => by simp [toPy, PySem.W.alike, likeE]
  | n + 1, m + 1, .lst _, .tup _, h, h' => by simp [toPy, PySem.W.alike, likeE]
  | n + 1, m + 1, .lst _, .dct _ _, h, h' => by simp [okE] at h'
  | n + 1, m + 1, .lst _, .obj _ _ _, h, h' => by simp [okE] at h'
  | n + 1, m + 1, .lst _, .fn _, h, h' => by simp [okE] at h'
  | n + 1, m + 1, .lst _, .scr _, h, h' => by simp [okE] at h'
  | n + 1, m + 1, .tup _, .dct _ _, h, h' => by simp [okE] at h'
  | n + 1, m + 1, .tup _, .obj _ _ _, h, h' => by simp [okE] at h'
  | n + 1, m + 1, .tup _, .fn _, h, h' => by simp [okE] at h'
  | n + 1, m + 1, .tup _, .scr _, h, h' => by simp [okE] at h'
theorem likes_py : ∀ {n m : Nat} {d e : List D}, okEs n d = true → okEs m e = true → PySem.W.alikeAll (toPys d) (toPys e) = likeEs d e
  | _, _, [], [], _, _ => by simp [toPys, PySem.W.alikeAll, likeEs]
  | _, _, [], _ :: _, _, _ => by simp [toPys, PySem.W.alikeAll, likeEs]
  | _, _, _ :: _, [], _, _ => by simp [toPys, PySem.W.alikeAll, likeEs]
  | n, m, d :: ds, e :: es, h, h' => by
    have h1 : okE n d = true ∧ okEs n ds = true := by simpa [okEs] using h
    have h2 : okE m e = true ∧ okEs m es = true := by simpa [okEs] using h'
    simp [toPys, PySem.W.alikeAll, likeEs, like_py h1.1 h2.1, likes_py h1.2 h2.2]
end
mutual
theorem lt_py : ∀ {n m : Nat} {d e : D}, okE n d = true → okE m e = true → likeE d e = true → PySem.W.dataLt (toPy d) (toPy e) = ltE d e
  | n + 1, m + 1, .tup ds, .tup es, h, h', k => by
    have h1 : okEs n ds = true := by simpa [okE] using h
    have h2 : okEs m es = true := by simpa [okE] using h'
    have h3 : likeEs ds es = true := by simpa [likeE] using k
    simp only [toPy, ltE]
    rw [PySem.W.dataLt_tuple, lts_py h1 h2 h3]
  | n + 1, m + 1, .lst ds, .lst es, h, h', k => by
    have h1 : okEs n ds = true := by simpa [okE] using h
    have h2 : okEs m es = true := by simpa [okE] using h'
    have h3 : likeEs ds es = true := by simpa [likeE] using k
    simp only [toPy, ltE]
    rw [PySem.W.dataLt_list, lts_py h1 h2 h3]
  | n, m, .non, e, h, h', k => by cases e <;> first | (simp [likeE] at k; done) | exact lex_irrefl _
  | n, m, .bl a, e, h, h', k => by
    cases e <;> first | (simp [likeE] at k; done) | skip
    rename_i b
    simp only [toPy, ltE]
    rw [PySem.W.dataLt_bool]
    cases a <;> cases b <;> rfl
  | n, m, .int a, e, h, h', k => by
    cases e <;> first | (simp [likeE] at k; done) | skip
    simp only [toPy, ltE]
    rw [PySem.W.dataLt_int]
  | n, m, .str a, e, h, h', k => by
    cases e <;> first | (simp [likeE] at k; done) | skip
    simp only [toPy, ltE]
    rw [PySem.W.dataLt_str]
  | 0, m, .tup _, e, h, h', k => by simp [okE] at h
  | 0, m, .lst _, e, h, h', k => by simp [okE] at h
  | n, m, .dct _ _, e, h, h', k => by cases n <;> simp [okE] at h
  | n, m, .obj _ _ _, e, h, h', k => by cases n <;> simp [okE] at h
  | n, m, .fn _, e, h, h', k => by cases n <;> simp [okE] at h
  | n, m, .scr _, e, h, h', k => by cases n <;> simp [okE] at h
  | n + 1, m, .tup _, .non, h, h', k => by simp [likeE] at k
  | n + 1, m, .tup _, .bl _, h, h', k => by simp [likeE] at k
  | n + 1, m, .tup _, .int _, h, h', k => by simp [likeE] at k
  | n + 1, m, .tup _, .str _, h, h', k => by simp [likeE] at k
  | n + 1, m, .tup _, .lst _, h, h', k => by simp [likeE] at k
  | n + 1, m, .tup _, .dct _ _, h, h', k => by simp [likeE] at k
  | n + 1, m, .tup _, .obj _ _ _, h, h', k => by simp [likeE] at k
  | n + 1, m, .tup _, .fn _, h, h', k => by simp [likeE] at k
  | n + 1, m, .tup _, .scr _, h, h', k => by simp [likeE] at k
  | n + 1, 0, .tup _, .tup _, h, h', k => by simp [okE] at h'
  | n + 1, m, .lst _, .non, h, h', k => by simp [likeE] at k
  | n + 1, m, .lst _, .bl _, h, h', k => by simp [likeE] at k
  | n + 1, m, .lst _, .int _, h, h', k => by simp [likeE] at k
  | n + 1, m, .lst _, .str _, h, h', k => by simp [likeE] at k
  | n + 1, m, .lst _, .tup _, h, h', k => by simp [likeE] at k
  | n + 1, m, .lst _, .dct _ _, h, h', k => by simp [likeE] at k
  | n + 1, m, .lst _, .obj _ _ _, h, h', k => by simp [likeE] at k
  | n + 1, m, .lst _, .fn _, h, h', k => by simp [likeE] at k
  | n + 1, m, .lst _, .scr _, h, h', k => by simp [likeE] at k
  | n + 1, 0, .lst _, .lst _, h, h', k => by simp [okE] at h'
theorem lts_py : ∀ {n m : Nat} {d e : List D}, okEs n d = true → okEs m e = true → likeEs d e = true → PyProof.Rows.lexLt itemOrd (PySem.W.keyToksAll (toPys d)) (PySem.W.keyToksAll (toPys e)) = ltEs d e
  | _, _, [], [], _, _, _ => lex_irrefl _
  | _, _, [], y :: ys, _, _, _ => by
    simp only [toPys, ltEs, PySem.W.toks_all_cons, PySem.W.keyToksAll]
    rw [lex_diff (O := itemOrd) (by simp)]
    rfl
  | _, _, x :: xs, [], _, _, _ => by
    simp only [toPys, ltEs, PySem.W.toks_all_cons, PySem.W.keyToksAll]
    rw [lex_diff (O := itemOrd) (by simp)]
    rfl
  | n, m, d :: ds, e :: es, h, h', k => by
    have h1 : okE n d = true ∧ okEs n ds = true := by simpa [okEs] using h
    have h2 : okE m e = true ∧ okEs m es = true := by simpa [okEs] using h'
    have h3 : likeE d e = true ∧ likeEs ds es = true := by simpa [likeEs] using k
    simp only [toPys, ltEs]
    rw [PySem.W.dataLt_cons (by rw [like_py h1.1 h2.1]; exact h3.1), eqv_py h1.1 h2.1, lts_py h1.2 h2.2 h3.2, lt_py h1.1 h2.1 h3.1]
end
mutual
theorem toPy_inj : ∀ {n m : Nat} {d e : D}, okE n d = true → okE m e = true → toPy d = toPy e → d = e
  | n + 1, m + 1, .tup ds, .tup es, h, h', k => by
    have h1 : okEs n ds = true := by simpa [okE] using h
    have h2 : okEs m es = true := by simpa [okE] using h'
    simp only [toPy, PyData.tuple.injEq] at k
    rw [toPys_inj h1 h2 k]
  | n + 1, m + 1, .lst ds, .lst es, h, h', k => by
    have h1 : okEs n ds = true := by simpa [okE] using h
    have h2 : okEs m es = true := by simpa [okE] using h'
    simp only [toPy, PyData.list.injEq] at k
    rw [toPys_inj h1 h2 k]
  | n, m, .non, e, h, h', k => by cases e <;> cases m <;> simp_all [toPy, okE]
  | n, m, .bl _, e, h, h', k => by cases e <;> cases m <;> simp_all [toPy, okE]
  | n, m, .int _, e, h, h', k => by cases e <;> cases m <;> simp_all [toPy, okE]
  | n, m, .str _, e, h, h', k => by cases e <;> cases m <;> simp_all [toPy, okE]
  | 0, m, .tup _, e, h, h', k => by simp [okE] at h
  | 0, m, .lst _, e, h, h', k => by simp [okE] at h
  | n, m, .dct _ _, e, h, h', k => by cases n <;> simp [okE] at h
  | n, m, .obj _ _ _, e, h, h', k => by cases n <;> simp [okE] at h
  | n, m, .fn _, e, h, h', k => by cases n <;> simp [okE] at h
  | n, m, .scr _, e, h, h', k => by cases n <;> simp [okE] at h
  | n + 1, m, .tup _, .non, h, h', k => by simp [toPy] at k
  | n + 1, m, .tup _, .bl _, h, h', k => by simp [toPy] at k
  | n + 1, m, .tup _, .int _, h, h', k => by simp [toPy] at k
  | n + 1, m, .tup _, .str _, h, h', k => by simp [toPy] at k
  | n + 1, m, .tup _, .lst _, h, h', k => by simp [toPy] at k
  | n + 1, m, .tup _, .dct _ _, h, h', k => by simp [toPy] at k
  | n + 1, m, .tup _, .obj _ _ _, h, h', k => by simp [toPy] at k
  | n + 1, m, .tup _, .fn _, h, h', k => by simp [toPy] at k
  | n + 1, m, .tup _, .scr _, h, h', k => by simp [toPy] at k
  | n + 1, 0, .tup _, .tup _, h, h', k => by simp [okE] at h'
  | n + 1, m, .lst _, .non, h, h', k => by simp [toPy] at k
  | n + 1, m, .lst _, .bl _, h, h', k => by simp [toPy] at k
  | n + 1, m, .lst _, .int _, h, h', k => by simp [toPy] at k
  | n + 1, m, .lst _, .str _, h, h', k => by simp [toPy] at k
  | n + 1, m, .lst _, .tup _, h, h', k => by simp [toPy] at k
  | n + 1, m, .lst _, .dct _ _, h, h', k => by simp [toPy] at k
  | n + 1, m, .lst _, .obj _ _ _, h, h', k => by simp [toPy] at k
  | n + 1, m, .lst _, .fn _, h, h', k => by simp [toPy] at k
  | n + 1, m, .lst _, .scr _, h, h', k => by simp [toPy] at k
  | n + 1, 0, .lst _, .lst _, h, h', k => by simp [okE] at h'
theorem toPys_inj : ∀ {n m : Nat} {d e : List D}, okEs n d = true → okEs m e = true → toPys d = toPys e → d = e
  | _, _, [], [], _, _, _ => rfl
  | _, _, [], _ :: _, _, _, k => by simp [toPys] at k
  | _, _, _ :: _, [], _, _, k => by simp [toPys] at k
  | n, m, d :: ds, e :: es, h, h', k => by
    have h1 : okE n d = true ∧ okEs n ds = true := by simpa [okEs] using h
    have h2 : okE m e = true ∧ okEs m es = true := by simpa [okEs] using h'
    simp only [toPys, List.cons.injEq] at k
    rw [toPy_inj h1.1 h2.1 k.1, toPys_inj h1.2 h2.2 k.2]
end
theorem toPys_map : ∀ ds : List D, toPys ds = ds.map toPy
  | [] => rfl
  | d :: ds => by rw [toPys, toPys_map ds]; rfl
theorem okEs_mem {n : Nat} : ∀ {ds : List D}, okEs n ds = true → ∀ d ∈ ds, okE n d = true
  | [], _, d, h => by cases h
  | d :: ds, h, e, he => by
    have h1 : okE n d = true ∧ okEs n ds = true := by simpa [okEs] using h
    rcases List.mem_cons.mp he with rfl | he
    · exact h1.1
    · exact okEs_mem h1.2 e he
theorem okEs_all {n : Nat} : ∀ {ds : List D}, (∀ d ∈ ds, okE n d = true) → okEs n ds = true
  | [], _ => by cases n <;> rfl
  | d :: ds, h => by
    have h1 := h d List.mem_cons_self
    have h2 := okEs_all (n := n) (ds := ds) fun e he => h e (List.mem_cons_of_mem _ he)
    rw [okEs, h1, h2]; rfl

/-! ### least, greatest, sorted -/
def allLike (ds : List D) : Bool := ds.all fun x => ds.all fun y => likeE x y
def noNon (ds : List D) : Bool := ds.all fun d => match d with
  | .non => false
  | _ => true
def ordOk (ds : List D) : Bool := okEs 59 ds && allLike ds && noNon ds
theorem ordOk_iff {ds : List D} : ordOk ds = true ↔ okEs 59 ds = true ∧ (∀ x ∈ ds, ∀ y ∈ ds, likeE x y = true) ∧ ∀ x ∈ ds, x ≠ .non := by
  unfold ordOk allLike noNon
  simp only [Bool.and_eq_true, List.all_eq_true]
  constructor
  · rintro ⟨⟨h1, h2⟩, h3⟩
    exact ⟨h1, h2, fun x hx e => by have := h3 x hx; rw [e] at this; cases this⟩
  · rintro ⟨h1, h2, h3⟩
    refine ⟨⟨h1, h2⟩, fun x hx => ?_⟩
    have := h3 x hx
    cases x <;> first | rfl | exact absurd rfl this
theorem ordOk_py {ds : List D} (h : ordOk ds = true) : PySem.W.AlikeAll (toPys ds) := by
  obtain ⟨h1, h2, h3⟩ := ordOk_iff.mp h
  rw [toPys_map]
  refine ⟨fun x hx y hy => ?_, fun x hx => ?_⟩
  · obtain ⟨a, ha, rfl⟩ := List.mem_map.mp hx
    obtain ⟨b, hb, rfl⟩ := List.mem_map.mp hy
    rw [like_py (okEs_mem h1 a ha) (okEs_mem h1 b hb)]
    exact h2 a ha b hb
  · obtain ⟨a, ha, rfl⟩ := List.mem_map.mp hx
    have ho := okEs_mem h1 a ha
    have hn := h3 a ha
    intro e
    exact hn (toPy_inj (n := 59) (m := 0) ho rfl e)
def leastE (d : D) (ds : List D) : D := ds.foldl (fun a y => if ltE y a = true then y else a) d
def mostE (d : D) (ds : List D) : D := ds.foldl (fun a y => if ltE a y = true then y else a) d
theorem leastE_mem : ∀ (ds : List D) (d : D), leastE d ds ∈ d :: ds
  | [], d => List.mem_cons_self
  | e :: ds, d => by
    have h := leastE_mem ds (if ltE e d = true then e else d)
    show leastE (if ltE e d = true then e else d) ds ∈ _
    rcases List.mem_cons.mp h with h | h
    · rw [h]
      split
      · exact List.mem_cons_of_mem _ List.mem_cons_self
      · exact List.mem_cons_self
    · exact List.mem_cons_of_mem _ (List.mem_cons_of_mem _ h)
theorem mostE_mem : ∀ (ds : List D) (d : D), mostE d ds ∈ d :: ds
  | [], d => List.mem_cons_self
  | e :: ds, d => by
    have h := mostE_mem ds (if ltE d e = true then e else d)
    show mostE (if ltE d e = true then e else d) ds ∈ _
    rcases List.mem_cons.mp h with h | h
    · rw [h]
      split
      · exact List.mem_cons_of_mem _ List.mem_cons_self
      · exact List.mem_cons_self
    · exact List.mem_cons_of_mem _ (List.mem_cons_of_mem _ h)
theorem leastE_py : ∀ (ds : List D) (d : D), (∀ x ∈ d :: ds, okE 59 x = true) → (∀ x ∈ d :: ds, ∀ y ∈ d :: ds, likeE x y = true) → PySem.W.minD (toPy d) (toPys ds) = toPy (leastE d ds)
  | [], d, _, _ => rfl
  | e :: ds, d, h1, h2 => by
    have he : e ∈ d :: e :: ds := List.mem_cons_of_mem _ List.mem_cons_self
    have hd : d ∈ d :: e :: ds := List.mem_cons_self
    have k := lt_py (h1 e he) (h1 d hd) (h2 e he d hd)
    have sub : ∀ x ∈ (if ltE e d = true then e else d) :: ds, x ∈ d :: e :: ds := fun x hx => by
      rcases List.mem_cons.mp hx with rfl | hx
      · split
        · exact he
        · exact hd
      · exact List.mem_cons_of_mem _ (List.mem_cons_of_mem _ hx)
    have ih := leastE_py ds (if ltE e d = true then e else d) (fun x hx => h1 x (sub x hx)) fun x hx y hy => h2 x (sub x hx) y (sub y hy)
    show PySem.W.minD (if PySem.W.dataLt (toPy e) (toPy d) = true then toPy e else toPy d) (toPys ds) = toPy (leastE (if ltE e d = true then e else d) ds)
    rw [← ih, k]
    congr 1
    split <;> rfl
theorem mostE_py : ∀ (ds : List D) (d : D), (∀ x ∈ d :: ds, okE 59 x = true) → (∀ x ∈ d :: ds, ∀ y ∈ d :: ds, likeE x y = true) → PySem.W.maxD (toPy d) (toPys ds) = toPy (mostE d ds)
  | [], d, _, _ => rfl
  | e :: ds, d, h1, h2 => by
    have he : e ∈ d :: e :: ds := List.mem_cons_of_mem _ List.mem_cons_self
    have hd : d ∈ d :: e :: ds := List.mem_cons_self
    have k := lt_py (h1 d hd) (h1 e he) (h2 d hd e he)
    have sub : ∀ x ∈ (if ltE d e = true then e else d) :: ds, x ∈ d :: e :: ds := fun x hx => by
      rcases List.mem_cons.mp hx with rfl | hx
      · split
        · exact he
        · exact hd
      · exact List.mem_cons_of_mem _ (List.mem_cons_of_mem _ hx)
    have ih := mostE_py ds (if ltE d e = true then e else d) (fun x hx => h1 x (sub x hx)) fun x hx y hy => h2 x (sub x hx) y (sub y hy)
    show PySem.W.maxD (if PySem.W.dataLt (toPy d) (toPy e) = true then toPy e else toPy d) (toPys ds) = toPy (mostE (if ltE d e = true then e else d) ds)
    rw [← ih, k]
    congr 1
    split <;> rfl

section
variable {X : Cx} {T : Tab} {W : WX}
/-- what stands of a list's or tuple's items, as data -/
theorem reads_all {pins : List (Addr × Obj)} {σ σ0 : L2.St} {U G H : Hp} {ρ : En} {s : Shared} (hk : X.K = T.K) (I : Inv X pins σ H s) (R : Rel T U G H σ0 ρ) {n : Nat} {ds : List D} {xs : List V} {its : List Value} (ho : okEs n ds = true) (r : Reps T G xs ds) (rv : Vals xs its) :
    ∃ as, ReadsAll s.heap its (toPys ds) as := by
  obtain ⟨h1, _, _⟩ := okEs_dp (T := T) (H := H) ho (r.mono R.same)
  exact Dp.readsAll I _ xs its (hk ▸ h1) rv
theorem depth_all {n : Nat} {ds : List D} {T : Tab} {G : Hp} {xs : List V} (ho : okEs n ds = true) (r : Reps T G xs ds) : PyData.depthAll (toPys ds) ≤ n ∧ PyData.canLayAll0 (toPys ds) = true := by
  obtain ⟨_, h2, h3⟩ := okEs_dp (T := T) (H := G) ho r
  exact ⟨h3, h2⟩
/-- the item that reads as one of the data is that one -/
theorem item_of {G : Hp} {s : Shared} {h' : Heap} {ds : List D} {xs : List V} {its : List Value} {as bs : List Addr} {i : Nat} {v : Value} {m : D} (r : Reps T G xs ds) (rv : Vals xs its) (ho : okEs 59 ds = true) (hm : m ∈ ds)
    (ra : ReadsAll s.heap its (toPys ds) as) (hv : its[i]? = some v) (rd : Reads h' v (toPy m) bs) (hk : ∀ b o, s.heap.get? b = some o → h'.get? b = some o) : ∃ x, RelV x v ∧ Rep T G x m := by
  have hl := rv.length
  have hi : i < xs.length := by rw [hl]; exact (List.getElem?_eq_some_iff.mp hv).1
  obtain ⟨u, hu, ru⟩ := rv.get (List.getElem?_eq_getElem hi)
  rw [hv] at hu
  cases hu
  obtain ⟨d, hd, rx⟩ := r.get (List.getElem?_eq_getElem hi)
  have hdm : d ∈ ds := List.mem_of_getElem? hd
  have hc : ∀ e ∈ ds, (toPy e).canLay0 = true := fun e he => by
    obtain ⟨j, hj⟩ := List.mem_iff_getElem?.mp he
    obtain ⟨y, _, ry⟩ := r.getD hj
    exact (okE_dp (okEs_mem ho e he) ry).2.1
  have hc2 : PyData.canLayAll0 (toPys ds) = true := (okEs_dp (T := T) (H := G) ho r).2.1
  have e1 := SeqAt.readsAll_map (toPys ds) its as hc2 ra
  have e2 : SeqAt.readOf s.heap v = toPy d := by
    have : (its.map (SeqAt.readOf s.heap))[i]? = (toPys ds)[i]? := by rw [e1]
    rw [List.getElem?_map, hv, toPys_map, List.getElem?_map, hd] at this
    exact Option.some.inj this
  have ra2 := readsAll_atA' ra hv
  obtain ⟨bs2, r2⟩ := ra2
  have e3 : SeqAt.readOf s.heap v = (toPys ds).getD i .none := SeqAt.readOf_eq (by rw [toPys_map, List.getD_eq_getElem?_getD, List.getElem?_map, hd]; exact hc d hdm) r2
  have e4 : SeqAt.readOf h' v = toPy m := SeqAt.readOf_eq (hc m hm) rd
  have e5 : SeqAt.readOf h' v = toPy d := by
    refine SeqAt.readOf_eq (hc d hdm) (as := bs2) ?_
    have e6 : (toPys ds).getD i .none = toPy d := e3.symm.trans e2
    rw [← e6]
    exact PySem.W.reads_keeps hk r2
  have : d = m := toPy_inj (okEs_mem ho d hdm) (okEs_mem ho m hm) (e5.symm.trans e4)
  subst this
  exact ⟨_, ru, rx⟩
where
  readsAll_atA' {h : Heap} {its : List Value} {xs : List PyData} {as : List Addr} (hr : ReadsAll h its xs as) {i : Nat} {v : Value} (hv : its[i]? = some v) : ∃ bs, Reads h v (xs.getD i .none) bs := by
    obtain ⟨bs, r, _⟩ := PySem.W.readsAll_at hr i v hv
    exact ⟨bs, r⟩
/-- a list or a tuple of things that can be compared -/
def ordL : D → Option (D × List D)
  | .lst (d :: ds) => if ordOk (d :: ds) = true then some (d, ds) else none
  | .tup (d :: ds) => if ordOk (d :: ds) = true then some (d, ds) else none
  | _ => none
def minG (d : D) : Option D := (ordL d).map fun p => leastE p.1 p.2
def maxG (d : D) : Option D := (ordL d).map fun p => mostE p.1 p.2
def rMinG (T : Tab) (sel : D → List D → D) : List V → Hp → VK → Prop := fun vs H Q => ∃ U G σ ρ a d ds xs, vs = [V.ref a] ∧ Rel T U G H σ ρ ∧ (SqL T.K H a xs ∨ SqT T.K H a xs) ∧ Reps T G xs (d :: ds) ∧ ordOk (d :: ds) = true ∧ ∀ v, Rep T G v (sel d ds) → Q v H
theorem call_minG (hk : X.K = T.K) (hu : X.A.units + 65 < cLine) (hc : X.calm = true) : CallR X (.builtin "min") (rMinG T leastE) := by
  intro pins s σ H vs us Q I r h
  obtain ⟨U, G, σ0, ρ, a, d, ds, xs, rfl, R, hs, rs, ho, q⟩ := h
  rw [Vals.ref1 r]
  obtain ⟨h1, h2, h3⟩ := ordOk_iff.mp ho
  have dp := (depth_all h1 rs).1
  have hm := leastE_mem ds d
  have fin : ∀ (its : List Value), Vals xs its → ∀ as, ReadsAll s.heap its (toPys (d :: ds)) as → ∀ (i : Nat) v h' tk bs, its.toArray[i]? = some v → Reads h' v (PySem.W.minD (toPy d) (toPys ds)) bs → (∀ b o, s.heap.get? b = some o → h'.get? b = some o) → EP X pins σ Q v { s with heap := h', toks := tk } := by
    intro its rv as ra i v h' tk bs hv hr hkp
    rw [leastE_py ds d (okEs_mem h1) h2] at hr
    obtain ⟨x, rx, rp⟩ := item_of rs rv h1 hm ra (by simpa using hv) hr hkp
    exact ⟨x, H, I.kept (t' := tk) hkp, rx, q x rp⟩
  rcases hs with hs | hs
  · obtain ⟨its, rv, hl, _⟩ := I.list (hk ▸ hs)
    obtain ⟨as, ra⟩ := reads_all hk I R h1 rs rv
    exact PySem.W.min_list_data (I.ok.hd hc) hl.isList (x := toPy d) (xs := toPys ds) (by simpa [toPys] using ra) (ordOk_py ho) (by show X.A.units + 1 + PyData.depthAll (toPys (d :: ds)) < _; omega) (fin its rv as ra)
  · obtain ⟨its, rv, hl, _⟩ := I.tuple (hk ▸ hs)
    obtain ⟨as, ra⟩ := reads_all hk I R h1 rs rv
    exact PySem.W.min_tuple_data (I.ok.hd hc) hl (x := toPy d) (xs := toPys ds) (by simpa [toPys] using ra) (ordOk_py ho) (by show X.A.units + 1 + PyData.depthAll (toPys (d :: ds)) < _; omega) (fin its rv as ra)
theorem call_maxG (hk : X.K = T.K) (hu : X.A.units + 65 < cLine) (hc : X.calm = true) : CallR X (.builtin "max") (rMinG T mostE) := by
  intro pins s σ H vs us Q I r h
  obtain ⟨U, G, σ0, ρ, a, d, ds, xs, rfl, R, hs, rs, ho, q⟩ := h
  rw [Vals.ref1 r]
  obtain ⟨h1, h2, h3⟩ := ordOk_iff.mp ho
  have dp := (depth_all h1 rs).1
  have hm := mostE_mem ds d
  have fin : ∀ (its : List Value), Vals xs its → ∀ as, ReadsAll s.heap its (toPys (d :: ds)) as → ∀ (i : Nat) v h' tk bs, its.toArray[i]? = some v → Reads h' v (PySem.W.maxD (toPy d) (toPys ds)) bs → (∀ b o, s.heap.get? b = some o → h'.get? b = some o) → EP X pins σ Q v { s with heap := h', toks := tk } := by
    intro its rv as ra i v h' tk bs hv hr hkp
    rw [mostE_py ds d (okEs_mem h1) h2] at hr
    obtain ⟨x, rx, rp⟩ := item_of rs rv h1 hm ra (by simpa using hv) hr hkp
    exact ⟨x, H, I.kept (t' := tk) hkp, rx, q x rp⟩
  rcases hs with hs | hs
  · obtain ⟨its, rv, hl, _⟩ := I.list (hk ▸ hs)
    obtain ⟨as, ra⟩ := reads_all hk I R h1 rs rv
    exact PySem.W.max_list_data (I.ok.hd hc) hl.isList (x := toPy d) (xs := toPys ds) (by simpa [toPys] using ra) (ordOk_py ho) (by show X.A.units + 1 + PyData.depthAll (toPys (d :: ds)) < _; omega) (fin its rv as ra)
  · obtain ⟨its, rv, hl, _⟩ := I.tuple (hk ▸ hs)
    obtain ⟨as, ra⟩ := reads_all hk I R h1 rs rv
    exact PySem.W.max_tuple_data (I.ok.hd hc) hl (x := toPy d) (xs := toPys ds) (by simpa [toPys] using ra) (ordOk_py ho) (by show X.A.units + 1 + PyData.depthAll (toPys (d :: ds)) < _; omega) (fin its rv as ra)
theorem minG_L {sel : D → List D → D} : OpL T (rMinG T sel) (on1 fun d => (ordL d).map fun p => sel p.1 p.2) := opL_1 fun U G H σ ρ x d c Q R rx hg q => by
  cases e : ordL d with
  | none => rw [e] at hg; cases hg
  | some p =>
    rw [e] at hg
    cases hg
    unfold ordL at e
    split at e
    · rename_i d0 ds
      split at e
      · rename_i ho
        cases e
        obtain ⟨h1, h2, h3⟩ := ordOk_iff.mp ho
        rcases rx with rx | ⟨p, o, rfl, hh, xs, rfl, rx⟩
        · obtain ⟨a, xs, rfl, hG, rs⟩ := rx
          exact ⟨U, G, σ, ρ, a, d0, ds, xs, rfl, R, .inl (.of (R.same _ _ hG)), rs, ho, fun v rv => q v G H R (L2.Same.refl _) rv⟩
        · exact ⟨U, G, σ, ρ, p, d0, ds, xs, rfl, R, .inl (.of hh), rx, ho, fun v rv => q v G H R (L2.Same.refl _) rv⟩
      · cases e
    · rename_i d0 ds
      split at e
      · rename_i ho
        cases e
        obtain ⟨a, xs, rfl, hh, hG, rs⟩ := rx.tup R.same
        exact ⟨U, G, σ, ρ, a, d0, ds, xs, rfl, R, .inr hh, rs, ho, fun v rv => q v G H R (L2.Same.refl _) rv⟩
      · cases e
    · cases e
end

/-! ### sorted -/
theorem collect_tuple {prog : Program} {w : World} {A : Around} {E : Value → Shared → Prop} {s : Shared} {l : Addr} {vs : List Value} {Q : List Value → Shared → Prop} (hl : s.heap.IsTuple l vs.toArray)
    (h : Q vs { s with heap := (s.heap.push (seqObj "list" #[] 0)).update s.heap.objs.size (Obj.mapSeq (· ++ vs.toArray)) }) (hsz : vs.length ≤ sizeLine) :
    wpAny (model prog w) A (collect (.ref l)) Q E s := by
  obtain ⟨o, ho, hc, n, hd⟩ := id hl
  unfold collect
  refine wpAny_bind (wpAny_runValue (codeAny_builtin entry_proto_collect' ?_))
  show wpAny _ _ (do again (.builtin "list.__iadd__" ⟨[← newList [], .ref l], []⟩)) _ _ s
  refine wpAny_bind (wpAny_newList (wpAny_pure ⟨Code.quiet_builtin _ (by decide +kernel), codeAny_builtin entry_list_iadd' ?_⟩))
  show wpAny _ _ (Builtin.List.listExtendWith (.ref s.heap.objs.size) (.ref l) (.ref s.heap.objs.size)) _ _ { s with heap := s.heap.push (seqObj "list" #[] 0) }
  unfold Builtin.List.listExtendWith
  have ho' : (s.heap.push (seqObj "list" #[] 0)).get? l = some o := Heap.get?_push_of_some _ ho
  refine wpAny_bind (wpAny_typeOf (T := "tuple") ⟨o, ho', hc⟩ ?_)
  have ht : (Value.type "tuple" == Value.type "tuple") = true := by rfl
  rw [if_pos (by rw [ht]; simp)]
  refine wpAny_bind (listItems_at ho' hd ?_)
  refine wpAny_bind (listItems_at (xs := #[]) (n := 0) (Heap.get?_push_size _ rfl) rfl ?_)
  rw [if_neg (by simp)]
  refine wpAny_bind (listUpdate_at (xs := #[]) (n := 0) (Heap.get?_push_size _ rfl) rfl ?_ (Nat.zero_le _) (by show (#[] ++ vs.toArray).size ≤ sizeLine + 1; simp only [Array.size_append, List.size_toArray, List.length_nil]; omega))
  refine wpAny_pure ?_
  show wpAny (model prog w) A (do
      let o ← load s.heap.objs.size
      match o.data with
      | .seq xs _ => pure xs.toList
      | _ => unsupported "internal:collect") Q E { s with heap := (s.heap.push (seqObj "list" #[] 0)).update s.heap.objs.size (Obj.mapSeq (· ++ vs.toArray)) }
  refine wpAny_bind (wpAny_load (get?_update_seq (Heap.get?_push_size _ rfl) _) ?_)
  show wpAny _ _ (pure ((#[] : Array Value) ++ vs.toArray).toList) Q E _
  rw [show ((#[] : Array Value) ++ vs.toArray).toList = vs by simp]
  exact wpAny_pure h
section
open PySem.W
variable {prog : Program} {w : World} {A : Around} {E : Value → Shared → Prop} {s : Shared}
theorem sorted_of_sortT {l : Addr} {vs : List Value} {kw : List (Str × Value)} {Q : Value → Shared → Prop} (hl : s.heap.IsTuple l vs.toArray) (hL : vs.length ≤ sizeLine) (ha1 : argsOk "sorted" ⟨[.ref l], kw⟩) (ha2 : ∀ x, argsOk "list.sort" ⟨[.ref x], kw⟩)
    (body : ∀ E' : Value → Shared → Prop, wpAny (model prog w) A.in1.in1 (Builtin.«list.sort» ⟨[.ref (s.heap.objs.size + 1)], kw⟩) (fun f s' => f = .done (.ret .none) ∧ Q (.ref (s.heap.objs.size + 1)) s') E' { s with heap := copyHeap s.heap vs }) :
    wpAny (model prog w) A (call (.builtin "sorted") [.ref l] kw) Q E s := by
  refine call_function_entry_kw kind_sorted plain_sorted entry_sorted ha1 ?_
  unfold Builtin.«sorted»
  refine wpAny_bind (m := checkCount "sorted" 1 1 _) (wpAny_pure ?_)
  refine wpAny_bind (collect_tuple hl ?_ hL)
  refine wpAny_bind (wpAny_newList ?_ hL)
  have hsz : ((s.heap.push (seqObj "list" #[] 0)).update s.heap.objs.size (Obj.mapSeq (· ++ vs.toArray))).objs.size = s.heap.objs.size + 1 := by
    rw [Heap.size_update, size_push']
  show wpAny _ _ _ _ _ { s with heap := copyHeap s.heap vs }
  rw [hsz]
  refine wpAny_bind (wpAny_holding (wpAny_call_entry_kw slot_list_sort ⟨_, copyHeap_at s.heap vs, rfl⟩ entry_list_sort ?body (ha2 _)))
  case body =>
    show wpAny (model prog w) A.in1.in1 (Builtin.«list.sort» ⟨[.ref (s.heap.objs.size + 1)], kw⟩) _ _ _
    refine wpAny_mono (body _) (fun f s' hf => ?_) fun _ _ e => e
    obtain ⟨rfl, hq⟩ := hf
    exact ⟨_, rfl, wpAny_pure ⟨_, rfl, hq⟩⟩
theorem sorted_dataT {β : Type} {vs : List Value} {bs : List β} {enc : β → PyData} {R : Value → β → Prop} {l : Addr} {Q : Value → Shared → Prop} (hl : s.heap.IsTuple l vs.toArray) (e : EachIs R vs bs) (er : EachIs (fun v b => ∃ as, Reads s.heap v (enc b) as) vs bs) (hal : AllAlike (bs.map enc)) (hk : Sortable (bs.map enc)) (hL : bs.length ≤ sizeLine)
    (hu : ∀ b, b ∈ bs → A.units + 2 + (enc b).depth < cLine) (h : ∀ out, out.length = bs.length → EachIs R out (bs.mergeSort (dataLe false enc)) → Q (.ref (s.heap.objs.size + 1)) { s with heap := sortedAll s.heap vs (List.toArray out) }) :
    wpAny (model prog w) A (call (.builtin "sorted") [.ref l]) Q E s := by
  have er' : EachIs (fun v b => ∃ as, Reads (sortingHeap (copyHeap s.heap vs) (s.heap.objs.size + 1) vs) v (enc b) as) vs bs := er.mono fun _ _ ⟨as, r⟩ => ⟨as, PyProof.Rows.Reads.keeps (fun _ _ => sorting_copy_old) r⟩
  refine sorted_of_sortT hl (by rw [e.length]; exact hL) (args_sorted1 _) (fun _ => args_list_sort _) fun _ => list_sort_vals (κ := dataKind (sortingHeap (copyHeap s.heap vs) (s.heap.objs.size + 1) vs) (bs.map enc)) (s := { s with heap := copyHeap s.heap vs }) (copyHeap_at s.heap vs)
    (SortsAt.data (s := { s with heap := sortingHeap (copyHeap s.heap vs) (s.heap.objs.size + 1) vs }) (each_map (R := fun v d => ∃ as, Reads (sortingHeap (copyHeap s.heap vs) (s.heap.objs.size + 1) vs) v d as) enc er') hal hk (bound_map hu)) (by rw [e.length]; exact hL) ⟨rfl, ?_⟩
  exact h _ (by rw [sortVals_length false rfl]; exact e.length) (sortVals_data false e er' hal)
end
def sortE (ds : List D) : List D := ds.mergeSort (PySem.W.dataLe false toPy)
def sortable (ds : List D) : Bool := (ds.all fun d => match d with
  | .tup (_ :: _) => true
  | _ => false) || ds.all fun d => match d with
  | .non => false
  | .tup _ => false
  | _ => true
theorem sortable_py {ds : List D} (ho : okEs 59 ds = true) (h : sortable ds = true) : PySem.W.Sortable (ds.map toPy) := by
  unfold sortable at h
  rcases Bool.or_eq_true_iff.mp h with h | h
  · refine .inl fun d hd => ?_
    obtain ⟨e, he, rfl⟩ := List.mem_map.mp hd
    have := List.all_eq_true.mp h e he
    cases e with
    | tup xs =>
      cases xs with
      | nil => cases this
      | cons x r => exact ⟨toPy x, toPys r, by simp [toPy, toPys]⟩
    | _ => cases this
  · refine .inr fun d hd => ?_
    obtain ⟨e, he, rfl⟩ := List.mem_map.mp hd
    have := List.all_eq_true.mp h e he
    have hoe := okEs_mem ho e he
    cases e <;> first | (cases this; done) | (simp [okE] at hoe; done) | exact ⟨fun z => by simp [toPy] at z, fun xs z => by simp [toPy] at z⟩
section
variable {X : Cx} {T : Tab} {W : WX}
def seqD : D → Option (List D)
  | .lst ds => some ds
  | .tup ds => some ds
  | _ => none
def sortedD (d : D) : Option D := (seqD d).bind fun ds => if ordOk ds = true ∧ sortable ds = true ∧ ds.length ≤ 1000000 then some (.lst (sortE ds)) else none
def rSortG (T : Tab) : List V → Hp → VK → Prop := fun vs H Q => ∃ U G σ ρ a ds xs, vs = [V.ref a] ∧ Rel T U G H σ ρ ∧ (SqL T.K H a xs ∨ SqT T.K H a xs) ∧ Reps T G xs ds ∧ ordOk ds = true ∧ sortable ds = true ∧ ds.length ≤ 1000000 ∧
  ∀ p ys, H p = none → Reps T G ys (sortE ds) → Q (.ref p) (upd H p (.lst ys))
theorem each_reps {G : Hp} : ∀ {xs : List V} {its : List Value} {ds : List D}, Reps T G xs ds → Vals xs its → PySem.W.EachIs (fun v d => ∃ x, RelV x v ∧ Rep T G x d) its ds
  | [], [], [], _, .nil => .nil
  | [], [], _ :: _, ⟨_, _, e, _⟩, _ => by cases e
  | x :: xs, u :: us, [], r, _ => by cases r
  | x :: xs, u :: us, d :: ds, ⟨y, rest, e, r1, r2⟩, .cons rv t => by
    cases e
    exact .cons ⟨x, rv, r1⟩ (each_reps r2 t)
theorem reps_each {G : Hp} : ∀ {its : List Value} {ds : List D}, PySem.W.EachIs (fun v d => ∃ x, RelV x v ∧ Rep T G x d) its ds → ∃ xs, Vals xs its ∧ Reps T G xs ds
  | _, _, .nil => ⟨[], .nil, rfl⟩
  | _, _, .cons ⟨x, rv, r1⟩ t => by
    obtain ⟨xs, h1, h2⟩ := reps_each t
    exact ⟨x :: xs, .cons rv h1, x, xs, rfl, r1, h2⟩
theorem call_sortG (hk : X.K = T.K) (hu : X.A.units + 65 < cLine) : CallR X (.builtin "sorted") (rSortG T) := by
  intro pins s σ H vs us Q I r h
  obtain ⟨U, G, σ0, ρ, a, ds, xs, rfl, R, hs, rs, ho, hso, hlen, q⟩ := h
  rw [Vals.ref1 r]
  obtain ⟨h1, h2, h3⟩ := ordOk_iff.mp ho
  have hal : PySem.W.AllAlike (ds.map toPy) := by
    have z := (ordOk_py ho).1
    rw [toPys_map] at z
    exact fun d hd d' hd' => z d hd d' hd'
  have hL : ds.length ≤ sizeLine := by rw [sizeLine_eq]; omega
  have hdep : ∀ b ∈ ds, X.A.units + 2 + (toPy b).depth < cLine := fun b hb => by
    obtain ⟨j, hj⟩ := List.mem_iff_getElem?.mp hb
    obtain ⟨y, _, ry⟩ := rs.getD hj
    have := (okE_dp (okEs_mem h1 b hb) ry).2.2
    omega
  have main : ∀ (its : List Value), Vals xs its → PySem.W.EachIs (fun v d => ∃ as, Reads s.heap v (toPy d) as) its ds := fun its rv => by
    obtain ⟨as, ra⟩ := reads_all hk I R h1 rs rv
    rw [toPys_map] at ra
    exact PySem.W.readsAll_each toPy ra
  have fin : ∀ (its : List Value), Vals xs its → ∀ out, out.length = ds.length → PySem.W.EachIs (fun v d => ∃ x, RelV x v ∧ Rep T G x d) out (ds.mergeSort (PySem.W.dataLe false toPy)) → EP X pins σ Q (.ref (s.heap.objs.size + 1)) { s with heap := PyProof.Rows.sortedAll s.heap its (List.toArray out) } := by
    intro its rv out hol he
    obtain ⟨ys, hv, hr⟩ := reps_each he
    obtain ⟨ep, he'⟩ := PyProof.Rows.sortedAll_at s.heap its (List.toArray out)
    have hyl := hv.length
    exact ⟨.ref _, upd H (s.heap.objs.size + 1) (.lst ys), I.laid (t' := s.toks) (fun _ _ => PyProof.Rows.sortedAll_old) (Nat.le_succ _) ⟨by omega, out, ep, hv, he'⟩, rfl, q _ ys (I.hok.fresh (Nat.le_succ _)) hr⟩
  rcases hs with hs | hs
  · obtain ⟨its, rv, hl, _⟩ := I.list (hk ▸ hs)
    exact PySem.W.sorted_data hl.isList (each_reps rs rv) (main its rv) hal (sortable_py h1 hso) hL hdep (fin its rv)
  · obtain ⟨its, rv, hl, _⟩ := I.tuple (hk ▸ hs)
    exact sorted_dataT hl (each_reps rs rv) (main its rv) hal (sortable_py h1 hso) hL hdep (fin its rv)
theorem sort_LO : OpLO T (rSortG T) (on1 sortedD) := opLO_1 fun U G H σ ρ x d c Q R rx hg q => by
  unfold sortedD at hg
  cases e : seqD d with
  | none => rw [e] at hg; cases hg
  | some ds =>
    rw [e] at hg
    simp only [Option.bind_some] at hg
    split at hg
    · rename_i hh
      cases hg
      obtain ⟨ho, hso, hlen⟩ := hh
      have key : ∀ a xs, x = V.ref a → (SqL T.K H a xs ∨ SqT T.K H a xs) → Reps T G xs ds → rSortG T [x] H Q := fun a xs hx hs rs => by
        subst hx
        exact ⟨U, G, σ, ρ, a, ds, xs, rfl, R, hs, rs, ho, hso, hlen, fun p ys hp ry => mkList R ry q p hp⟩
      unfold seqD at e
      split at e
      · cases e
        obtain ⟨a, xs, rfl, hh, rs⟩ := rx.lst R.same
        exact key a xs rfl (.inl (.of hh)) rs
      · cases e
        obtain ⟨a, xs, rfl, hh, hG, rs⟩ := rx.tup R.same
        exact key a xs rfl (.inr hh) rs
      · cases e
    · cases hg
end
end J

set_option Elab.async false
set_option linter.all false
set_option maxRecDepth 100000
set_option maxHeartbeats 4000000
namespace J
open PySem PySem.Spec PyProof.Rows L2

/-! ### == and != of own objects -/
section
variable {X : Cx} {T : Tab} {W : WX} {a b : Expr} {pos : Pos} {k j c : Nat} {F : FV}
def eOwnEq (neg : Bool) (c : Nat) (F : FV) (fa fb : EF) : EF := fun ρ => (fa ρ).bnd fun d ρ1 => (fb ρ1).bnd fun e ρ2 => match d with
  | .obj c' _ _ => if c' = c ∧ eqArg c e = true then (match F [d, e] with
    | .ok (.bl r) => .ok (.bl (if neg = true then !r else r)) ρ2
    | _ => .bad) else .bad
  | _ => .bad
theorem ownEq_red {neg : Bool} {fa fb : EF} : ∀ σ H Q, tE T W (eOwnEq neg c F fa fb) σ H Q → tOp (rOwnEq T c F neg) (tE T W fa) (tE T W fb) σ H Q := by
  intro σ H Q ⟨U, G, ρ, R, q⟩
  refine ⟨U, G, ρ, R, (Pst.bnd q).mono (L2.Same.refl _) fun d G1 H1 ρ1 _ ⟨R1, s1, p1⟩ v rv => ?_⟩
  refine ⟨U, G1, ρ1, R1, (Pst.bnd p1).mono (L2.Same.refl _) fun e G2 H2 ρ2 _ ⟨R2, s2, p2⟩ u ru => ?_⟩
  cases d with
  | obj c' ns vs =>
    dsimp only at p2
    split at p2
    · rename_i hc
      obtain ⟨rfl, he⟩ := hc
      cases hF : F [.obj c' ns vs, e] with
      | ok d =>
        rw [hF] at p2
        cases d with
        | bl r => exact ⟨U, G2, σ, ρ2, _, e, r, R2, rv.mono s2, ru, by simp [eqArg], ⟨ns, vs, rfl⟩, he, hF, fun G' H' R' s' => p2 G' H' R' s' _ rfl⟩
        | _ => exact p2.elim
      | ex _ _ _ => rw [hF] at p2; exact p2.elim
      | bad => rw [hF] at p2; exact p2.elim
    · exact p2.elim
  | _ => exact p2.elim
theorem jeOwnEq {fa fb : EF} (ec : EqC X.prog X.w X.K X.mg X.base T k c F) (hr : Room j X.A) (ha : JE X T W a fa) (hb : JE X T W b fb) (hkj : k + 1 ≤ j := by decide) : JE X T W (.Compare a [.Eq] [b] pos) (eOwnEq false c F fa fb) :=
  ⟨ha.k, pe_imp (pe_cmpR (op := .Eq) (op_ownEq ha.k ec hr hkj false) ha.run hb.run (nomark _)) ownEq_red⟩
theorem jeOwnNe {fa fb : EF} (ec : EqC X.prog X.w X.K X.mg X.base T k c F) (hr : Room j X.A) (ha : JE X T W a fa) (hb : JE X T W b fb) (hkj : k + 1 ≤ j := by decide) : JE X T W (.Compare a [.NotEq] [b] pos) (eOwnEq true c F fa fb) :=
  ⟨ha.k, pe_imp (pe_cmpR (op := .NotEq) (op_ownEq ha.k ec hr hkj true) ha.run hb.run (nomark _)) ownEq_red⟩
theorem jtOwnEq {fa fb : EF} (ec : EqC X.prog X.w X.K X.mg X.base T k c F) (hr : Room j X.A) (ha : JE X T W a fa) (hb : JE X T W b fb) (hkj : k + 1 ≤ j := by decide) : JT X T W (.Compare a [.Eq] [b] pos) (tB (eOwnEq false c F fa fb)) :=
  ⟨ha.k, pt_imp (pt_cmpR (op := .Eq) (op_ownEq ha.k ec hr hkj false) ha.run hb.run (nomark _)) (tB_run ownEq_red)⟩
theorem jtOwnNe {fa fb : EF} (ec : EqC X.prog X.w X.K X.mg X.base T k c F) (hr : Room j X.A) (ha : JE X T W a fa) (hb : JE X T W b fb) (hkj : k + 1 ≤ j := by decide) : JT X T W (.Compare a [.NotEq] [b] pos) (tB (eOwnEq true c F fa fb)) :=
  ⟨ha.k, pt_imp (pt_cmpR (op := .NotEq) (op_ownEq ha.k ec hr hkj true) ha.run hb.run (nomark _)) (tB_run ownEq_red)⟩
end

/-! ### isinstance of an own class -/
structure IsC (K : PySem.W.Frag) (mg : Str → Option Value) (T : Tab) (x : Str) (c : Nat) : Prop where
  ic : C8.InsC K (T.cls c)
  mgC : mg x = some (.ref (T.cls c))
  tup : PySem.W.kitOne K (.type "tuple") (.ref (T.cls c)) = some false
def isCD (c : Nat) : D → Option D
  | .obj c' _ _ => if c' = c then some (.bl true) else none
  | .tup _ => some (.bl false)
  | _ => none
section
variable {X : Cx} {T : Tab} {W : WX} {x y : Str} {p q pos : Pos} {e : Expr} {c : Nat}
def eIsC (c : Nat) (f : En → Rs Ar) : EF := fun ρ => (f ρ).bnd fun a ρ1 => match look ρ1 a with
  | some d => opt (isCD c d) ρ1
  | none => .bad
theorem jIsC {f : En → Rs Ar} (ic : IsC X.K X.mg T y c) (h : JR X T W e f) (B : NoB X.mg) (hg : Gl X y := by rfl) (hgl : Gl X "isinstance" := by rfl) (hdb : (y == ("__debug__" : Str)) = false := by decide)
    (he : starEach [e, .Name y q] X.env = (false, eval e X.env) :: starEach [.Name y q] X.env := by rfl) (he2 : starEach [.Name y q] X.env = (false, eval (.Name y q) X.env) :: starEach [] X.env := by rfl) (hpl : (backTo pos (starEach [.Name y q] X.env)).any (·.1) = false := by rfl) :
    JE X T W (.Call (.Name "isinstance" p) [e, .Name y q] [] pos) (eIsC c f) := by
  refine ⟨h.k, pe_imp (pe_callB call_isi hgl B.isi (by decide +kernel) (pa_cons h.run (pa_cons (pe_glob hg ic.mgC (v := .ref (T.cls c)) rfl hdb) pa_nil he2) he) (by decide) (by decide) he hpl) fun σ H Q ⟨U, G, ρ, R, q⟩ => ?_⟩
  refine ⟨U, G, ρ, R, (Pst.bnd q).mono (L2.Same.refl _) fun a G1 H1 ρ1 _ ⟨R1, s1, p1⟩ v av => ?_⟩
  cases el : look ρ1 a with
  | none => rw [el] at p1; exact p1.elim
  | some d =>
    rw [el] at p1
    obtain ⟨r, e1, p⟩ := Pst.opt p1
    have rd := look_ok R1 av el
    cases d <;> simp only [isCD] at e1 <;> first | (cases e1; done) | skip
    · cases e1
      exact ⟨v, .ref (T.cls c), _, _, false, rfl, .own _, h.k ▸ ty_ok R1.same rd rfl, ic.tup, p G1 H1 R1 (L2.Same.refl _) _ rfl⟩
    · rename_i c' ns vs
      split at e1
      · rename_i hc
        cases e1
        subst hc
        obtain ⟨a, dx, fs, rfl, hh, h6, h7⟩ := rd.obj R1.same
        exact ⟨.ref a, .ref (T.cls c'), _, _, true, rfl, .own _, .base (.ins hh ic.ic.cl ic.ic.ha ic.ic.hn ic.ic.htk ic.ic.hm), ic.ic.me, p G1 H1 R1 (L2.Same.refl _) _ rfl⟩
      · cases e1
end

/-! ### a op b op' c -/
section
variable {X : Cx} {T : Tab} {W : WX} {a b d : Expr} {pos : Pos}
def eChain (g g' : D → D → Option D) (fa fb fc : En → Rs Ar) : EF := fun ρ => (fa ρ).bnd fun x ρ1 => (fb ρ1).bnd fun y ρ2 => match r2 g x y ρ2 with
  | .ok (.bl true) ρ3 => (fc ρ3).bnd fun z ρ4 => r2 g' y z ρ4
  | .ok (.bl false) ρ3 => .ok (.bl false) ρ3
  | _ => .bad
theorem r2_eq {g : D → D → Option D} {x y : Ar} {ρ ρ' : En} {d : D} (h : r2 g x y ρ = .ok d ρ') : ρ' = ρ ∧ ∃ p q, look ρ x = some p ∧ look ρ y = some q ∧ g p q = some d := by
  unfold r2 at h
  split at h
  · rename_i p q e1 e2
    cases e3 : g p q with
    | none => rw [e3] at h; cases h
    | some d' => rw [e3] at h; cases h; exact ⟨rfl, p, q, e1, e2, e3⟩
  · cases h
theorem chain_red {r r' : R2} {g g' : D → D → Option D} {fa fb fc : En → Rs Ar} (hg : Op2 T r g) (hg' : Op2 T r' g') : ∀ σ H Q, tE T W (eChain g g' fa fb fc) σ H Q → tChain r r' (tR T W fa) (tR T W fb) (tR T W fc) σ H Q := by
  intro σ H Q ⟨U, G, ρ, R, q⟩
  refine ⟨U, G, ρ, R, (Pst.bnd q).mono (L2.Same.refl _) fun x G1 H1 ρ1 _ ⟨R1, s1, p1⟩ v av => ?_⟩
  refine ⟨U, G1, ρ1, R1, (Pst.bnd p1).mono (L2.Same.refl _) fun y G2 H2 ρ2 _ ⟨R2, s2, p2⟩ u au => ?_⟩
  cases e : r2 g x y ρ2 with
  | bad => rw [e] at p2; exact p2.elim
  | ex _ _ _ _ => rw [e] at p2; exact p2.elim
  | ok k ρ3 =>
    rw [e] at p2
    obtain ⟨rfl, dx, dy, l1, l2, gk⟩ := r2_eq e
    refine hg U G2 H2 σ ρ3 v u dx dy k _ R2 (look_ok R2 (av.mono s2) l1) (look_ok R2 au l2) gk fun w G3 H3 R3 s3 rw' => ?_
    cases k with
    | bl t =>
      have rw'' : w = .bl t := rw'
      refine ⟨t, rw'', ?_⟩
      cases t with
      | true =>
        rw [if_pos rfl]
        dsimp only at p2
        refine ⟨U, G3, ρ3, R3, ?_⟩
        have p3 := Pst.mono (Q' := fun d G' H' _ => ∀ v, Rep T G' v d → Q v H') p2 s3 fun _ _ _ _ _ z => z
        refine (Pst.bnd p3).mono (L2.Same.refl _) fun z G4 H4 ρ4 _ ⟨R4, s4, p4⟩ w2 aw => ?_
        cases e4 : r2 g' y z ρ4 with
        | bad => rw [e4] at p4; exact p4.elim
        | ex _ _ _ _ =>
          unfold r2 at e4
          split at e4
          · rename_i p q _ _
            cases e5 : g' p q <;> rw [e5] at e4 <;> cases e4
          · cases e4
        | ok m ρ5 =>
          rw [e4] at p4
          obtain ⟨rfl, d1, d2, l3, l4, gm⟩ := r2_eq e4
          exact hg' U G4 H4 σ ρ5 u w2 d1 d2 m Q R4 (look_ok R4 (au.mono (s3.trans s4)) l3) (look_ok R4 aw l4) gm fun w3 G5 H5 R5 s5 r5 => p4 G5 H5 R5 s5 w3 r5
      | false =>
        rw [if_neg Bool.false_ne_true]
        exact p2 G3 H3 R3 s3 _ rfl
    | _ => exact p2.elim
theorem jeChain {op op' : CmpOp} {r r' : R2} {g g' : D → D → Option D} {fa fb fc : En → Rs Ar} (ho : OpR X (compareOp op) r) (ho' : OpR X (compareOp op') r') (hg : Op2 T r g) (hg' : Op2 T r' g') (ha : JR X T W a fa) (hb : JR X T W b fb) (hc : JR X T W d fc)
    (hm : lastMarks [op, op'] [b, d] = false := by with_unfolding_all rfl) : JE X T W (.Compare a [op, op'] [b, d] pos) (eChain g g' fa fb fc) := ⟨ha.k, pe_imp (pe_chain ho ho' ha.run hb.run hc.run hm) (chain_red hg hg')⟩
theorem jtChain {op op' : CmpOp} {r r' : R2} {g g' : D → D → Option D} {fa fb fc : En → Rs Ar} (ho : OpR X (compareOp op) r) (ho' : OpR X (compareOp op') r') (hg : Op2 T r g) (hg' : Op2 T r' g') (ha : JR X T W a fa) (hb : JR X T W b fb) (hc : JR X T W d fc)
    (hm : lastMarks [op, op'] [b, d] = false := by with_unfolding_all rfl) : JT X T W (.Compare a [op, op'] [b, d] pos) (tB (eChain g g' fa fb fc)) := ⟨ha.k, pt_imp (pt_chain ho ho' ha.run hb.run hc.run hm) (tB_run (chain_red hg hg'))⟩
theorem jeLeLe {fa fb fc : En → Rs Ar} (ha : JR X T W a fa) (hb : JR X T W b fb) (hc : JR X T W d fc) (hm : lastMarks [.LtE, .LtE] [b, d] = false := by with_unfolding_all rfl) : JE X T W (.Compare a [.LtE, .LtE] [b, d] pos) (eChain leD leD fa fb fc) := jeChain op_le op_le icmp_J icmp_J ha hb hc hm
theorem jtLeLe {fa fb fc : En → Rs Ar} (ha : JR X T W a fa) (hb : JR X T W b fb) (hc : JR X T W d fc) (hm : lastMarks [.LtE, .LtE] [b, d] = false := by with_unfolding_all rfl) : JT X T W (.Compare a [.LtE, .LtE] [b, d] pos) (tB (eChain leD leD fa fb fc)) := jtChain op_le op_le icmp_J icmp_J ha hb hc hm
theorem jeLeLt {fa fb fc : En → Rs Ar} (ha : JR X T W a fa) (hb : JR X T W b fb) (hc : JR X T W d fc) (hm : lastMarks [.LtE, .Lt] [b, d] = false := by with_unfolding_all rfl) : JE X T W (.Compare a [.LtE, .Lt] [b, d] pos) (eChain leD ltD fa fb fc) := jeChain op_le op_lt icmp_J icmp_J ha hb hc hm
theorem jtLeLt {fa fb fc : En → Rs Ar} (ha : JR X T W a fa) (hb : JR X T W b fb) (hc : JR X T W d fc) (hm : lastMarks [.LtE, .Lt] [b, d] = false := by with_unfolding_all rfl) : JT X T W (.Compare a [.LtE, .Lt] [b, d] pos) (tB (eChain leD ltD fa fb fc)) := jtChain op_le op_lt icmp_J icmp_J ha hb hc hm
theorem jeLtLe {fa fb fc : En → Rs Ar} (ha : JR X T W a fa) (hb : JR X T W b fb) (hc : JR X T W d fc) (hm : lastMarks [.Lt, .LtE] [b, d] = false := by with_unfolding_all rfl) : JE X T W (.Compare a [.Lt, .LtE] [b, d] pos) (eChain ltD leD fa fb fc) := jeChain op_lt op_le icmp_J icmp_J ha hb hc hm
theorem jtLtLe {fa fb fc : En → Rs Ar} (ha : JR X T W a fa) (hb : JR X T W b fb) (hc : JR X T W d fc) (hm : lastMarks [.Lt, .LtE] [b, d] = false := by with_unfolding_all rfl) : JT X T W (.Compare a [.Lt, .LtE] [b, d] pos) (tB (eChain ltD leD fa fb fc)) := jtChain op_lt op_le icmp_J icmp_J ha hb hc hm
theorem jeLtLt {fa fb fc : En → Rs Ar} (ha : JR X T W a fa) (hb : JR X T W b fb) (hc : JR X T W d fc) (hm : lastMarks [.Lt, .Lt] [b, d] = false := by with_unfolding_all rfl) : JE X T W (.Compare a [.Lt, .Lt] [b, d] pos) (eChain ltD ltD fa fb fc) := jeChain op_lt op_lt icmp_J icmp_J ha hb hc hm
theorem jtLtLt {fa fb fc : En → Rs Ar} (ha : JR X T W a fa) (hb : JR X T W b fb) (hc : JR X T W d fc) (hm : lastMarks [.Lt, .Lt] [b, d] = false := by with_unfolding_all rfl) : JT X T W (.Compare a [.Lt, .Lt] [b, d] pos) (tB (eChain ltD ltD fa fb fc)) := jtChain op_lt op_lt icmp_J icmp_J ha hb hc hm
end

/-! ### names of the module: constants, defs -/
structure ConT (mg : Str → Option Value) (T : Tab) (x : Str) (d : D) : Prop where
  ex : ∃ u v, mg x = some u ∧ RelV v u ∧ ∀ G, Rep T G v d
theorem con_int {mg : Str → Option Value} {T : Tab} {x : Str} {i : Int} {t : Tok} (h : mg x = some (.int i t)) : ConT mg T x (.int i) := ⟨_, .int i, h, ⟨t, rfl⟩, fun _ => rfl⟩
theorem con_str {mg : Str → Option Value} {T : Tab} {x z : Str} {t : Tok} (h : mg x = some (.str z t)) (o : SOk z) : ConT mg T x (.str z) := ⟨_, .str z, h, ⟨t, rfl⟩, fun _ => ⟨rfl, o⟩⟩
theorem con_fn {mg : Str → Option Value} {T : Tab} {x : Str} {n : Nat} (h : mg x = some (.ref (T.fna n))) : ConT mg T x (.fn n) := ⟨_, .ref (T.fna n), h, rfl, fun _ => rfl⟩
section
variable {X : Cx} {T : Tab} {W : WX}
theorem j_con {x : Str} {d : D} {pos : Pos} (hK : X.K = T.K) (c : ConT X.mg T x d) (hg : Gl X x := by rfl) (hd : (x == ("__debug__" : Str)) = false := by decide) : JE X T W (.Name x pos) (eC d) := by
  obtain ⟨u, v, h, r, rp⟩ := c.ex
  exact j_C hK (pe_glob hg h r hd) rp
/-- what stands at the numbers of the defs -/
structure FnT (P : Program) (w : World) (K : PySem.W.Frag) (mg : Str → Option Value) (base : Heap) (T : Tab) (k n : Nat) (tbl : Nat → Option FV) : Prop where
  ex : ∀ i F, tbl i = some F → ∃ (fd : FuncData) (ps : List Str), FnOk P w K mg base (L2.CX P w) k (T.fna i) fd ps (spV T n F) ∧ PySem.W.keepIn K (.ref (T.fna i)) = true ∧ Binds K fd ps []
/-- x(e ..), x a local name that holds a def -/
def eCallF (i : Nat) (tbl : Nat → Option FV) (g : AF) : EF := fun ρ => match (ρ[i]? : Option Sl) with
  | some (Sl.sh (D.fn m)) => (match tbl m with
    | some F => eCall F [] g ρ
    | none => .bad)
  | _ => .bad
theorem jcF {x : Str} {p pos : Pos} {e : Expr} {es : List Expr} {k j n i : Nat} {tbl : Nat → Option FV} {g : AF} (Ft : FnT X.prog X.w X.K X.mg X.base T k n tbl) (hr : Room j X.A) (tk : Takes X W) (ha : JA X T W (e :: es) g) (hN : X.N[i]? = some x := by rfl) (hkj : k ≤ j := by decide) (hn : (e :: es).length = n := by rfl)
    (hv : Vis X.env.scope x := by first | exact Or.inl rfl | exact Or.inr (Or.inl rfl) | exact Or.inr (Or.inr rfl)) (hdb : (x == ("__debug__" : Str)) = false := by decide) (hcd : (x == ("__classdict__" : Str)) = false := by decide)
    (he : starEach (e :: es) X.env = (false, eval e X.env) :: starEach es X.env := by rfl) (hpl : (backTo pos (starEach es X.env)).any (·.1) = false := by rfl) : JE X T W (.Call (.Name x p) (e :: es) [] pos) (eCallF i tbl g) := by
  refine ⟨ha.k, ⟨fun pins s σ H Q I q => ?_⟩⟩
  obtain ⟨U, G, ρ, R, q⟩ := q
  unfold eCallF at q
  split at q
  · rename_i m em
    cases et : tbl m with
    | none => rw [et] at q; exact q.elim
    | some F =>
      rw [et] at q
      dsimp only at q
      obtain ⟨fd, ps, Fo, hk, hb⟩ := Ft.ex m F et
      obtain ⟨v, e1, rv⟩ := R.sh i _ em
      have rv' : v = .ref (T.fna m) := rv
      subst rv'
      refine wpAny_Call_Name_kw (thn ((pe_var (pos := p) hN hv hdb hcd).run pins s σ H (fun v H1 => v = .ref (T.fna m) ∧ H1 = H) I ⟨.ref (T.fna m), e1, rfl, rfl⟩) fun u s1 ⟨v, H1, I1, r1, q1⟩ => ?_)
      obtain ⟨rfl, rfl⟩ := q1
      cases r1
      have q2 : tE T W (eCall F [] g) σ H1 Q := ⟨U, G, ρ, R, q⟩
      have q3 : tCallSD (spV T n F) [] (WE W) (tA T W g) σ H1 Q := call_red (dd := []) (dv := []) (fun ρ as ρ' h => by rw [ha.len _ _ _ h]; simpa using hn) (fun _ => (rfl : ([] : List V) = [])) q2
      refine PySem.W.callWith_K (h₀ := X.base) I.ok.mod.kin hk (thn (ha.run.run pos pins s1 σ _ _ I1 q3) fun us s2 ⟨vs, H2, I2, r, q⟩ => ⟨I2.kIn, ?_⟩) he hpl
      exact run_fnSD Fo (hr.mono hkj) hb .nil (passAt tk σ) I2 r q
  · exact q.elim
end

/-! ### min, max, sorted; in; index; tuple * int; range with a step -/
def minX (d : D) : Option D := match minD d with
  | some r => some r
  | none => minG d
def maxX (d : D) : Option D := match maxD d with
  | some r => some r
  | none => maxG d
theorem opL_or {T : Tab} {r r' : List V → Hp → VK → Prop} {g g' : D → Option D} (h : OpL T r (on1 g)) (h' : OpL T r' (on1 g')) : OpL T (fun xs H Q => r xs H Q ∨ r' xs H Q) (on1 fun d => match g d with
    | some r => some r
    | none => g' d) := by
  intro U G H σ ρ xs ds c Q R rx hg q
  match ds, rx, hg with
  | [d], rx, hg =>
    simp only [on1_one] at hg
    cases e : g d with
    | some r => rw [e] at hg; cases hg; exact .inl (h U G H σ ρ xs [d] c Q R rx e q)
    | none => rw [e] at hg; exact .inr (h' U G H σ ρ xs [d] c Q R rx hg q)
  | [], _, hg => cases hg
  | _ :: _ :: _, _, hg => cases hg
section
variable {X : Cx} {T : Tab} {W : WX} {e : Expr} {es : List Expr} {f : AF} {p pos : Pos}
theorem jMinX (hc : X.calm = true) (hu : X.A.units + 65 < cLine) (ha : JA X T W [e] f) (B : NoB X.mg) (hgl : Gl X "min" := by rfl) (he : starEach [e] X.env = (false, eval e X.env) :: starEach [] X.env := by rfl) : JE X T W (.Call (.Name "min" p) [e] [] pos) (eCallB (on1 minX) f) := j_callB (CallR.or (cr_min hc) (call_minG ha.k hu hc)) (opL_or (min_J ha.k) minG_L) ha B.min (by decide +kernel) hgl (by decide) (by decide) he (by rfl)
theorem jMaxX (hc : X.calm = true) (hu : X.A.units + 65 < cLine) (ha : JA X T W [e] f) (B : NoB X.mg) (hgl : Gl X "max" := by rfl) (he : starEach [e] X.env = (false, eval e X.env) :: starEach [] X.env := by rfl) : JE X T W (.Call (.Name "max" p) [e] [] pos) (eCallB (on1 maxX) f) := j_callB (CallR.or (cr_max hc) (call_maxG ha.k hu hc)) (opL_or (max_J ha.k) minG_L) ha B.max (by decide +kernel) hgl (by decide) (by decide) he (by rfl)
theorem jSortedO (hu : X.A.units + 65 < cLine) (ha : JA X T W [e] f) (B : NoB X.mg) (hgl : Gl X "sorted" := by rfl) (he : starEach [e] X.env = (false, eval e X.env) :: starEach [] X.env := by rfl) : JO X T W (.Call (.Name "sorted" p) [e] [] pos) (eCallB (on1 sortedD) f) := j_callBO (call_sortG ha.k hu) sort_LO ha B.sorted (by decide +kernel) hgl (by decide) (by decide) he (by rfl)
end
def rInTD (K : PySem.W.Frag) (neg : Bool) : R2 := fun x y H Q => ∃ d ds, Dp K H x d ∧ Dp K H y (.tuple ds) ∧ SeqAt.shaped d = true ∧ SeqAt.shaped (.tuple ds) = true ∧ Q (.bl (if neg = true then !(ds.any fun z => PyData.eqv z d) else ds.any fun z => PyData.eqv z d)) H
section
variable {X : Cx} {T : Tab} {W : WX} {a b : Expr} {fa fb : En → Rs Ar} {pos : Pos}
theorem op_inTD (hu : X.A.units + 65 < cLine) : OpR X (compareOp .In) (rInTD X.K false) := by
  intro pins s σ H x y v u Q I rx ry h
  obtain ⟨d, ds, hd, he, sd, se, q⟩ := h
  obtain ⟨as, r1⟩ := Dp.reads I d x v hd rx
  obtain ⟨bs, r2⟩ := Dp.reads I (.tuple ds) y u he ry
  exact SeqAt.in_tuple_reads r2 r1 (SeqAt.canLay_of_shaped se) (SeqAt.canLay_of_shaped sd) (room_in_shaped sd hu) ⟨.bl _, H, I, rfl, q⟩
theorem op_notInTD (hu : X.A.units + 65 < cLine) : OpR X (compareOp .NotIn) (rInTD X.K true) := by
  intro pins s σ H x y v u Q I rx ry h
  obtain ⟨d, ds, hd, he, sd, se, q⟩ := h
  obtain ⟨as, r1⟩ := Dp.reads I d x v hd rx
  obtain ⟨bs, r2⟩ := Dp.reads I (.tuple ds) y u he ry
  exact SeqAt.notIn_tuple_reads r2 r1 (SeqAt.canLay_of_shaped se) (SeqAt.canLay_of_shaped sd) (room_in_shaped sd hu) ⟨.bl _, H, I, rfl, q⟩
/-- d in e: e a list, a tuple, or a text and d one sign -/
def inX (neg : Bool) (d e : D) : Option D := match e with
  | .lst es => inD neg d (.lst es)
  | .tup es => if okE 60 d = true ∧ okE 60 (.tup es) = true then some (.bl (if neg = true then !(es.any fun z => eqv z d) else es.any fun z => eqv z d)) else none
  | .str z => (match d with
    | .str y => (match y.cps.toList with
      | [c] => some (.bl (if neg = true then !(decide (c ∈ z.cps.toList)) else decide (c ∈ z.cps.toList)))
      | _ => none)
    | _ => none)
  | _ => none
theorem one_sign {y : Str} {c : Nat} (h : y.cps.toList = [c]) : y = ⟨#[c]⟩ := by
  cases y with
  | mk a => simp only [Str.mk.injEq]; exact Array.toList_inj.mp h
abbrev rInX (K : PySem.W.Frag) (neg : Bool) : R2 := fun x y H Q => (if neg = true then rNotInD K x y H Q else rInD K x y H Q) ∨ rInTD K neg x y H Q ∨ ∃ (c : Nat) (z : Str), x = .str ⟨#[c]⟩ ∧ y = .str z ∧ Q (.bl (if neg = true then !decide (c ∈ z.cps.toList) else decide (c ∈ z.cps.toList))) H
theorem inX_J (k : X.K = T.K) (neg : Bool) : Op2 T (rInX X.K neg) (inX neg) := by
  intro U G H σ ρ x y d e c Q R rx ry hg q
  cases e <;> simp only [inX] at hg <;> first | (cases hg; done) | skip
  · rename_i z
    cases d <;> first | (cases hg; done) | skip
    rename_i y'
    dsimp only at hg
    split at hg
    · rename_i cc hcc
      cases hg
      have e1 := one_sign hcc
      subst e1
      exact .inr (.inr ⟨cc, z, rx.str.1, ry.str.1, q _ G H R (L2.Same.refl _) rfl⟩)
    · cases hg
  · rename_i es
    split at hg
    · rename_i h
      cases hg
      obtain ⟨a1, a2, a3⟩ := okE_dpH R.same h.1 rx
      obtain ⟨b1, b2, b3⟩ := okE_dpH R.same h.2 ry
      have h3 : okEs 59 es = true := by simpa [okE] using h.2
      refine .inr (.inl ?_)
      rw [k]
      exact ⟨_, toPys es, a1, b1, shaped_of a2 a3, shaped_of b2 b3, q _ G H R (L2.Same.refl _) (by rw [any_py h.1 h3]; rfl)⟩
    · cases hg
  · cases neg with
    | true => exact .inl (by rw [if_pos rfl]; exact notIn_J k U G H σ ρ x y d _ c Q R rx ry hg q)
    | false => exact .inl (by rw [if_neg Bool.false_ne_true]; exact in_J k U G H σ ρ x y d _ c Q R rx ry hg q)
theorem op_inX (hu : X.A.units + 65 < cLine) : OpR X (compareOp .In) (rInX X.K false) := by
  intro pins s σ H x y v u Q I rx ry h
  rcases h with h | h | h
  · exact op_inD hu pins s σ H x y v u Q I rx ry (by rwa [if_neg Bool.false_ne_true] at h)
  · exact op_inTD hu pins s σ H x y v u Q I rx ry h
  · obtain ⟨c, z, h1, h2, q⟩ := h
    exact op_in_sign pins s σ H x y v u Q I rx ry ⟨c, z, h1, h2, by simpa using q⟩
theorem op_notInX (hu : X.A.units + 65 < cLine) : OpR X (compareOp .NotIn) (rInX X.K true) := by
  intro pins s σ H x y v u Q I rx ry h
  rcases h with h | h | h
  · exact op_notInD hu pins s σ H x y v u Q I rx ry (by rwa [if_pos rfl] at h)
  · exact op_notInTD hu pins s σ H x y v u Q I rx ry h
  · obtain ⟨c, z, h1, h2, q⟩ := h
    exact op_notIn_sign pins s σ H x y v u Q I rx ry ⟨c, z, h1, h2, by simpa using q⟩
theorem jtInX (hu : X.A.units + 65 < cLine) (ha : JR X T W a fa) (hb : JR X T W b fb) (hm : behindInMarks .In b = false := by rfl) : JT X T W (.Compare a [.In] [b] pos) (tB (f2 (inX false) fa fb)) := j_cmp (op := .In) (pos := pos) (op_inX hu) (inX_J ha.k false) ha hb hm
theorem jtNotInX (hu : X.A.units + 65 < cLine) (ha : JR X T W a fa) (hb : JR X T W b fb) (hm : behindInMarks .NotIn b = false := by rfl) : JT X T W (.Compare a [.NotIn] [b] pos) (tB (f2 (inX true) fa fb)) := j_cmp (op := .NotIn) (pos := pos) (op_notInX hu) (inX_J ha.k true) ha hb hm
theorem jeInX (hu : X.A.units + 65 < cLine) (ha : JR X T W a fa) (hb : JR X T W b fb) (hm : behindInMarks .In b = false := by rfl) : JE X T W (.Compare a [.In] [b] pos) (f2 (inX false) fa fb) := j_cmpE (op := .In) (pos := pos) (op_inX hu) (inX_J ha.k false) ha hb hm
theorem jeNotInX (hu : X.A.units + 65 < cLine) (ha : JR X T W a fa) (hb : JR X T W b fb) (hm : behindInMarks .NotIn b = false := by rfl) : JE X T W (.Compare a [.NotIn] [b] pos) (f2 (inX true) fa fb) := j_cmpE (op := .NotIn) (pos := pos) (op_notInX hu) (inX_J ha.k true) ha hb hm
/-- tuple * int, beside int * int and list * int -/
def mulX (d e : D) : Option D := match d, e with
  | .tup (a :: r), .int k => if 2 ≤ k ∧ k ≤ 1000 ∧ (a :: r).length ≤ 1000 then some (.tup (List.replicate k.toNat (a :: r)).flatten) else none
  | d, e => mulD d e
theorem mulX_J (hk : X.K = T.K) : Op2 T (fun x y H Q => (fun x y H Q => (rI CMul fun i j => .int (i * j)) x y H Q ∨ rRep x y H Q) x y H Q ∨ rRepT X.K x y H Q) mulX := by
  intro U G H σ ρ x y d e c Q R rx ry hg q
  unfold mulX at hg
  split at hg
  · rename_i a r k
    split at hg
    · rename_i hc
      cases hg
      obtain ⟨p, xs, rfl, h1, hG, r1⟩ := rx.tup R.same
      have hl := r1.length
      refine .inr ⟨p, k, xs, rfl, ry.int, hk ▸ h1, fun z => by subst z; simp at hl, hc.1, hc.2.1, by rw [hl]; exact hc.2.2, fun l hl => ?_⟩
      have s := same_upd (o := .tup (List.replicate k.toNat xs).flatten) (R.gfree hl)
      exact q _ _ _ (R.alloc hl) s ⟨l, _, rfl, .of upd_same, (r1.rep _).mono s⟩
    · cases hg
  · exact .inl (mul_J U G H σ ρ x y d e c Q R rx ry hg q)
theorem j_mulX (ha : JR X T W a fa) (hb : JR X T W b fb) : JE X T W (.BinOp a .Mult b pos) (f2 mulX fa fb) := j_op (OpR.or (OpR.or op_mul op_rep) op_repT) (mulX_J ha.k) ha hb
end

/-! ### list.index -/
section
variable {X : Cx} {T : Tab} {W : WX}
def firstE (d : D) : List D → Nat → Option Nat
  | [], _ => none
  | e :: es, i => if eqv e d = true then some i else firstE d es (i + 1)
theorem firstE_ok {d : D} : ∀ {es : List D} {i j : Nat}, firstE d es i = some j → i ≤ j ∧ ∃ e, es[j - i]? = some e ∧ eqv e d = true ∧ ∀ m e', m < j - i → es[m]? = some e' → eqv e' d = false
  | [], _, _, h => by cases h
  | e :: es, i, j, h => by
    simp only [firstE] at h
    split at h
    · rename_i he
      cases h
      exact ⟨Nat.le_refl _, e, by simp, he, fun m e' hm => by omega⟩
    · rename_i he
      obtain ⟨h1, e2, h2, h3, h4⟩ := firstE_ok h
      refine ⟨by omega, e2, ?_, h3, fun m e' hm hq => ?_⟩
      · rw [show j - i = (j - (i + 1)) + 1 by omega]; simpa using h2
      · cases m with
        | zero => cases hq; simpa using he
        | succ m => exact h4 m e' (by omega) (by simpa using hq)
/-- ds.index(d) -/
def indexD (l d : D) : Option D := match l with
  | .lst es => if okE 60 d = true ∧ okE 60 (.lst es) = true then (firstE d es 0).map fun j => .int (j : Nat) else none
  | _ => none
def isLst : D → Bool
  | .lst _ => true
  | _ => false
def eMethR (ok : D → Bool) (g : D → D → Option D) (fo : EF) (fe : EF) : EF := fun ρ => (fo ρ).bnd fun l ρ1 => if ok l = true then (fe ρ1).bnd fun d ρ2 => opt (g l d) ρ2 else .bad
theorem j_index {o e : Expr} {fo fe : EF} {apos cpos : Pos} (hu : X.A.units + 65 < cLine) (ho : JE X T W o fo) (he : JE X T W e fe) (hbase : attributeBase o "index" X.env (eval o X.env) = eval o X.env := by rfl)
    (hfew : ((backTo cpos (starEach [e] X.env)).all (fun x => !x.1) && (backToKw cpos (keywordEach [] X.env)).all (fun x => x.1.isSome)
      && decide (([e] : List Expr).length + ([] : List Keyword).length + (if ([] : List Keyword).isEmpty then 0 else 1) < 30)) = true := by rfl)
    (hline : (apos.endLine == cpos.line) = true := by rfl) (hs : starEach [e] X.env = (false, eval e X.env) :: starEach [] X.env := by rfl) :
    JE X T W (.Call (.Attribute o "index" apos) [e] [] cpos) (eMethR isLst indexD fo fe) := by
  refine ⟨ho.k, pe_imp (pe_bm PySem.F.plainAttrs_list PySem.F.slot_list_index PySem.F.type_list_index (mt_indexD hu) ho.run (pa_cons he.run pa_nil hs) hbase hfew hline hs rfl) fun σ H Q ⟨U, G, ρ, R, q⟩ => ⟨U, G, ρ, R, ?_⟩⟩
  refine (Pst.bnd q).mono (L2.Same.refl _) fun l G1 H1 ρ1 _ ⟨R1, s1, p1⟩ v rv => ?_
  cases l with
  | lst es =>
    obtain ⟨a, xs, rfl, hG, rx⟩ := id rv
    refine ⟨.inl ⟨rfl, xs, .of (R1.same _ _ hG)⟩, U, G1, ρ1, R1, (Pst.bnd p1).mono (L2.Same.refl _) fun d G2 H2 ρ2 _ ⟨R2, s2, p2⟩ u ru => ?_⟩
    obtain ⟨c, e1, p⟩ := Pst.opt p2
    unfold indexD at e1
    dsimp only at e1
    split at e1
    · rename_i hok
      cases e2 : firstE d es 0 with
      | none => rw [e2] at e1; cases e1
      | some j =>
        rw [e2] at e1
        cases e1
        obtain ⟨_, z, h2, h3, h4⟩ := firstE_ok e2
        obtain ⟨a1, a2, a3⟩ := okE_dp hok.1 (ru.mono R2.same)
        obtain ⟨b1, b2, b3⟩ := okE_dp hok.2 ((rv.mono s2).mono R2.same)
        have h5 : okEs 59 es = true := by simpa [okE] using hok.2
        refine ⟨a, u, toPy d, toPys es, j, toPy z, rfl, rfl, ho.k ▸ b1, ho.k ▸ a1, shaped_of b2 b3, shaped_of a2 a3, ?_, ?_, fun m z' hm hz => ?_, p G2 H2 R2 (L2.Same.refl _) _ rfl⟩
        · rw [toPys_map, List.getElem?_map]
          have : es[j]? = some z := by simpa using h2
          rw [this]; rfl
        · rw [eqv_py (okEs_mem h5 z (List.mem_of_getElem? (by simpa using h2))) hok.1]; exact h3
        · rw [toPys_map, List.getElem?_map] at hz
          cases e4 : es[m]? with
          | none => rw [e4] at hz; cases hz
          | some z0 =>
            rw [e4] at hz
            cases hz
            rw [eqv_py (okEs_mem h5 z0 (List.mem_of_getElem? e4)) hok.1]
            exact h4 m z0 (by omega) e4
    · cases e1
  | _ => exact p1.elim
end

/-! ### range with a step; tuple(range(..)) -/
section
variable {X : Cx} {T : Tab} {W : WX} {tg : Expr}
end
end J

set_option Elab.async false
set_option linter.all false
set_option maxRecDepth 100000
set_option maxHeartbeats 4000000
namespace J
open PySem PySem.Spec PyProof.Rows L2

/-! ### several except clauses with names -/
def wManyN (K : PySem.W.Frag) (Wout : WX) (D : Ends) : List (Value × Nat × (Addr → Value → Option Addr → TS)) → WX
  | [] => Wout
  | (c, i, ts) :: r => fun cls d σ H => ∃ b, PySem.W.exmOne K cls c = some b ∧ (b = true → ∀ a, H a = none → ts a cls d { nx := fun σ' H' => D.nx (σ'.set i none) H', rt := D.rt, bk := fun σ' H' => D.bk (σ'.set i none) H', ct := fun σ' H' => D.ct (σ'.set i none) H' } (σ.set i (some (.ref a))) H) ∧
    (b = false → wManyN K Wout D r cls d σ H)
inductive HdsN (X : Cx) : List ExceptHandler → List (Value × Nat × (Addr → Value → Option Addr → TS)) → Prop
  | nil : HdsN X [] []
  | cons {x n : Str} {c : Value} {i : Nat} {ts : Addr → Value → Option Addr → TS} {b₀ : Stmt} {suite : List Stmt} {np pos' : Pos} {hds : List ExceptHandler} {l : List (Value × Nat × (Addr → Value → Option Addr → TS))} (hi : X.N[i]? = some n) (hln : X.env.kindOf n = some .local) (hc : Names X x c)
      (hsu : ∀ (a : Addr) (oe : Obj) (cls : Value) (d : Option Addr) (pn : List (Addr × Obj)), Zc cls d oe → (∃ vs, oe.data = .fields vs) → PSs (X.suite a ((a, oe) :: pn)) (b₀ :: suite) (ts a cls d)) (r : HdsN X hds l) :
      HdsN X (.ExceptHandler (some (.Name x np)) (some n) (b₀ :: suite) pos' :: hds) ((c, i, ts) :: l)
section
variable {X : Cx} {body : List Stmt} {h₀ : ExceptHandler} {hds : List ExceptHandler} {l : List (Value × Nat × (Addr → Value → Option Addr → TS))} {pos : Pos} {tb : WX → TS} {Wout : WX}
theorem ps_try_manyN (hs : X.stack = X.env :: X.outer) (hf : X.env.frame = some X.env.locals) (hN : X.N.Nodup) (tk : Takes X Wout)
    (hb : ∀ (W : WX) (pn : List (Addr × Obj)) (xe : Value → Shared → Prop), Takes (X.tr pn xe) W → PassesOwn (model X.prog X.w) X.A X.env xe → PSs (X.tr pn xe) body (tb W))
    (hh : HdsN X (h₀ :: hds) l) : PS X (.Try body (h₀ :: hds) [] [] pos) (fun D σ H => tb (wManyN X.K Wout D l) D σ H) := by
  refine ⟨fun pins s σ H D I h => ?_⟩
  have ok := I.ok
  have hfr : X.A.frames = some (X.env :: X.outer) := by rw [ok.frames, hs]
  refine wpAny_Try_except ?_
  refine wpAny_mono ((hb (wManyN X.K Wout D l) (X.pn ++ pins) (fun e s₁ => wpAny (model X.prog X.w) X.A (noteFrame e X.env) (fun _ s₂ => wpAny (model X.prog X.w) X.A (setFlight e none) (fun _ s₃ =>
    wpAny (model X.prog X.w) X.A (handleBy e X.env (h₀ :: hds)) (SP X pins D) X.xe s₃) X.xe s₂) X.xe s₁) (fun u s' xx => ?_) PassesOwn.looking).run [] s σ H D (I.toTry _) h) (fun f s1 hsp => ?_) (fun e s1 he => he)
  · obtain ⟨a, B, sI, pins', σ', H', cls, d, rfl, J', nb, up, sky, na, os, ag, w⟩ := xx
    have J : Inv X pins σ' H' sI := J'.ofTry ok
    have sky' : Sky B (X.env :: X.outer) a (Zc cls d) X.env.locals s'.heap := by rw [← hs]; exact sky
    show wpAny (model X.prog X.w) X.A (noteFrame (.ref a) X.env) _ _ _
    refine Sky.land Zc.steady hfr hf sky' fun h3 fl3 up3 => ?_
    have J3 : Inv X pins σ' H' { s' with heap := h3 } := J.landed nb fl3.1 (up.trans up3) os ag
    obtain ⟨oe3, vs3, he3, hz3, hd3⟩ := fl3.there
    have notFr : ∀ {h : Heap} {o : Obj} {vs : Array Value}, h.FunFrames B (X.env :: X.outer) → h.get? a = some o → o.data = .fields vs → a ∉ frs (X.env :: X.outer) := fun {h o vs} ff e dd hm => by
      obtain ⟨_, o', e', hnf⟩ := ff.mem hm
      rw [e] at e'; cases e'
      exact hnf _ dd
    have nfr := notFr fl3.2.2.1 he3 hd3
    have nL : a ≠ X.env.locals := fun z => nfr (List.mem_filterMap.mpr ⟨X.env, List.mem_cons_self, by rw [hf, z]⟩)
    have nF : a ∉ X.fs := fun hm => by
      obtain ⟨e, he, q⟩ := List.mem_filterMap.mp hm
      exact nfr (List.mem_filterMap.mpr ⟨e, List.mem_cons_of_mem _ he, q⟩)
    have S3 := J3.suite he3 hd3 na nL nF
    have go : ∀ {hds' : List ExceptHandler} {l' : List (Value × Nat × (Addr → Value → Option Addr → TS))}, HdsN X hds' l' → wManyN X.K Wout D l' cls d σ' H' →
        wpAny (model X.prog X.w) X.A (handleBy (.ref a) X.env hds') (SP X pins D) X.xe { s' with heap := h3 } := by
      intro hds' l' hk
      induction hk with
      | nil =>
        intro w
        refine wpAny_handleBy_nil ?_
        obtain ⟨k1, k2, k3, oe, vs, T, oT, ts', he, hz, hd, h1, hr⟩ := id fl3
        unfold PySem.passOn
        refine wpAny_bind (wpAny_field he hd h1 ?_)
        rw [if_neg (show ¬ ((Value.ref T == Value.none) = true) from by simp)]
        have fin : wpAny (model X.prog X.w) X.A (setFlight (.ref a) X.env.frame) (fun _ s4 => wpAny (model X.prog X.w) X.A (throw (.ref a) : Sem Flow) (SP X pins D) X.xe s4) X.xe { s' with heap := h3 } := by
          rw [hf]
          refine HandSPX.setFlight_upZ fl3 fun h4 hh4 up4 => wpAny_throw (tk _ _ ?_)
          exact ⟨a, B, sI, pins, σ', H', cls, d, rfl, J, nb, (up.trans up3).trans up4, .inr (.inr (by rw [hs]; exact hh4)), na, os, ag, w⟩
        first
          | exact wpAny_bind (wpAny_pure (wpAny_bind fin))
          | exact wpAny_bind fin
      | @cons x n c i ts b₀ suite np pos' hds2 l2 hi hln hc hsu r ih =>
        intro w
        obtain ⟨b, hb1, hyes, hno⟩ := w
        have hloc : Loc X.env.scope n := .inl hln
        refine wpAny_handleBy_cons (codeAny_handlers_test ?_) (by intro q; cases q)
        have LT : PySem.W.Looks (model X.prog X.w) h3 (typeOf (.ref a)) cls := fun A Q E s k q => wpAny_typeOf_ref (k _ _ he3) (by rw [hz3.1]; exact q)
        have LM := PySem.W.exm_one (M := model X.prog X.w) (J3.kIn) LT hb1
        have test : ∀ {Q : Value → Shared → Prop} {E : Value → Shared → Prop}, Q c { s' with heap := h3 } → wpAny (model X.prog X.w) (X.A.mark (some (.ref a))) (eval (.Name x np) X.env) Q E { s' with heap := h3 } := fun {Q E} q => by
          obtain ⟨hg, hdbg, hm | ⟨hm, hv, hnn⟩⟩ := hc
          · exact ld_glob (X := X.suite a ((a, oe3) :: (X.pn ++ pins))) S3 hg hm q hdbg
          · exact ld_blt (X := X.suite a ((a, oe3) :: (X.pn ++ pins))) S3 hg hm hv q hnn hdbg
        refine test (LM.here ?_)
        cases b with
        | true =>
          refine codeAny_handlers_suite_as ?_
          refine HandSPX.lands_againZ fl3 fun h4 fl4 up4 => ?_
          have J4 : Inv X pins σ' H' { s' with heap := h4 } := J.landed nb fl4.1 ((up.trans up3).trans up4) os ag
          obtain ⟨oe4, vs4, he4, hz4, hd4⟩ := fl4.there
          have S4 := J4.suite he4 hd4 na nL nF
          refine store_ok (X := X.suite a ((a, oe4) :: (X.pn ++ pins))) (v := .ref a) S4 hN hi hloc rfl (fun s5 S5 => ?_) (.inr hln)
          refine wpAny_mono ((hsu a oe4 cls d (X.pn ++ pins) hz4 ⟨_, hd4⟩).run [] s5 _ H' _ S5 (hyes rfl a na)) (fun f s6 hsp => ?_) (fun _ _ z => False.elim z)
          have end_ : ∀ {σ6 : L2.St} {H6 : Hp} {Q : Shared → Prop}, Inv (X.suite a ((a, oe4) :: (X.pn ++ pins))) [] σ6 H6 s6 → (∀ s7, Inv X pins (σ6.set i none) H6 s7 → Q s7) →
              wpAny (model X.prog X.w) X.A (do bindName X.env n .none; unbindBehindTheSuite X.env n pos') (fun _ s7 => Q s7) X.xe s6 := fun {σ6 H6 Q} S6 hq => gone_ok (S6.unsuite ok) hN hi hln hq
          cases f with
          | next =>
            obtain ⟨σ6, H6, S6, q6⟩ := hsp
            exact end_ S6 fun s7 J7 => ⟨_, _, J7, q6⟩
          | brk =>
            obtain ⟨σ6, H6, S6, q6⟩ := hsp
            exact end_ S6 fun s7 J7 => ⟨_, _, J7, q6⟩
          | cont =>
            obtain ⟨σ6, H6, S6, q6⟩ := hsp
            exact end_ S6 fun s7 J7 => ⟨_, _, J7, q6⟩
          | ret u =>
            obtain ⟨v6, σ6, H6, S6, r6, q6⟩ := hsp
            exact end_ S6 fun s7 J7 => ⟨_, _, _, J7, r6, q6⟩
        | false =>
          show wpAny _ X.A (handleBy (.ref a) X.env hds2) _ _ _
          exact ih (hno rfl)
    exact go hh w
  · cases f with
    | next =>
      obtain ⟨σ', H', J', q⟩ := hsp
      exact wpAny_execs_nil ⟨σ', H', J'.ofTry ok, q⟩
    | brk =>
      obtain ⟨σ', H', J', q⟩ := hsp
      exact ⟨σ', H', J'.ofTry ok, q⟩
    | cont =>
      obtain ⟨σ', H', J', q⟩ := hsp
      exact ⟨σ', H', J'.ofTry ok, q⟩
    | ret u =>
      obtain ⟨v, σ', H', J', r, q⟩ := hsp
      exact ⟨v, σ', H', J'.ofTry ok, r, q⟩
end
/-- slot, which exceptions the clause catches, its suite -/
abbrev HJ := Nat × (Nat → Option Bool) × SF
def handleJ (c : Nat) (ns : List Nat) (vs : List D) : List HJ → SF
  | [], ρ => .ex c ns vs ρ
  | (i, hm, g) :: r, ρ => match hm c with
    | some true => if noEx ρ = true then (g (ρ.set i (.ex c ns vs))).out i else .bad
    | some false => handleJ c ns vs r ρ
    | none => .bad
def sTryMany (hs : List HJ) (f : SF) : SF := fun ρ => match f ρ with
  | .ok fl ρ' => .ok fl ρ'
  | .bad => .bad
  | .ex c ns vs ρ' => handleJ c ns vs hs ρ'
section
variable {X : Cx} {T : Tab} {W : WX}
inductive HdsJ (X : Cx) (T : Tab) : List ExceptHandler → List HJ → List Nat → Prop
  | nil : HdsJ X T [] [] []
  | cons {x n : Str} {cl : Value} {i : Nat} {hm : Nat → Option Bool} {g : SF} {ws wr : List Nat} {b₀ : Stmt} {suite : List Stmt} {np pos' : Pos} {hds : List ExceptHandler} {l : List HJ} (hi : X.N[i]? = some n) (hln : X.env.kindOf n = some .local) (hc : Names X x cl)
      (hx : ∀ c b, hm c = some b → PySem.W.exmOne X.K (.ref (T.exc c)) cl = some b)
      (hsu : ∀ (a : Addr) (oe : Obj) (cls : Value) (d : Option Addr) (pn : List (Addr × Obj)), Zc cls d oe → (∃ vs, oe.data = .fields vs) → JSs (X.suite a ((a, oe) :: pn)) (eaT T (some (a, cls, d))) WF ws (b₀ :: suite) g)
      (r : HdsJ X T hds l wr) : HdsJ X T (.ExceptHandler (some (.Name x np)) (some n) (b₀ :: suite) pos' :: hds) ((i, hm, g) :: l) (i :: ws ++ wr)
theorem HdsJ.hdsN {hds : List ExceptHandler} {l : List HJ} {wr : List Nat} (h : HdsJ X T hds l wr) : ∃ l2, HdsN X hds l2 ∧ ∀ (Dn : Ends) (U G H : Hp) (σ : L2.St) (ρ : En) (c : Nat) (ns : List Nat) (vs : List D) (cls : Value) (dx : Option Addr), Rel T U G H σ ρ → XRep T G c ns vs cls dx → PstS T W wr Dn U σ G (handleJ c ns vs l ρ) → wManyN X.K W Dn l2 cls dx σ H := by
  induction h with
  | nil => exact ⟨[], .nil, fun D U G H σ ρ c ns vs cls dx R xr q => q cls dx σ G H R (L2.Same.refl _) (Keeps.refl _ _) xr⟩
  | @cons x n cl i hm g ws wr b₀ suite np pos' hds l hi hln hc hx hsu r ih =>
    obtain ⟨l2, h2, ih⟩ := ih
    refine ⟨(cl, i, fun a cls d => tS (eaT T (some (a, cls, d))) WF ws g) :: l2, .cons hi hln hc (fun a oe cls d pn z v => (hsu a oe cls d pn z v).run) h2, fun D U G H σ ρ c ns vs cls dx R xr q => ?_⟩
    have hcls : cls = .ref (T.exc c) := xr.1
    simp only [handleJ] at q
    cases eb : hm c with
    | none => rw [eb] at q; exact q.elim
    | some b =>
      refine ⟨b, by rw [hcls]; exact hx c b eb, fun ht a hfa => ?_, fun ht => ?_⟩
      · subst ht
        rw [eb] at q
        dsimp only at q
        split at q
        · rename_i hne
          refine ⟨U, G, _, R.setEx hne xr, ?_⟩
          have kk : ∀ {σ2 : L2.St}, Keeps ws (σ.set i (some (.ref a))) σ2 → Keeps (i :: ws ++ wr) σ (σ2.set i none) := fun {σ2} k2 => by
            refine ⟨by rw [List.length_set, k2.1, List.length_set], fun j hj => ?_⟩
            have h1 : j ≠ i := fun z => hj (by rw [z]; simp)
            have h2 : j ∉ ws := fun z => hj (by simp [z])
            rw [set_get_ne h1, k2.2 j h2, set_get_ne h1]
          cases e2 : g (ρ.set i (.ex c ns vs)) with
          | bad => rw [e2] at q; exact q.elim
          | ex _ _ _ _ => rw [e2] at q; exact q.elim
          | ok fl ρ2 =>
            rw [e2] at q
            simp only [Rs.out_ok] at q
            split at q
            · rename_i hn2
              cases fl with
              | nx => exact fun σ2 G2 H2 R2 s2 k2 => q _ G2 H2 (R2.aeN hn2) s2 (kk k2)
              | rt d => exact fun v σ2 G2 H2 R2 s2 k2 r2 => q v _ G2 H2 (R2.aeN hn2) s2 (kk k2) (by have r3 := Rep.ea (x := T.ea) r2; rwa [eaT_back] at r3)
            · exact q.elim
        · exact q.elim
      · subst ht
        rw [eb] at q
        exact ih D U G H σ ρ c ns vs cls dx R xr (PstS.wide (ws' := i :: ws ++ wr) q fun j hj => List.mem_append_right _ hj)
theorem j_try_many {hds : List ExceptHandler} {h₀ : ExceptHandler} {l : List HJ} {body : List Stmt} {pos : Pos} {f : SF} {wb wr : List Nat} (hK : X.K = T.K) (hN : X.N.Nodup) (tk : Takes X W)
    (hb : ∀ (W : WX) (pn : List (Addr × Obj)) (xe : Value → Shared → Prop), Takes (X.tr pn xe) W → PassesOwn (model X.prog X.w) X.A X.env xe → JSs (X.tr pn xe) T W wb body f)
    (hh : HdsJ X T (h₀ :: hds) l wr) (hs : X.stack = X.env :: X.outer := by rfl) (hf : X.env.frame = some X.env.locals := by rfl) :
    JS X T W (wb ++ wr) (.Try body (h₀ :: hds) [] [] pos) (sTryMany l f) := by
  obtain ⟨l2, h2, hr⟩ := hh.hdsN (W := W)
  refine ⟨hK, ps_imp (ps_try_manyN (tb := fun W => tS T W wb f) hs hf hN tk (fun W pn xe t p => (hb W pn xe t p).run) h2) fun D σ H ⟨U, G, ρ, R, q⟩ => ⟨U, G, ρ, R, ?_⟩⟩
  unfold sTryMany at q
  have wl : ∀ j, j ∈ wb → j ∈ wb ++ wr := fun j hj => List.mem_append_left _ hj
  cases e : f ρ with
  | bad => rw [e] at q; exact q.elim
  | ok fl ρ' =>
    rw [e] at q
    cases fl with
    | nx => exact fun σ' G' H' R' s k => q σ' G' H' R' s (k.mono wl)
    | rt d => exact fun v σ' G' H' R' s k => q v σ' G' H' R' s (k.mono wl)
  | ex c ns vs ρ' =>
    rw [e] at q
    dsimp only at q
    intro cls dx σ' G' H' R' s k xr
    exact hr D U G' H' σ' ρ' c ns vs cls dx R' xr ((PstS.mono (ws' := wb ++ wr) q s (k.mono wl) (fun _ _ z => z) fun _ _ z => z).wide fun j hj => List.mem_append_right _ hj)
end
end J

set_option Elab.async false
set_option linter.all false
set_option maxRecDepth 100000
set_option maxHeartbeats 4000000
namespace J
open PySem PySem.Spec PyProof.Rows L2

/-! ### list(range(n)), tuple(range(..)), range(a, b, -1) -/
section
variable {X : Cx} {T : Tab} {W : WX} {a b c : Expr} {fa fb : En → Rs Ar} {p q pos pos' : Pos} {tg : Expr}
def rgD1 (d : D) : Option D := match d with
  | .int j => if rgOk 0 j = true then some (.lst (rangeL 0 (j - 0).toNat)) else none
  | _ => none
def rgT (d e : D) : Option D := match d, e with
  | .int i, .int j => if rgOk i j = true then some (.tup (rangeL i (j - i).toNat)) else none
  | _, _ => none
def rgT1 (d : D) : Option D := match d with
  | .int j => if rgOk 0 j = true then some (.tup (rangeL 0 (j - 0).toNat)) else none
  | _ => none
theorem jListRg1 (hc : X.calm = true) (ha : JR X T W a fa) (B : NoB X.mg) (hg : Gl X "list" := by rfl) (hg2 : Gl X "range" := by rfl) (na : starEach [a] X.env = (false, eval a X.env) :: starEach [] X.env := by rfl)
    (nc : starEach [.Call (.Name "range" q) [a] [] pos'] X.env = (false, eval (.Call (.Name "range" q) [a] [] pos') X.env) :: starEach [] X.env := by rfl) :
    JO X T W (.Call (.Name "list" p) [.Call (.Name "range" q) [a] [] pos'] [] pos) (f1 rgD1 fa) := by
  refine ⟨ha.k, pe_imp (pe_listRg hc hg B.list (prg_1 hg2 B.range ha.run na) nc) fun σ H Q ⟨U, G, ρ, R, h⟩ => ⟨U, G, ρ, R, ?_⟩⟩
  refine (Pst.bnd h).mono (L2.Same.refl _) fun x G1 H1 ρ1 _ ⟨R1, s1, p1⟩ v av => ?_
  cases e1 : look ρ1 x with
  | none => rw [e1] at p1; exact p1.elim
  | some d =>
    rw [e1] at p1
    obtain ⟨c, e3, p3⟩ := Pst.opt p1
    cases d <;> simp only [rgD1] at e3 <;> first | (cases e3; done) | skip
    rename_i j
    split at e3
    · rename_i hr
      cases e3
      have hr' := of_decide_eq_true hr
      refine ⟨j, (look_ok R1 av e1).int, hr', fun q hq => ?_⟩
      obtain ⟨R3, hn⟩ := R1.fresh (o := .lst (rgV 0 j)) hq
      exact p3 G1 _ R3 (L2.Same.refl _) q _ (R1.gfree hq) (R1.ufree hq) upd_same ⟨_, rfl, rg_reps⟩ hn
    · cases e3
theorem jTupRg1 (hc : X.calm = true) (ha : JR X T W a fa) (B : NoB X.mg) (hg : Gl X "tuple" := by rfl) (hg2 : Gl X "range" := by rfl) (na : starEach [a] X.env = (false, eval a X.env) :: starEach [] X.env := by rfl)
    (nc : starEach [.Call (.Name "range" q) [a] [] pos'] X.env = (false, eval (.Call (.Name "range" q) [a] [] pos') X.env) :: starEach [] X.env := by rfl) :
    JE X T W (.Call (.Name "tuple" p) [.Call (.Name "range" q) [a] [] pos'] [] pos) (f1 rgT1 fa) := by
  refine ⟨ha.k, pe_imp (pe_tupRg hc hg B.tuple (prg_1 hg2 B.range ha.run na) nc) fun σ H Q ⟨U, G, ρ, R, h⟩ => ⟨U, G, ρ, R, ?_⟩⟩
  refine (Pst.bnd h).mono (L2.Same.refl _) fun x G1 H1 ρ1 _ ⟨R1, s1, p1⟩ v av => ?_
  cases e1 : look ρ1 x with
  | none => rw [e1] at p1; exact p1.elim
  | some d =>
    rw [e1] at p1
    obtain ⟨c, e3, p3⟩ := Pst.opt p1
    cases d <;> simp only [rgT1] at e3 <;> first | (cases e3; done) | skip
    rename_i j
    split at e3
    · rename_i hr
      cases e3
      have hr' := of_decide_eq_true hr
      refine ⟨j, (look_ok R1 av e1).int, hr', fun q hq => ?_⟩
      have s := same_upd (o := .tup (rgV 0 j)) (R1.gfree hq)
      exact p3 _ _ (R1.alloc hq) s _ ⟨q, _, rfl, .of upd_same, rg_reps⟩
    · cases e3
theorem jTupRg2 (hc : X.calm = true) (ha : JR X T W a fa) (hb : JR X T W b fb) (B : NoB X.mg) (hg : Gl X "tuple" := by rfl) (hg2 : Gl X "range" := by rfl) (na : starEach [a, b] X.env = (false, eval a X.env) :: starEach [b] X.env := by rfl)
    (nb : starEach [b] X.env = (false, eval b X.env) :: starEach [] X.env := by rfl) (hp : (backTo pos' (starEach [b] X.env)).any (·.1) = false := by rfl) (nc : starEach [.Call (.Name "range" q) [a, b] [] pos'] X.env = (false, eval (.Call (.Name "range" q) [a, b] [] pos') X.env) :: starEach [] X.env := by rfl) :
    JE X T W (.Call (.Name "tuple" p) [.Call (.Name "range" q) [a, b] [] pos'] [] pos) (f2 rgT fa fb) := by
  refine ⟨ha.k, pe_imp (pe_tupRg hc hg B.tuple (prg_2 hg2 B.range ha.run hb.run na nb hp) nc) fun σ H Q ⟨U, G, ρ, R, h⟩ => ⟨U, G, ρ, R, ?_⟩⟩
  refine (Pst.bnd h).mono (L2.Same.refl _) fun x G1 H1 ρ1 _ ⟨R1, s1, p1⟩ v av => ⟨U, G1, ρ1, R1, ?_⟩
  refine (Pst.bnd p1).mono (L2.Same.refl _) fun y G2 H2 ρ2 _ ⟨R2, s2, p2⟩ u au => ?_
  unfold r2 at p2
  cases e1 : look ρ2 x with
  | none => rw [e1] at p2; exact p2.elim
  | some d =>
    cases e2 : look ρ2 y with
    | none => rw [e1, e2] at p2; exact p2.elim
    | some e =>
      rw [e1, e2] at p2
      obtain ⟨c, e3, p3⟩ := Pst.opt p2
      cases d <;> cases e <;> simp only [rgT] at e3 <;> first | (cases e3; done) | skip
      rename_i i j
      split at e3
      · rename_i hr
        cases e3
        have hr' := of_decide_eq_true hr
        refine ⟨i, j, (look_ok R2 (av.mono s2) e1).int, (look_ok R2 au e2).int, hr', fun q hq => ?_⟩
        have s := same_upd (o := .tup (rgV i j)) (R2.gfree hq)
        exact p3 _ _ (R2.alloc hq) s _ ⟨q, _, rfl, .of upd_same, rg_reps⟩
      · cases e3
def rangeDown (lo : Int) (n : Nat) : List D := (List.range n).map fun i => .int (lo + (i : Nat) * -1)
def rng3 : List D → Option (List D)
  | [.int i, .int j, .int c] => if c = -1 ∧ (-(2 ^ 62) ≤ i ∧ i < 2 ^ 62 ∧ -(2 ^ 62) ≤ j ∧ j < 2 ^ 62) ∧ i - j ≤ 16777216 then some (rangeDown i (i - j).toNat) else none
  | _ => none
theorem yl_rangeC {G0 : Hp} {lo : Int} {n : Nat} (h : n ≤ 16777216) : Yl T G0 (Itc lo (-1) n) (rangeDown lo n) (fun _ => True) := by
  have hl : (rangeDown lo n).length = n := by unfold rangeDown; simp
  refine ⟨by rw [hl, sizeLine_eq]; exact h, fun _ => True, YFn fun i => V.int (lo + (i : Nat) * -1), by rw [hl]; exact walk_rangeC, fun _ _ _ _ _ _ _ _ => True.intro, fun i H x H' U' σ ρ G hi y R s => ?_⟩
  obtain ⟨rfl, rfl⟩ := y
  rw [hl] at hi
  exact ⟨G, .int (lo + (i : Nat) * -1), R, L2.Same.refl _, by unfold rangeDown; simp [hi], rfl⟩
theorem RepHs.three {G H : Hp} {xs : List V} {d e f : D} (h : RepHs T G H xs [d, e, f]) : ∃ x y z, xs = [x, y, z] ∧ RepH T G H x d ∧ RepH T G H y e ∧ RepH T G H z f := by
  match xs, h with
  | [x, y, z], h => exact ⟨x, y, z, rfl, h.1, h.2.1, h.2.2.1⟩
  | [], h => exact h.elim
  | [_], h => exact h.2.elim
  | [_, _], h => exact h.2.2.elim
  | _ :: _ :: _ :: _ :: _, h => exact h.2.2.2.elim
theorem ji_range3 {f : AF} (ha : JA X T W [a, b, c] f) (hm : X.mg "range" = none) (hg : Gl X "range" := by rfl) (hs : starEach [a, b, c] X.env = (false, eval a X.env) :: starEach [b, c] X.env := by rfl) (hpl : (backTo pos (starEach [b, c] X.env)).any (·.1) = false := by rfl) :
    JI X T W tg (.Call (.Name "range" p) [a, b, c] [] pos) (iRng rng3 f) := by
  refine ⟨ha.k, pi_imp (pi_range3 hg hm ha.run hs hpl) fun σ H R ⟨U, G, ρ, R0, q⟩ => ?_⟩
  refine ⟨U, G, ρ, R0, (Pst.bnd q).mono (L2.Same.refl _) fun as G1 H1 ρ1 _ ⟨R1, s1, p1⟩ vs avs => ?_⟩
  cases e : looks ρ1 as with
  | none => rw [e] at p1; exact p1.elim
  | some ds =>
    rw [e] at p1
    obtain ⟨xs, e1, p⟩ := Pst.opt p1
    have rs := looks_ok R1 avs e
    unfold rng3 at e1
    split at e1
    · rename_i i j c
      split at e1
      · rename_i hj
        cases e1
        obtain ⟨rfl, ⟨h1, h2, h3, h4⟩, h5⟩ := hj
        obtain ⟨x, y, z, rfl, rx, ry, rz⟩ := rs.three
        exact ⟨i, j, -1, _, by rw [rx.int, ry.int, rz.int], RgC.neg h1 h2 h3 h4, p G1 H1 R1 (L2.Same.refl _) _ (yl_rangeC (by omega))⟩
      · cases e1
    · cases e1
end

/-! ### x, y = e, f where some of them are new objects to be owned -/
def evalC : List (Bool × EF) → En → Rs (List D)
  | [], ρ => .ok [] ρ
  | (_, f) :: r, ρ => (f ρ).bnd fun d ρ1 => (evalC r ρ1).bnd fun ds ρ2 => .ok (d :: ds) ρ2
inductive CF (T : Tab) (G : Hp) : Hp → Hp → List V → List Bool → List D → Prop
  | nil {U : Hp} : CF T G U U [] [] []
  | v {U U' : Hp} {v : V} {vs : List V} {os : List Bool} {d : D} {ds : List D} (r : Rep T G v d) (t : CF T G U U' vs os ds) : CF T G U U' (v :: vs) (false :: os) (d :: ds)
  | o {U U' : Hp} {p : Addr} {o : HO} {vs : List V} {os : List Bool} {d : D} {ds : List D} (h : U p = none) (r : RepO T G o d) (t : CF T G (upd U p o) U' vs os ds) : CF T G U U' (.ref p :: vs) (true :: os) (d :: ds)
theorem CF.mono {T : Tab} {G G' U U' : Hp} {vs : List V} {os : List Bool} {ds : List D} (c : CF T G U U' vs os ds) (s : L2.Same G G') : CF T G' U U' vs os ds := by
  induction c with
  | nil => exact .nil
  | v r t ih => exact .v (r.mono s) ih
  | o h r t ih => exact .o h (r.mono s) ih
theorem CF.length {T : Tab} {G U U' : Hp} {vs : List V} {os : List Bool} {ds : List D} (c : CF T G U U' vs os ds) : vs.length = os.length := by
  induction c with
  | nil => rfl
  | v _ _ ih => simp [ih]
  | o _ _ _ ih => simp [ih]
section
variable {T : Tab} {U G H : Hp} {σ : L2.St} {ρ : En} {p : Addr} {o : HO}
theorem unheld_upd {U : Hp} {p : Addr} {o : HO} (h : U p = none) : unheld (upd U p o) p = U := by
  funext b
  by_cases hb : b = p
  · subst hb; rw [unheld_same, h]
  · rw [unheld_ne hb, upd_ne hb]
theorem Rel.drop (R : Rel T (upd U p o) G H σ ρ) (h : U p = none) : Rel T U G H σ ρ := unheld_upd (o := o) h ▸ R.unhold (p := p)
theorem Rel.keepU (R : Rel T U G H σ ρ) (hG : G p = none) (hU : U p = none) (hH : H p = some o) (hn : ∀ (i : Nat) (d : D), ρ[i]? = some (.ow d) → σ[i]? ≠ some (some (.ref p))) : Rel T (upd U p o) G H σ ρ := by
  refine ⟨R.same, R.len, R.sh, fun i d e => ?_, R.dist, fun a q e => ?_, R.exn⟩
  · obtain ⟨a, q, e1, g, u, hh, r⟩ := R.ow i d e
    have ne : a ≠ p := fun z => by subst z; exact hn i d e e1
    exact ⟨a, q, e1, g, by rw [upd_ne ne]; exact u, hh, r⟩
  · by_cases ha : a = p
    · subst ha; rw [upd_same] at e; cases e; exact ⟨hH, hG⟩
    · rw [upd_ne ha] at e; exact R.out a q e
theorem CF.drop {U' : Hp} {vs : List V} {os : List Bool} {ds : List D} (c : CF T G U U' vs os ds) (R : Rel T U' G H σ ρ) : Rel T U G H σ ρ := by
  induction c with
  | nil => exact R
  | v r t ih => exact ih R
  | o h r t ih => exact (ih R).drop h
def setV : L2.St → List Nat → List V → L2.St
  | σ, i :: is, v :: vs => (setV σ is vs).set i (some v)
  | σ, _, _ => σ
def setSl : En → List Nat → List Bool → List D → En
  | ρ, i :: is, o :: os, d :: ds => (setSl ρ is os ds).set i (if o = true then .ow d else .sh d)
  | ρ, _, _, _ => ρ
theorem CF.set {U' : Hp} {vs : List V} {os : List Bool} {ds : List D} (c : CF T G U U' vs os ds) : ∀ {is : List Nat}, is.length = vs.length → Rel T U' G H σ ρ → Rel T U G H (setV σ is vs) (setSl ρ is os ds) := by
  induction c with
  | nil =>
    intro is hl R
    cases is with
    | nil => exact R
    | cons i is => simp at hl
  | v r t ih =>
    intro is hl R
    cases is with
    | nil => simp at hl
    | cons i is => exact (ih (by simpa using hl) R).setSh r
  | o h r t ih =>
    intro is hl R
    cases is with
    | nil => simp at hl
    | cons i is =>
      have R1 := ih (is := is) (by simpa using hl) R
      obtain ⟨hh, hg⟩ := R1.out _ _ upd_same
      refine (R1.drop h).setOw h hg hh r fun j d e1 e2 => ?_
      obtain ⟨a, q, e3, _, u, _⟩ := R1.ow j d e1
      rw [e2] at e3
      cases e3
      rw [upd_same] at u
      cases u
end
section
variable {X : Cx} {T : Tab} {W : WX}
def tAC (T : Tab) (W : WX) (fs : List (Bool × EF)) : TA := fun σ H Q => ∃ U G ρ, Rel T U G H σ ρ ∧ match evalC fs ρ with
  | .ok ds ρ' => ∀ U' G' H' vs, Rel T U' G' H' σ ρ' → L2.Same G G' → CF T G' U U' vs (fs.map (·.1)) ds → Q vs H'
  | .ex c ns xs ρ' => ∀ cls dx G' H', Rel T U G' H' σ ρ' → L2.Same G G' → XRep T G' c ns xs cls dx → W cls dx σ H'
  | .bad => False
structure JC (X : Cx) (T : Tab) (W : WX) (es : List Expr) (fs : List (Bool × EF)) : Prop where
  k : X.K = T.K
  run : PA X es (tAC T W fs)
theorem jC_nil (hK : X.K = T.K) : JC X T W [] [] := ⟨hK, pa_imp pa_nil fun σ H Q ⟨U, G, ρ, R, q⟩ => q U G H [] R (L2.Same.refl _) .nil⟩
theorem jC_v {e : Expr} {es : List Expr} {f : EF} {fs : List (Bool × EF)} (h : JE X T W e f) (h' : JC X T W es fs) (hs : starEach (e :: es) X.env = (false, eval e X.env) :: starEach es X.env := by rfl) : JC X T W (e :: es) ((false, f) :: fs) := by
  refine ⟨h.k, pa_imp (pa_cons h.run h'.run hs) fun σ H Q ⟨U, G, ρ, R, q⟩ => ⟨U, G, ρ, R, ?_⟩⟩
  simp only [evalC] at q
  cases e1 : f ρ with
  | bad => rw [e1] at q; exact q.elim
  | ex c ns vs ρ' => rw [e1] at q; exact q
  | ok d ρ1 =>
    rw [e1] at q
    intro G1 H1 R1 s1 v rv
    refine ⟨U, G1, ρ1, R1, ?_⟩
    simp only [Rs.bnd_ok] at q
    cases e2 : evalC fs ρ1 with
    | bad => rw [e2] at q; exact q.elim
    | ex c ns vs ρ' => rw [e2] at q; exact fun cls dx G' H' R' s' x => q cls dx G' H' R' (s1.trans s') x
    | ok ds ρ2 =>
      rw [e2] at q
      exact fun U' G' H' vs R' s' c => q U' G' H' (v :: vs) R' (s1.trans s') (.v (rv.mono s') c)
theorem jC_o {e : Expr} {es : List Expr} {f : EF} {fs : List (Bool × EF)} (h : JO X T W e f) (h' : JC X T W es fs) (hs : starEach (e :: es) X.env = (false, eval e X.env) :: starEach es X.env := by rfl) : JC X T W (e :: es) ((true, f) :: fs) := by
  refine ⟨h.k, pa_imp (pa_cons h.run h'.run hs) fun σ H Q ⟨U, G, ρ, R, q⟩ => ⟨U, G, ρ, R, ?_⟩⟩
  simp only [evalC] at q
  cases e1 : f ρ with
  | bad => rw [e1] at q; exact q.elim
  | ex c ns vs ρ' => rw [e1] at q; exact q
  | ok d ρ1 =>
    rw [e1] at q
    intro G1 H1 R1 s1 p o hG hU hH ro hn
    refine ⟨upd U p o, G1, ρ1, R1.keepU hG hU hH hn, ?_⟩
    simp only [Rs.bnd_ok] at q
    cases e2 : evalC fs ρ1 with
    | bad => rw [e2] at q; exact q.elim
    | ex c ns vs ρ' => rw [e2] at q; exact fun cls dx G' H' R' s' x => q cls dx G' H' (R'.drop hU) (s1.trans s') x
    | ok ds ρ2 =>
      rw [e2] at q
      exact fun U' G' H' vs R' s' c => q U' G' H' (.ref p :: vs) R' (s1.trans s') (.o hU (ro.mono s') c)
def sParC (is : List Nat) (fs : List (Bool × EF)) : SF := fun ρ => (evalC fs ρ).bnd fun ds ρ' => .ok .nx (setSl ρ' is (fs.map (·.1)) ds)
theorem j_parC2 {i j : Nat} {x y : Str} {a b : Expr} {f g : Bool × EF} {px py pt pos : Pos} {kt k2 pt2} (hc : X.calm = true) (hN : X.N.Nodup) (ha : JC X T W [a, b] [f, g]) (hij : i ≠ j := by decide) (hi : X.N[i]? = some x := by rfl) (hj : X.N[j]? = some y := by rfl)
    (hx : X.env.scope.names.lookup x = some .local := by rfl) (hy : X.env.scope.names.lookup y = some .local := by rfl)
    (hw : swappedStores [.Tuple [.Name x px, .Name y py] kt pt] (.Tuple [a, b] k2 pt2) X.env = pure (some [x, y]) := by rfl)
    (hs : swapsWithSole [.Tuple [.Name x px, .Name y py] kt pt] (.Tuple [a, b] k2 pt2) pos.line X.env = pure false := by rfl) :
    JS X T W [i, j] (.Assign [.Tuple [.Name x px, .Name y py] kt pt] (.Tuple [a, b] k2 pt2) pos) (sParC [i, j] [f, g]) := by
  refine ⟨ha.k, ps_imp (ps_par hc hN hi hj hij hx hy ha.run hw hs) fun D σ H ⟨U, G, ρ, R, q⟩ => ⟨U, G, ρ, R, ?_⟩⟩
  unfold sParC at q
  cases e : evalC [f, g] ρ with
  | bad => rw [e] at q; exact q.elim
  | ex c ns vs ρ' => rw [e] at q; exact fun cls dx G' H' R' s' x => q cls dx σ G' H' R' s' (Keeps.refl _ _) x
  | ok ds ρ' =>
    rw [e] at q
    intro U' G' H' vs R' s' c
    have hl : vs.length = 2 := by
      exact c.length
    match vs, hl with
    | [v, w], _ =>
      have R2 := c.set (is := [i, j]) rfl R'
      refine ⟨v, w, rfl, ?_⟩
      have e2 : (σ.set i (some v)).set j (some w) = setV σ [i, j] [v, w] := List.set_comm _ _ hij
      rw [e2]
      refine q _ G' H' R2 s' ?_
      rw [← e2]
      exact (Keeps.set.mono (by simp)).trans (Keeps.set.mono (by simp))
theorem j_parC3 {i j l : Nat} {x y z : Str} {a b c : Expr} {f g h : Bool × EF} {px py pz pt pos : Pos} {kt k2 pt2} (hc : X.calm = true) (hN : X.N.Nodup) (ha : JC X T W [a, b, c] [f, g, h]) (hij : i ≠ j := by decide) (hil : i ≠ l := by decide) (hjl : j ≠ l := by decide) (hi : X.N[i]? = some x := by rfl) (hj : X.N[j]? = some y := by rfl) (hl : X.N[l]? = some z := by rfl)
    (hx : X.env.scope.names.lookup x = some .local := by rfl) (hy : X.env.scope.names.lookup y = some .local := by rfl) (hz : X.env.scope.names.lookup z = some .local := by rfl)
    (hw : swappedStores [.Tuple [.Name x px, .Name y py, .Name z pz] kt pt] (.Tuple [a, b, c] k2 pt2) X.env = pure (some [x, y, z]) := by rfl)
    (hs : swapsWithSole [.Tuple [.Name x px, .Name y py, .Name z pz] kt pt] (.Tuple [a, b, c] k2 pt2) pos.line X.env = pure false := by rfl) :
    JS X T W [i, j, l] (.Assign [.Tuple [.Name x px, .Name y py, .Name z pz] kt pt] (.Tuple [a, b, c] k2 pt2) pos) (sParC [i, j, l] [f, g, h]) := by
  refine ⟨ha.k, ps_imp (ps_par3 hc hN hi hj hl hij hil hjl hx hy hz ha.run hw hs) fun D σ H ⟨U, G, ρ, R, q⟩ => ⟨U, G, ρ, R, ?_⟩⟩
  unfold sParC at q
  cases e : evalC [f, g, h] ρ with
  | bad => rw [e] at q; exact q.elim
  | ex c ns vs ρ' => rw [e] at q; exact fun cls dx G' H' R' s' x => q cls dx σ G' H' R' s' (Keeps.refl _ _) x
  | ok ds ρ' =>
    rw [e] at q
    intro U' G' H' vs R' s' c
    have hl : vs.length = 3 := by
      exact c.length
    match vs, hl with
    | [v, w, u], _ =>
      have R2 := c.set (is := [i, j, l]) rfl R'
      refine ⟨v, w, u, rfl, ?_⟩
      have e2 : ((σ.set i (some v)).set j (some w)).set l (some u) = setV σ [i, j, l] [v, w, u] := by
        show _ = ((σ.set l (some u)).set j (some w)).set i (some v)
        rw [List.set_comm (some v) (some w) hij, List.set_comm (some v) (some u) hil, List.set_comm (some w) (some u) hjl]
      rw [e2]
      refine q _ G' H' R2 s' ?_
      rw [← e2]
      exact ((Keeps.set.mono (by simp)).trans (Keeps.set.mono (by simp))).trans (Keeps.set.mono (by simp))
end
end J

set_option Elab.async false
set_option linter.all false
set_option maxRecDepth 100000
set_option maxHeartbeats 4000000
namespace J
open PySem PySem.Spec PyProof.Rows L2

/-! ### dicts with whole numbers and texts as keys, as data -/
def sameK : D → D → Bool
  | .int i, .int j => decide (i = j)
  | .str s, .str t => decide (s = t)
  | _, _ => false
def isKey : D → Bool
  | .int _ => true
  | .str _ => true
  | _ => false
def dLook (y : D) : List D → List D → Option D
  | k :: ks, v :: vs => if sameK k y = true then some v else dLook y ks vs
  | _, _ => none
def dPutK (y : D) : List D → List D
  | k :: ks => if sameK k y = true then k :: ks else k :: dPutK y ks
  | [] => [y]
def dPutV (y v : D) : List D → List D → List D
  | k :: ks, w :: vs => if sameK k y = true then v :: vs else w :: dPutV y v ks vs
  | _, _ => [v]
theorem keyD_key {d : D} {k : Key} (h : keyD d = some k) : isKey d = true ∧ ∀ (T : Tab) (G : Hp), Rep T G (kV k) d := by
  cases d <;> simp only [keyD] at h <;> first | (cases h; done) | skip
  · cases h; exact ⟨rfl, fun T G => rfl⟩
  · split at h
    · rename_i o
      cases h; exact ⟨rfl, fun T G => ⟨rfl, o⟩⟩
    · cases h
theorem rep_key {T : Tab} {G : Hp} {v : V} {d : D} (r : Rep T G v d) (h : isKey d = true) : ∃ k, keyD d = some k ∧ v = kV k := by
  cases d <;> simp only [isKey] at h <;> first | (cases h; done) | skip
  · exact ⟨.inl _, rfl, r⟩
  · rename_i s
    obtain ⟨e, o⟩ := r
    exact ⟨.inr s, if_pos o, e⟩
theorem sameK_iff {a b : D} {k l : Key} (ha : keyD a = some k) (hb : keyD b = some l) : sameK a b = true ↔ k = l := by
  cases a <;> simp only [keyD] at ha <;> first | (cases ha; done) | skip
  · cases ha
    cases b <;> simp only [keyD] at hb <;> first | (cases hb; done) | skip
    · cases hb; simp [sameK]
    · split at hb
      · cases hb; simp [sameK]
      · cases hb
  · split at ha
    · cases ha
      cases b <;> simp only [keyD] at hb <;> first | (cases hb; done) | skip
      · cases hb; simp [sameK]
      · split at hb
        · cases hb; simp [sameK]
        · cases hb
    · cases ha
/-- how a dict's pairs lie -/
def KOk (T : Tab) (G : Hp) (kk : List (Key × V)) (ks vs : List D) : Prop := kk.map (fun p => some p.1) = ks.map keyD ∧ (kk.map (·.1)).Nodup ∧ Reps T G (kk.map (·.2)) vs
section
variable {T : Tab} {G : Hp} {y d : D} {k : Key} {v : V}
theorem KOk.mono {G' : Hp} {kk : List (Key × V)} {ks vs : List D} (h : KOk T G kk ks vs) (s : L2.Same G G') : KOk T G' kk ks vs := ⟨h.1, h.2.1, h.2.2.mono s⟩
theorem KOk.nil : KOk T G [] [] [] := ⟨rfl, List.nodup_nil, rfl⟩
theorem KOk.len {kk : List (Key × V)} {ks vs : List D} (h : KOk T G kk ks vs) : kk.length = ks.length ∧ kk.length = vs.length := by
  refine ⟨?_, ?_⟩
  · simpa using congrArg List.length h.1
  · simpa using h.2.2.length
theorem KOk.uncons {p : Key × V} {kk : List (Key × V)} {ks vs : List D} (h : KOk T G (p :: kk) ks vs) : ∃ a ks' b vs', ks = a :: ks' ∧ vs = b :: vs' ∧ keyD a = some p.1 ∧ Rep T G p.2 b ∧ p.1 ∉ kk.map (·.1) ∧ KOk T G kk ks' vs' := by
  obtain ⟨h1, h2, h3⟩ := h
  cases ks with
  | nil => cases h1
  | cons a ks' =>
    simp only [List.map_cons, List.cons.injEq] at h1
    cases vs with
    | nil => cases h3
    | cons b vs' =>
      obtain ⟨x, r, e, rx, rr⟩ := h3
      simp only [List.map_cons, List.cons.injEq] at e
      obtain ⟨rfl, rfl⟩ := e
      have h2' := List.nodup_cons.mp h2
      exact ⟨a, ks', b, vs', rfl, rfl, h1.1.symm, rx, h2'.1, h1.2, h2'.2, rr⟩
theorem look_dk (hy : keyD y = some k) : ∀ {kk : List (Key × V)} {ks vs : List D}, KOk T G kk ks vs → match dLook y ks vs with
    | some e => ∃ v, valV kk k = some v ∧ Rep T G v e
    | none => valV kk k = none
  | [], ks, vs, h => by
    have hl := h.len.1
    cases ks with
    | nil => exact valV_nil
    | cons => cases hl
  | p :: kk, ks, vs, h => by
    obtain ⟨a, ks', b, vs', rfl, rfl, ka, rb, _, h'⟩ := h.uncons
    have iff := sameK_iff ka hy
    by_cases hs : sameK a y = true
    · simp only [dLook, if_pos hs]
      exact ⟨p.2, valV_pos (iff.mp hs), rb⟩
    · simp only [dLook, if_neg hs]
      rw [valV_neg (fun z => hs (iff.mpr z))]
      exact look_dk hy h'
theorem putK_cons {p : Key × V} {kk : List (Key × V)} (hn : p.1 ∉ kk.map (·.1)) : putK (p :: kk) k v = if p.1 = k then (p.1, v) :: kk else p :: putK kk k v := by
  by_cases hp : p.1 = k
  · rw [if_pos hp]
    unfold putK
    rw [if_pos (by simp [hp]), List.map_cons, if_pos hp, ← hp]
    congr 1
    refine (List.map_congr_left fun q hq => ?_).trans (List.map_id _)
    exact if_neg fun z => hn (by rw [← z]; exact List.mem_map_of_mem hq)
  · rw [if_neg hp]
    unfold putK
    simp only [List.any_cons, hp, decide_false, Bool.false_or]
    split
    · rw [List.map_cons, if_neg hp]
    · rfl
theorem putK_keys : ∀ {kk : List (Key × V)}, (kk.map (·.1)).Nodup → ∀ q, q ∈ (putK kk k v).map (·.1) → q = k ∨ q ∈ kk.map (·.1)
  | [], _, q, h => by
    have : q ∈ [k] := h
    exact .inl (by simpa using this)
  | p :: kk, hn, q, h => by
    have hn' := List.nodup_cons.mp hn
    rw [putK_cons hn'.1] at h
    split at h
    · rename_i hp
      exact .inr h
    · rcases List.mem_cons.mp h with e | h
      · exact .inr (by rw [e]; exact List.mem_cons_self)
      · rcases putK_keys hn'.2 q h with e | e
        · exact .inl e
        · exact .inr (List.mem_cons_of_mem _ e)
theorem put_dk (hy : keyD y = some k) (rv : Rep T G v d) : ∀ {kk : List (Key × V)} {ks vs : List D}, KOk T G kk ks vs → KOk T G (putK kk k v) (dPutK y ks) (dPutV y d ks vs)
  | [], ks, vs, h => by
    have hl := h.len
    cases ks with
    | cons => cases hl.1
    | nil =>
      cases vs with
      | cons => cases hl.2
      | nil => exact ⟨by show [some k] = [keyD y]; rw [hy], List.nodup_cons.mpr ⟨List.not_mem_nil, List.nodup_nil⟩, .one rv⟩
  | p :: kk, ks, vs, h => by
    obtain ⟨a, ks', b, vs', rfl, rfl, ka, rb, hn, h'⟩ := h.uncons
    have iff := sameK_iff ka hy
    rw [putK_cons hn]
    by_cases hs : sameK a y = true
    · have hp := iff.mp hs
      rw [if_pos hp]
      simp only [dPutK, dPutV, if_pos hs]
      refine ⟨?_, List.nodup_cons.mpr ⟨hn, h'.2.1⟩, v, _, rfl, rv, h'.2.2⟩
      show some p.1 :: kk.map _ = keyD a :: ks'.map keyD
      rw [ka, h'.1]
    · have hp : ¬ p.1 = k := fun z => hs (iff.mpr z)
      rw [if_neg hp]
      simp only [dPutK, dPutV, if_neg hs]
      obtain ⟨q1, q2, q3⟩ := put_dk hy rv h'
      refine ⟨?_, ?_, p.2, _, rfl, rb, q3⟩
      · show some p.1 :: (putK kk k v).map _ = keyD a :: (dPutK y ks').map keyD
        rw [ka, q1]
      · refine List.nodup_cons.mpr ⟨fun z => ?_, q2⟩
        rcases putK_keys h'.2.1 _ z with e | e
        · exact hp e
        · exact hn e
end
theorem RepH.kok {T : Tab} {G H : Hp} {v : V} {ks vs : List D} (s : L2.Same G H) (h : RepH T G H v (.dct ks vs)) : ∃ a kk, v = .ref a ∧ Rd H a (.dK kk) ∧ KOk T G kk ks vs := by
  obtain ⟨a, kk, e, q, k1, k2, k3⟩ := h.dct s
  exact ⟨a, kk, e, q, k1, k2, k3⟩

/-! ### d[k], k in d -/
def dgetD : D → D → Option D
  | .dct ks vs, y => if isKey y = true then dLook y ks vs else none
  | _, _ => none
def rDGet : R2 := fun x y H Q => ∃ a v, x = .ref a ∧ DGet H a y (some v) ∧ Q v H
theorem RepH.key {T : Tab} {G H : Hp} {v : V} {d : D} (r : RepH T G H v d) (h : isKey d = true) : ∃ k, keyD d = some k ∧ v = kV k := by
  rcases r with r | ⟨p, o, _, _, r⟩
  · exact rep_key r h
  · cases d <;> first | exact r.elim | cases h
section
variable {X : Cx} {T : Tab} {W : WX} {a b : Expr} {pos p apos cpos : Pos} {fa fb : En → Rs Ar}
theorem dget_J : Op2 T rDGet dgetD := by
  intro U G H σ ρ x y d e c Q R rx ry hg q
  unfold dgetD at hg
  split at hg
  · rename_i ks vs
    split at hg
    · rename_i hk
      obtain ⟨a, kk, rfl, hh, ok⟩ := rx.kok R.same
      obtain ⟨k, ke, rfl⟩ := ry.key hk
      have l := look_dk ke ok
      rw [hg] at l
      obtain ⟨v, e1, r⟩ := l
      exact ⟨a, v, rfl, .inl ⟨kk, k, hh, rfl, e1.symm⟩, q v G H R (L2.Same.refl _) r⟩
    · cases hg
  · cases hg
theorem j_dget (hu : X.A.units + 1 < cLine) (ha : JR X T W a fa) (hb : JR X T W b fb) (hs : NoSl b := by exact fun _ _ => rfl) : JE X T W (.Subscript a b pos) (f2 dgetD fa fb) :=
  ⟨ha.k, pe_imp (pe_dget hu ha.run hb.run hs) (op2_run (a := a) (b := b) dget_J rfl rfl)⟩
def dinD (neg : Bool) : D → D → Option D
  | y, .dct ks vs => if isKey y = true then some (.bl (if neg = true then !(dLook y ks vs).isSome else (dLook y ks vs).isSome)) else none
  | _, _ => none
def rDIn (neg : Bool) : R2 := fun y x H Q => ∃ a o, x = .ref a ∧ DGet H a y o ∧ Q (.bl (if neg = true then !o.isSome else o.isSome)) H
theorem din_J (neg : Bool) : Op2 T (rDIn neg) (dinD neg) := by
  intro U G H σ ρ y x e d c Q R ry rx hg q
  unfold dinD at hg
  split at hg
  · rename_i ks vs
    split at hg
    · rename_i hk
      cases hg
      obtain ⟨a, kk, rfl, hh, ok⟩ := rx.kok R.same
      obtain ⟨k, ke, rfl⟩ := ry.key hk
      have l := look_dk ke ok
      refine ⟨a, valV kk k, rfl, .inl ⟨kk, k, hh, rfl, rfl⟩, q _ G H R (L2.Same.refl _) ?_⟩
      have e : (valV kk k).isSome = (dLook e ks vs).isSome := by
        cases hl : dLook e ks vs with
        | none => rw [hl] at l; dsimp only at l; rw [l]; rfl
        | some z => rw [hl] at l; obtain ⟨v, e1, _⟩ := l; rw [e1]; rfl
      rw [e]; rfl
    · cases hg
  · cases hg
theorem jeInD (hu : X.A.units + 1 < cLine) (ha : JR X T W a fa) (hb : JR X T W b fb) (hm : behindInMarks .In b = false := by rfl) : JE X T W (.Compare a [.In] [b] pos) (f2 (dinD false) fa fb) :=
  ⟨ha.k, pe_imp (pe_cmp (pc_din hu ha.run hb.run) hm) (op2_run (a := a) (b := b) (din_J false) rfl rfl)⟩
theorem jeNotInD (hu : X.A.units + 1 < cLine) (ha : JR X T W a fa) (hb : JR X T W b fb) (hm : behindInMarks .NotIn b = false := by rfl) : JE X T W (.Compare a [.NotIn] [b] pos) (f2 (dinD true) fa fb) :=
  ⟨ha.k, pe_imp (pe_cmp (pc_dnotin hu ha.run hb.run) hm) (op2_run (a := a) (b := b) (din_J true) rfl rfl)⟩
theorem jtInD (hu : X.A.units + 1 < cLine) (ha : JR X T W a fa) (hb : JR X T W b fb) (hm : behindInMarks .In b = false := by rfl) : JT X T W (.Compare a [.In] [b] pos) (tB (f2 (dinD false) fa fb)) :=
  ⟨ha.k, pt_imp (pt_cmp (pc_din hu ha.run hb.run) hm) fun σ H Q q => tB_run (t := tOp (rDIn false) (tR T W fa) (tR T W fb)) (op2_run (a := a) (b := b) (din_J false) rfl rfl) σ H Q q⟩
theorem jtNotInD (hu : X.A.units + 1 < cLine) (ha : JR X T W a fa) (hb : JR X T W b fb) (hm : behindInMarks .NotIn b = false := by rfl) : JT X T W (.Compare a [.NotIn] [b] pos) (tB (f2 (dinD true) fa fb)) :=
  ⟨ha.k, pt_imp (pt_cmp (pc_dnotin hu ha.run hb.run) hm) fun σ H Q q => tB_run (t := tOp (rDIn true) (tR T W fa) (tR T W fb)) (op2_run (a := a) (b := b) (din_J true) rfl rfl) σ H Q q⟩
end

/-! ### new dicts -/
section
variable {X : Cx} {T : Tab} {W : WX} {a b e f : Expr} {pos p apos cpos : Pos} {fa fb : En → Rs Ar}
def eNewD : EF := fun ρ => .ok (.dct [] []) ρ
theorem j_newD (hK : X.K = T.K) : JO X T W (.Dict [] [] pos) eNewD := by
  refine ⟨hK, pe_imp pe_dnewK fun σ H Q ⟨U, G, ρ, R, q⟩ => fun a ha => ?_⟩
  obtain ⟨R', hn⟩ := R.fresh (o := .dK []) ha
  exact q G _ R' (L2.Same.refl _) a _ (R.gfree ha) (R.ufree ha) upd_same ⟨[], rfl, rfl, List.nodup_nil, rfl⟩ hn
/-- the pairs of a display -/
def evalPs : List (EF × EF) → En → Rs (List (D × D))
  | [], ρ => .ok [] ρ
  | (f, g) :: r, ρ => (f ρ).bnd fun k ρ1 => (g ρ1).bnd fun v ρ2 => (evalPs r ρ2).bnd fun ps ρ3 => .ok ((k, v) :: ps) ρ3
def dMerge : List (D × D) → List D → List D → List D × List D
  | [], ks, vs => (ks, vs)
  | (k, v) :: r, ks, vs => dMerge r (dPutK k ks) (dPutV k v ks vs)
def dictOf (ps : List (D × D)) : Option D := if (ps.all fun p => isKey p.1) = true then some (.dct (dMerge ps [] []).1 (dMerge ps [] []).2) else none
def eDisp (fs : List (EF × EF)) : EF := fun ρ => (evalPs fs ρ).bnd fun ps ρ' => opt (dictOf ps) ρ'
structure JPs (X : Cx) (T : Tab) (W : WX) (pos : Pos) (keys : List (Option Expr)) (values : List Expr) (fs : List (EF × EF)) : Prop where
  run : ∃ trs : List (TE × TE), PPs X pos keys values trs ∧ ∀ (U G H : Hp) (σ : L2.St) (ρ : En) (Q : List (V × V) → Hp → Prop), Rel T U G H σ ρ → Pst T U σ G (evalPs fs ρ) (fun ps G' H' _ => ∀ vs, vs.length = ps.length → Reps T G' (vs.map (·.1)) (ps.map (·.1)) → Reps T G' (vs.map (·.2)) (ps.map (·.2)) → Q vs H') W → tPairs trs σ H Q
theorem jps_nil : JPs X T W pos [] [] [] := ⟨[], pps_nil, fun U G H σ ρ Q R q => q G H R (L2.Same.refl _) [] rfl rfl rfl⟩
theorem jps_cons {k v : Expr} {ks : List (Option Expr)} {vs : List Expr} {f g : EF} {fs : List (EF × EF)} (hk : JE X T W k f) (hv : JE X T W v g) (h : JPs X T W pos ks vs fs) : JPs X T W pos (some k :: ks) (v :: vs) ((f, g) :: fs) := by
  obtain ⟨trs, hp, hr⟩ := h.run
  refine ⟨_, pps_cons hk.run hv.run hp, fun U G H σ ρ Q R q => ?_⟩
  refine ⟨U, G, ρ, R, (Pst.bnd q).mono (L2.Same.refl _) fun dk G1 H1 ρ1 _ ⟨R1, s1, p1⟩ x rx => ?_⟩
  refine ⟨U, G1, ρ1, R1, (Pst.bnd p1).mono (L2.Same.refl _) fun dv G2 H2 ρ2 _ ⟨R2, s2, p2⟩ y ry => ?_⟩
  refine hr U G2 H2 σ ρ2 _ R2 ((Pst.bnd p2).mono (L2.Same.refl _) fun ps G3 H3 ρ3 _ ⟨R3, s3, p3⟩ us hl h1 h2 => ?_)
  exact p3 G3 H3 R3 (L2.Same.refl _) ((x, y) :: us) (by simp [hl]) ⟨x, _, rfl, rx.mono (s2.trans s3), h1⟩ ⟨y, _, rfl, ry.mono s3, h2⟩
theorem merge_dk {G : Hp} : ∀ {ps : List (D × D)} {kvs : List (Key × V)}, ps.map (fun p => keyD p.1) = kvs.map (fun p => some p.1) → Reps T G (kvs.map (·.2)) (ps.map (·.2)) → ∀ {kk : List (Key × V)} {ks vs : List D}, KOk T G kk ks vs → KOk T G (mergeK kk kvs) (dMerge ps ks vs).1 (dMerge ps ks vs).2
  | [], [], _, _, kk, ks, vs, h => h
  | [], _ :: _, h, _, _, _, _, _ => by cases h
  | _ :: _, [], h, _, _, _, _, _ => by cases h
  | (k, v) :: ps, p :: kvs, h, r, kk, ks, vs, ok => by
    simp only [List.map_cons, List.cons.injEq] at h
    obtain ⟨x, rest, e, rx, rr⟩ := r
    simp only [List.map_cons, List.cons.injEq] at e
    obtain ⟨rfl, rfl⟩ := e
    exact merge_dk h.2 rr (put_dk h.1 rx ok)
theorem keys_of {G : Hp} : ∀ {ps : List (D × D)} {vs : List (V × V)}, vs.length = ps.length → (ps.all fun p => isKey p.1) = true → Reps T G (vs.map (·.1)) (ps.map (·.1)) → Reps T G (vs.map (·.2)) (ps.map (·.2)) →
    ∃ kvs : List (Key × V), vs = kvs.map (fun kv => (kV kv.1, kv.2)) ∧ ps.map (fun p => keyD p.1) = kvs.map (fun p => some p.1) ∧ Reps T G (kvs.map (·.2)) (ps.map (·.2))
  | [], [], _, _, _, _ => ⟨[], rfl, rfl, rfl⟩
  | [], _ :: _, h, _, _, _ => by cases h
  | _ :: _, [], h, _, _, _ => by cases h
  | (k, v) :: ps, (x, y) :: vs, h, hk, r1, r2 => by
    obtain ⟨a, b, e1, rx, r1'⟩ := r1
    obtain ⟨c, d, e2, ry, r2'⟩ := r2
    simp only [List.map_cons, List.cons.injEq] at e1 e2
    obtain ⟨rfl, rfl⟩ := e1
    obtain ⟨rfl, rfl⟩ := e2
    simp only [List.all_cons, Bool.and_eq_true] at hk
    obtain ⟨kk, ke, rfl⟩ := rep_key rx hk.1
    obtain ⟨kvs, f1, f2, f3⟩ := keys_of (by simpa using h) hk.2 r1' r2'
    exact ⟨(kk, y) :: kvs, by rw [f1]; rfl, by simp only [List.map_cons, ke, f2], y, _, rfl, ry, f3⟩
theorem j_disp {keys : List (Option Expr)} {values : List Expr} {fs : List (EF × EF)} (hK : X.K = T.K) (h : JPs X T W pos keys values fs) (hall : keys.all (·.isSome) = true := by rfl) (hl : keys.length = values.length := by rfl) (h0 : keys ≠ [] := by exact fun h => by cases h) (h15 : keys.length ≤ 15 := by decide) (hfs : fs.length ≤ 15 := by decide) : JO X T W (.Dict keys values pos) (eDisp fs) := by
  obtain ⟨trs, hp, hr⟩ := h.run
  refine ⟨hK, pe_imp (pe_disp hp hall hl h0 h15) fun σ H Q ⟨U, G, ρ, R, q⟩ => fun a ha => ?_⟩
  have RU := R.hold (o := .dK []) ha
  have hlen : ∀ (fs : List (EF × EF)) (ρ ρ' : En) (ps : List (D × D)), evalPs fs ρ = .ok ps ρ' → ps.length = fs.length := by
    intro fs
    induction fs with
    | nil => intro ρ ρ' ps h; cases h; rfl
    | cons fg r ih =>
      intro ρ ρ' ps h
      obtain ⟨f, g⟩ := fg
      simp only [evalPs] at h
      cases h1 : f ρ with
      | ok k ρ1 =>
        rw [h1] at h
        simp only [Rs.bnd_ok] at h
        cases h2 : g ρ1 with
        | ok v ρ2 =>
          rw [h2] at h
          simp only [Rs.bnd_ok] at h
          cases h3 : evalPs r ρ2 with
          | ok ps' ρ3 => rw [h3] at h; simp only [Rs.bnd_ok] at h; cases h; simp [ih _ _ _ h3]
          | ex => rw [h3] at h; cases h
          | bad => rw [h3] at h; cases h
        | ex => rw [h2] at h; cases h
        | bad => rw [h2] at h; cases h
      | ex => rw [h1] at h; cases h
      | bad => rw [h1] at h; cases h
  refine hr _ G _ σ ρ _ RU ?_
  have q' := Pst.bnd q
  cases he : evalPs fs ρ with
  | ok ps ρ' =>
    rw [he] at q'
    intro G' H' R' s vs hvl r1 r2
    have hU := R'.out a _ upd_same
    have R0 : Rel T U G' H' σ ρ' := unheld_upd (R.ufree ha) ▸ R'.unhold (p := a)
    obtain ⟨_, _, p2⟩ := q' G' H' R0 s
    obtain ⟨d, e1, p3⟩ := Pst.opt p2
    unfold dictOf at e1
    split at e1
    · rename_i hk
      cases e1
      obtain ⟨kvs, rfl, e2, e3⟩ := keys_of hvl hk r1 r2
      refine ⟨hU.1, kvs, rfl, ?_, ?_⟩
      · have := hlen _ _ _ _ he
        rw [List.length_map] at hvl
        omega
      · have R2 : Rel T U G' (upd H' a (.dK (mergeK [] kvs))) σ ρ' := by
          have := (R'.held (o' := .dK (mergeK [] kvs)) upd_same).unhold (p := a)
          have e4 : unheld (upd (upd U a (.dK [])) a (.dK (mergeK [] kvs))) a = U := by
            funext b
            by_cases hb : b = a
            · subst hb; rw [unheld_same, R.ufree ha]
            · rw [unheld_ne hb, upd_ne hb, upd_ne hb]
          exact e4 ▸ this
        obtain ⟨q1, q2, q3⟩ := merge_dk e2 e3 KOk.nil
        refine p3 G' _ R2 (L2.Same.refl _) a _ hU.2 (R.ufree ha) upd_same ⟨_, rfl, q1, q2, q3⟩ fun i d hi hz => ?_
        obtain ⟨a2, o2, e5, _, u5, _⟩ := R'.ow i d hi
        rw [hz] at e5
        cases e5
        rw [upd_same] at u5
        cases u5
    · cases e1
  | ex c ns vs ρ' =>
    rw [he] at q'
    exact fun cls dx G' H' R' s x => q' cls dx G' H' (unheld_upd (R.ufree ha) ▸ R'.unhold (p := a)) s x
  | bad => rw [he] at q'; exact q'.elim
end

/-! ### d.get(k, x), d[k] = v -/
section
variable {X : Cx} {T : Tab} {W : WX} {a b e f : Expr} {pos pos' p apos cpos : Pos} {fa fb : En → Rs Ar}
def eGet2 (fo : En → Rs Ar) (fe fx : EF) : EF := fun ρ => (fo ρ).bnd fun a ρ1 => match look ρ1 a with
  | some (.dct _ _) => (fe ρ1).bnd fun y ρ2 => (fx ρ2).bnd fun z ρ3 => (match look ρ3 a with
    | some (.dct ks vs) => if isKey y = true then .ok ((dLook y ks vs).getD z) ρ3 else .bad
    | _ => .bad)
  | _ => .bad
theorem jGet2 {fe fx : EF} (hu : X.A.units + 1 < cLine) (ho : JR X T W a fa) (he : JE X T W e fe) (hf : JE X T W f fx) (hbase : attributeBase a "get" X.env (eval a X.env) = eval a X.env := by rfl)
    (hfew : ((backTo cpos (starEach [e, f] X.env)).all (fun x => !x.1) && (backToKw cpos (keywordEach [] X.env)).all (fun x => x.1.isSome)
      && decide (([e, f] : List Expr).length + ([] : List Keyword).length + (if ([] : List Keyword).isEmpty then 0 else 1) < 30)) = true := by rfl) (hline : (apos.endLine == cpos.line) = true := by rfl)
    (htr : backTo cpos (starEach [e, f] X.env) = [(false, eval e X.env), (false, eval f X.env)] := by rfl) : JE X T W (.Call (.Attribute a "get" apos) [e, f] [] cpos) (eGet2 fa fe fx) := by
  refine ⟨ho.k, pe_imp (pe_dget2 hu ho.run he.run hf.run ⟨hbase, hfew, hline, htr⟩) fun σ H Q ⟨U, G, ρ, R, q⟩ => ⟨U, G, ρ, R, ?_⟩⟩
  refine (Pst.bnd q).mono (L2.Same.refl _) fun x G1 H1 ρ1 _ ⟨R1, s1, p1⟩ v av => ?_
  split at p1
  · rename_i ks0 vs0 e0
    obtain ⟨d, kk0, rfl, h0, _⟩ := (look_ok R1 av e0).kok R1.same
    refine ⟨d, rfl, .inl ⟨kk0, h0⟩, U, G1, ρ1, R1, (Pst.bnd p1).mono (L2.Same.refl _) fun y G2 H2 ρ2 _ ⟨R2, s2, p2⟩ u ru => ?_⟩
    refine ⟨U, G2, ρ2, R2, (Pst.bnd p2).mono (L2.Same.refl _) fun z G3 H3 ρ3 _ ⟨R3, s3, p3⟩ w rw_ => ?_⟩
    split at p3
    · rename_i ks vs e1
      split at p3
      · rename_i hk
        obtain ⟨d', kk, e2, h1, ok⟩ := (look_ok R3 (av.mono (s2.trans s3)) e1).kok R3.same
        cases e2
        obtain ⟨k, ke, rfl⟩ := rep_key ru hk
        have l := look_dk ke ok
        refine ⟨_, .inl ⟨kk, k, h1, rfl, rfl⟩, p3 G3 H3 R3 (L2.Same.refl _) _ ?_⟩
        cases hl : dLook y ks vs with
        | none => rw [hl] at l; dsimp only at l; rw [l]; exact rw_
        | some z2 => rw [hl] at l; obtain ⟨v2, e3, r3⟩ := l; rw [e3]; exact r3
      · exact p3.elim
    · exact p3.elim
  · exact p1.elim
def ownD (ρ : En) (i : Nat) : Option (List D × List D) := match (ρ[i]? : Option Sl) with
  | some (Sl.ow (D.dct ks vs)) => some (ks, vs)
  | _ => none
theorem ownD_ok {ρ : En} {i : Nat} {ks vs : List D} (h : ownD ρ i = some (ks, vs)) : ρ[i]? = some (.ow (.dct ks vs)) := by
  unfold ownD at h
  split at h
  · rename_i e; cases h; exact e
  · cases h
/-- d[k] = e, d an owned dict -/
def sPutD (i : Nat) (f h : EF) : SF := fun ρ => (f ρ).bnd fun d ρ1 => match ownD ρ1 i with
  | some _ => (h ρ1).bnd fun y ρ2 => (match ownD ρ2 i with
    | some (ks, vs) => if isKey y = true ∧ ks.length < 1000000 then .ok .nx (ρ2.set i (.ow (.dct (dPutK y ks) (dPutV y d ks vs)))) else .bad
    | none => .bad)
  | none => .bad
theorem j_putD {i : Nat} {x : Str} {f h : EF} {k : Expr} (hu : X.A.units + 1 < cLine) (he : JE X T W e f) (hk : JE X T W k h) (hN : X.N[i]? = some x := by rfl) (hs : swapsWith e (some (.Subscript (.Name x p) k pos')) pos.line X.env = pure false := by rfl)
    (hv : Vis X.env.scope x := by first | exact Or.inl rfl | exact Or.inr (Or.inl rfl) | exact Or.inr (Or.inr rfl)) (hd : (x == ("__debug__" : Str)) = false := by decide)
    (hcd : (x == ("__classdict__" : Str)) = false := by decide) : JS X T W [] (.Assign [.Subscript (.Name x p) k pos'] e pos) (sPutD i f h) := by
  refine ⟨he.k, ps_imp (ps_dput hu (pe_var hN hv hd hcd) hk.run he.run hs) fun D σ H ⟨U, G, ρ, R, q⟩ => ⟨U, G, ρ, R, ?_⟩⟩
  refine (PstS.bndE q).mono (L2.Same.refl _) fun d G1 H1 ρ1 _ ⟨R1, s1, p1⟩ v rv => ?_
  cases e1 : ownD ρ1 i with
  | none => rw [e1] at p1; exact p1.elim
  | some z =>
    rw [e1] at p1
    obtain ⟨ks0, vs0⟩ := z
    dsimp only at p1
    obtain ⟨q, o, eσ, g0, u0, hh, r0⟩ := R1.ow i _ (ownD_ok e1)
    refine ⟨_, eσ, U, G1, ρ1, R1, (PstS.bndE p1).mono (L2.Same.refl _) fun y G2 H2 ρ2 _ ⟨R2, s2, p2⟩ u ru => ?_⟩
    split at p2
    · rename_i ks vs e2
      split at p2
      · rename_i hc
        obtain ⟨q', o', eσ', g1, u1, hh1, r1⟩ := R2.ow i _ (ownD_ok e2)
        rw [eσ] at eσ'
        cases eσ'
        obtain ⟨kk, rfl, k1, k2, k3⟩ := r1
        obtain ⟨kx, ke, rfl⟩ := rep_key ru hc.1
        have ok : KOk T G2 kk ks vs := ⟨k1, k2, k3⟩
        obtain ⟨n1, n2, n3⟩ := put_dk ke (rv.mono s2) ok
        refine ⟨q, _, rfl, .inl ⟨kk, kx, hh1, rfl, ?_, rfl⟩, ?_⟩
        · rw [ok.len.1, sizeLine_eq]; omega
        · exact p2 σ G2 _ (R2.put (ownD_ok e2) eσ (d' := .dct (dPutK y ks) (dPutV y d ks vs)) ⟨_, rfl, n1, n2, n3⟩) (L2.Same.refl _) (Keeps.refl _ _)
      · exact p2.elim
    · exact p2.elim
end

/-! ### walks of a dict -/
theorem pe_sz {X : Cx} {e : Expr} {t : TE} (h : PE X e t) : PE X e (fun σ H Q => t σ H fun x H1 => (∀ a o kvs, H1 a = some (.frz o (.dK kvs)) → kvs.length ≤ sizeLine) → Q x H1) :=
  ⟨fun pins s σ H Q I q => thn (h.run pins s σ H _ I q) fun u s1 ⟨x, H1, I1, rx, q1⟩ => ⟨x, H1, I1, rx, q1 fun a o kvs e => (dk_rd I1.hok (.inr ⟨o, e⟩)).1⟩⟩
def dPairs : List D → List D → List D
  | k :: ks, v :: vs => .tup [k, v] :: dPairs ks vs
  | _, _ => []
theorem kok_get {T : Tab} {G : Hp} : ∀ {kk : List (Key × V)} {ks vs : List D} {i : Nat}, KOk T G kk ks vs → i < kk.length → ∃ k v a b, kk[i]? = some (k, v) ∧ ks[i]? = some a ∧ vs[i]? = some b ∧ (dPairs ks vs)[i]? = some (.tup [a, b]) ∧ Rep T G (kV k) a ∧ Rep T G v b
  | [], _, _, _, _, h => by cases h
  | p :: kk, ks, vs, i, ok, h => by
    obtain ⟨a, ks', b, vs', rfl, rfl, ka, rb, _, ok'⟩ := ok.uncons
    cases i with
    | zero => exact ⟨p.1, p.2, a, b, rfl, rfl, rfl, rfl, (keyD_key ka).2 T G, rb⟩
    | succ i =>
      obtain ⟨k, v, a2, b2, e1, e2, e3, e4, r1, r2⟩ := kok_get ok' (i := i) (by simpa using h)
      exact ⟨k, v, a2, b2, by simpa using e1, by simpa using e2, by simpa using e3, by simpa [dPairs] using e4, r1, r2⟩
theorem dPairs_len {T : Tab} {G : Hp} : ∀ {kk : List (Key × V)} {ks vs : List D}, KOk T G kk ks vs → (dPairs ks vs).length = kk.length
  | [], ks, vs, ok => by
    have := ok.len
    cases ks with
    | nil => rfl
    | cons => cases this.1
  | p :: kk, ks, vs, ok => by
    obtain ⟨a, ks', b, vs', rfl, rfl, _, _, _, ok'⟩ := ok.uncons
    simp [dPairs, dPairs_len ok']
section
variable {T : Tab} {G0 : Hp} {a : Addr} {o : Obj} {kk : List (Key × V)} {ks vs : List D}
theorem yl_items (ok : KOk T G0 kk ks vs) (h : G0 a = some (.frz o (.dK kk))) (hz : kk.length ≤ sizeLine) : Yl T G0 (Iti a o kk) (dPairs ks vs) (fun _ => True) := by
  have hl := dPairs_len ok
  refine ⟨by rw [hl]; exact hz, fun H => H a = some (.frz o (.dK kk)), _, by rw [hl]; exact walk_items, fun U' G H σ ρ R s _ => R.same _ _ (s _ _ h), fun i H x H' U' σ ρ G hi y R s => ?_⟩
  obtain ⟨q, x1, x2, rfl, hq, rfl, e1, e2⟩ := y
  obtain ⟨k, v, a1, b1, f1, _, _, f4, r1, r2⟩ := kok_get ok (i := i) (by rw [← hl]; exact hi)
  dsimp only at e1 e2
  rw [f1] at e1 e2
  cases e1
  cases e2
  have s2 := same_upd (o := .tup [kV k, v]) (R.gfree hq)
  have ss := s.trans s2
  exact ⟨_, .tup [a1, b1], R.alloc hq, s2, f4, q, _, rfl, .of upd_same, _, _, rfl, r1.mono ss, _, _, rfl, r2.mono ss, rfl⟩
theorem yl_values (ok : KOk T G0 kk ks vs) (h : G0 a = some (.frz o (.dK kk))) (hz : kk.length ≤ sizeLine) : Yl T G0 (Itd a o kk) vs (fun _ => True) := by
  have hl := ok.len.2
  refine ⟨by rw [← hl]; exact hz, fun H => H a = some (.frz o (.dK kk)), _, by rw [← hl]; exact walk_values, fun U' G H σ ρ R s _ => R.same _ _ (s _ _ h), fun i H x H' U' σ ρ G hi y R s => ?_⟩
  obtain ⟨rfl, k, e1⟩ := y
  obtain ⟨k', v, a1, b1, f1, f2, f3, _, r1, r2⟩ := kok_get ok (i := i) (by rw [hl]; exact hi)
  rw [f1] at e1
  cases e1
  exact ⟨G, b1, R, L2.Same.refl _, f3, r2.mono s⟩
theorem yl_keys (ok : KOk T G0 kk ks vs) (h : G0 a = some (.frz o (.dK kk))) (hz : kk.length ≤ sizeLine) : Yl T G0 (Itk a o kk) ks (fun _ => True) := by
  have hl := ok.len.1
  refine ⟨by rw [← hl]; exact hz, fun H => H a = some (.frz o (.dK kk)), _, by rw [← hl]; exact walk_keys, fun U' G H σ ρ R s _ => R.same _ _ (s _ _ h), fun i H x H' U' σ ρ G hi y R s => ?_⟩
  obtain ⟨rfl, k, v, e1, rfl⟩ := y
  obtain ⟨k', v', a1, b1, f1, f2, f3, _, r1, r2⟩ := kok_get ok (i := i) (by rw [hl]; exact hi)
  rw [f1] at e1
  cases e1
  exact ⟨G, a1, R, L2.Same.refl _, f2, r1.mono s⟩
end
section
variable {X : Cx} {T : Tab} {W : WX} {tg e : Expr} {pos p apos cpos : Pos}
def iItemsJ (f : EF) : LF := fun ρ => (f ρ).bnd fun d ρ' => match d with
  | .dct ks vs => .ok (dPairs ks vs) ρ'
  | _ => .bad
def iValsJ (f : EF) : LF := fun ρ => (f ρ).bnd fun d ρ' => match d with
  | .dct _ vs => .ok vs ρ'
  | _ => .bad
def iKeysJ (f : EF) : LF := fun ρ => (f ρ).bnd fun d ρ' => match d with
  | .dct ks _ => .ok ks ρ'
  | _ => .bad
theorem ji_items {f : EF} {elts : List Expr} {kk : Nat} {tpos : Pos} (h : JE X T W e f) (hbase : attributeBase e "items" X.env (eval e X.env) = eval e X.env := by rfl) (hline : (apos.endLine == cpos.line) = true := by rfl) :
    JI X T W (.Tuple elts kk tpos) (.Call (.Attribute e "items" apos) [] [] cpos) (iItemsJ f) := by
  refine ⟨h.k, pi_imp (pi_items (pe_sz h.run) hbase hline) fun σ H R ⟨U, G, ρ, R0, q⟩ => ⟨U, G, ρ, R0, (Pst.bnd q).mono (L2.Same.refl _) fun d G1 H1 ρ1 _ ⟨R1, s1, p1⟩ v rv hz => ?_⟩⟩
  split at p1
  · obtain ⟨a, kk, od, rfl, hG, k1, k2, k3⟩ := rv
    exact ⟨a, od, kk, rfl, R1.same _ _ hG, p1 G1 H1 R1 (L2.Same.refl _) _ (yl_items ⟨k1, k2, k3⟩ hG (hz _ _ _ (R1.same _ _ hG)))⟩
  · exact p1.elim
theorem ji_values {f : EF} (h : JE X T W e f) (hbase : attributeBase e "values" X.env (eval e X.env) = eval e X.env := by rfl) (hline : (apos.endLine == cpos.line) = true := by rfl) :
    JI X T W tg (.Call (.Attribute e "values" apos) [] [] cpos) (iValsJ f) := by
  refine ⟨h.k, pi_imp (pi_values (pe_sz h.run) hbase hline) fun σ H R ⟨U, G, ρ, R0, q⟩ => ⟨U, G, ρ, R0, (Pst.bnd q).mono (L2.Same.refl _) fun d G1 H1 ρ1 _ ⟨R1, s1, p1⟩ v rv hz => ?_⟩⟩
  split at p1
  · obtain ⟨a, kk, od, rfl, hG, k1, k2, k3⟩ := rv
    exact ⟨a, od, kk, rfl, R1.same _ _ hG, p1 G1 H1 R1 (L2.Same.refl _) _ (yl_values ⟨k1, k2, k3⟩ hG (hz _ _ _ (R1.same _ _ hG)))⟩
  · exact p1.elim
theorem ji_keys {f : EF} (h : JE X T W e f) : JI X T W tg e (iKeysJ f) := by
  refine ⟨h.k, pi_imp (pi_keys (pe_sz h.run)) fun σ H R ⟨U, G, ρ, R0, q⟩ => ⟨U, G, ρ, R0, (Pst.bnd q).mono (L2.Same.refl _) fun d G1 H1 ρ1 _ ⟨R1, s1, p1⟩ v rv hz => ?_⟩⟩
  split at p1
  · obtain ⟨a, kk, od, rfl, hG, k1, k2, k3⟩ := rv
    exact ⟨a, od, rfl, .inl ⟨kk, R1.same _ _ hG, p1 G1 H1 R1 (L2.Same.refl _) _ (yl_keys ⟨k1, k2, k3⟩ hG (hz _ _ _ (R1.same _ _ hG)))⟩⟩
  · exact p1.elim
end
end J

set_option Elab.async false
set_option linter.all false
set_option maxRecDepth 100000
set_option maxHeartbeats 4000000
namespace J
open PySem PySem.Spec PyProof.Rows L2 LiI

/-! ### list(d), list(d.values()), list(d.items()), dict(pairs) -/
def rKeysR : List V → Hp → VK → Prop := fun xs H Q => ∃ a kk, xs = [.ref a] ∧ Rd H a (.dK kk) ∧ ∀ q, H q = none → Q (.ref q) (upd H q (.lst (kk.map fun z => kV z.1)))
theorem call_list_keysR {X : Cx} (hc : X.calm = true) : CallR X (.type "list") rKeysR := by
  intro pins s σ H xs us Q I r ⟨a, kk, ex, hk, q⟩
  subst ex
  obtain ⟨u, rfl, rx⟩ := vals1 r
  obtain rfl : u = Value.ref a := rx
  obtain ⟨z, lo, vs, rk, hd⟩ := dk_rd I.hok hk
  obtain ⟨ep, hat⟩ := hd.dictAt
  have hl : kk.length = vs.length := Paired.length rk
  refine PySem.W.kdl_call (PySem.W.kdl_dict (knd := mixKind X.prog X.w) (kvs := vs) (ep := ep) lo) (I.ok.hd hc) hat (hl ▸ z) fun hp tk acc cc keep hS hacc => ?_
  have el : acc.toList.length = acc.size := by simp
  have hv : Vals (kk.map fun z => kV z.1) acc.toList := by
    refine vals_of_at (by rw [List.length_map, el, hacc.1, hl]) fun j x y h1 h2 => ?_
    obtain ⟨k, v2, hky, hi⟩ := hacc.2 j y (by rw [← Array.getElem?_toList]; exact h2)
    have e1 : (kk.map (·.1))[j]? = some k := by rw [KV.keys rk, List.getElem?_map, hky] <;> rfl
    rw [List.getElem?_map] at e1 h1
    cases hj : kk[j]? with
    | none => rw [hj] at e1; cases e1
    | some pr =>
      rw [hj] at e1 h1
      cases e1
      cases h1
      exact keyIs_rel hi
  have new : ObjOk X.prog X.w (upd H s.heap.objs.size (.lst (kk.map fun z => kV z.1))) hp s.heap.objs.size (.lst (kk.map fun z => kV z.1)) := ⟨by rw [List.length_map]; exact z, acc.toList, cc, hv, by rw [Array.toArray_toList]; exact hS⟩
  exact ⟨.ref s.heap.objs.size, _, I.laid keep (Nat.le_refl _) new, rfl, q _ (I.hok.fresh (Nat.le_refl _))⟩
def tLV (te : TE) : TE := fun σ H Q => te σ H fun x H1 => ∃ a kk, x = .ref a ∧ Rd H1 a (.dK kk) ∧ ∀ q, H1 q = none → Q (.ref q) (upd H1 q (.lst (kk.map fun z => z.2)))
def tLI (te : TE) : TE := fun σ H Q => te σ H fun x H1 => ∃ a kk, x = .ref a ∧ Rd H1 a (.dK kk) ∧
  ∀ (H' : Hp) (p : Addr) (ts : List Addr), (∀ b o, H1 b = some o → H' b = some o) → H1 p = none → (∀ t ∈ ts, H1 t = none) → p ∉ ts → H' p = some (.lst (ts.map V.ref)) → Paired (fun (t : Addr) (q : Key × V) => H' t = some (.tup [kV q.1, q.2])) ts kk → Q (.ref p) H'
section
variable {X : Cx} {e : Expr} {te : TE} {p apos cpos pos : Pos}
theorem pe_listVals (hc : X.calm = true) (he : PE X e te) (hg : Gl X "list") (hm : X.mg "list" = none) (hv : bootBuiltins "list" = some (.type "list")) (hbase : attributeBase e "values" X.env (eval e X.env) = eval e X.env) (hline : (apos.endLine == cpos.line) = true)
    (hs : starEach [.Call (.Attribute e "values" apos) [] [] cpos] X.env = (false, eval (.Call (.Attribute e "values" apos) [] [] cpos) X.env) :: starEach [] X.env) :
    PE X (.Call (.Name "list" p) [.Call (.Attribute e "values" apos) [] [] cpos] [] pos) (tLV te) := by
  refine ⟨fun pins s σ H Q I hq => wpAny_Call_Name_kw (ld_blt I hg hm hv (PyProof.Rows.callWith_type1 ?_ hs rfl))⟩
  rw [hs]
  show wpAny _ _ (spliced ((false, eval (.Call (.Attribute e "values" apos) [] [] cpos) X.env) :: backTo pos (starEach [] X.env))) _ _ s
  refine Calls.spliced_cons (wpAny_Call_method (T := "dict") (id := "dict.values") hbase rfl hline F.plainAttrs_dict F.slot_dict_values F.type_dict_values (thn (he.run pins s σ H _ I hq) fun u s1 ⟨x, H1, I1, rx, d, kk, ex, hd, q⟩ => ?_))
  subst ex
  obtain rfl : u = Value.ref d := rx
  obtain ⟨hz, hs0, vs, kv, hdo⟩ := dk_rd I1.hok hd
  obtain ⟨ep, hat⟩ := hdo.dictAt
  have lk : kk.length = vs.length := Paired.length kv
  have I2 : Inv X pins σ H1 { s1 with heap := s1.heap.push { cls := .type "dict_values", data := .fields #[.ref d] } } := I1.kept (t' := s1.toks) fun b ob q => Heap.get?_push_of_some _ q
  refine ⟨hdo.typeIs, hdo.mapOf.noDict, ?_⟩
  show wpAny _ _ (callWith cpos (.builtin "dict.values") [.ref d] [] []) _ X.xe s1
  refine method_meetsIn F.slot_dict_values F.entry_dict_values rfl (PySem.evalArgs_none ⟨rfl, hdo.typeIs, F.args_dict_values_1 _, _, meets_dict_values (mixKind X.prog X.w) d hs0, ⟨vs, hdo⟩, Calls.spliced_nil ?_⟩)
  refine PySem.W.kdl_call (PySem.W.kdl_values (knd := mixKind X.prog X.w) (kvs := vs) (ep := ep)) (I1.ok.hd hc) ⟨⟨_, Heap.get?_push_size _ rfl, rfl, rfl⟩, hat.push _⟩ (lk ▸ hz) fun hp tk acc cc keep hS hacc => ?_
  have el : acc.toList.length = acc.size := by simp
  have hvv : Vals (kk.map fun z => z.2) acc.toList := by
    refine vals_of_at (by rw [List.length_map, el, hacc.1, lk]) fun j x y h1 h2 => ?_
    obtain ⟨k, hky⟩ := hacc.2 j y (by rw [← Array.getElem?_toList]; exact h2)
    rw [List.getElem?_map] at h1
    cases hj : kk[j]? with
    | none => rw [hj] at h1; cases h1
    | some pr =>
      rw [hj] at h1
      cases h1
      obtain ⟨y2, f1, f2⟩ := L2.paired_get kv hj
      rw [hky] at f1
      cases f1
      exact f2.2
  have new : ObjOk X.prog X.w (upd H1 (s1.heap.push { cls := .type "dict_values", data := .fields #[.ref d] }).objs.size (.lst (kk.map fun z => z.2))) hp (s1.heap.push { cls := .type "dict_values", data := .fields #[.ref d] }).objs.size (.lst (kk.map fun z => z.2)) := ⟨by rw [List.length_map]; exact hz, acc.toList, cc, hvv, by rw [Array.toArray_toList]; exact hS⟩
  exact ⟨.ref _, _, I2.laid keep (Nat.le_refl _) new, rfl, q _ (I2.hok.fresh (Nat.le_refl _))⟩
theorem pe_listIts (hc : X.calm = true) (he : PE X e te) (hg : Gl X "list") (hm : X.mg "list" = none) (hv : bootBuiltins "list" = some (.type "list")) (hbase : attributeBase e "items" X.env (eval e X.env) = eval e X.env) (hline : (apos.endLine == cpos.line) = true)
    (hs : starEach [.Call (.Attribute e "items" apos) [] [] cpos] X.env = (false, eval (.Call (.Attribute e "items" apos) [] [] cpos) X.env) :: starEach [] X.env) :
    PE X (.Call (.Name "list" p) [.Call (.Attribute e "items" apos) [] [] cpos] [] pos) (tLI te) := by
  refine ⟨fun pins s σ H Q I hq => wpAny_Call_Name_kw (ld_blt I hg hm hv (PyProof.Rows.callWith_type1 ?_ hs rfl))⟩
  rw [hs]
  show wpAny _ _ (spliced ((false, eval (.Call (.Attribute e "items" apos) [] [] cpos) X.env) :: backTo pos (starEach [] X.env))) _ _ s
  refine Calls.spliced_cons (wpAny_Call_method (T := "dict") (id := "dict.items") hbase rfl hline F.plainAttrs_dict F.slot_dict_items F.type_dict_items (thn (he.run pins s σ H _ I hq) fun u s1 ⟨x, H1, I1, rx, d, kk, ex, hd, q⟩ => ?_))
  subst ex
  obtain rfl : u = Value.ref d := rx
  obtain ⟨hz, hs0, vs, kv, hdo⟩ := dk_rd I1.hok hd
  obtain ⟨ep, hat⟩ := hdo.dictAt
  have lk : kk.length = vs.length := Paired.length kv
  have I2 : Inv X pins σ H1 { s1 with heap := s1.heap.push { cls := .type "dict_items", data := .fields #[.ref d] } } := I1.kept (t' := s1.toks) fun b ob q => Heap.get?_push_of_some _ q
  refine ⟨hdo.typeIs, hdo.mapOf.noDict, ?_⟩
  show wpAny _ _ (callWith cpos (.builtin "dict.items") [.ref d] [] []) _ X.xe s1
  refine method_meetsIn F.slot_dict_items F.entry_dict_items rfl (PySem.evalArgs_none ⟨rfl, hdo.typeIs, F.args_dict_items_1 _, _, meets_dict_items (mixKind X.prog X.w) d hs0, ⟨vs, hdo⟩, Calls.spliced_nil ?_⟩)
  refine PySem.W.kdx_call (knd := mixKind X.prog X.w) (kvs := vs) (ep := ep) (I1.ok.hd hc) ⟨_, Heap.get?_push_size _ rfl, rfl, rfl⟩ (hat.push _) (lk ▸ hz) fun hp tk acc cc as keep hS hl hG hacc => ?_
  obtain ⟨H', k1, k2, k3, k4, k5, k6, J⟩ := items_laid (tk := tk) I2 hz kv keep hS hl hG hacc
  exact ⟨.ref _, H', J, rfl, q H' _ as k1 k2 k3 k4 k5 k6⟩
end
theorem reps_of_get {T : Tab} {G : Hp} {xs : List V} {ds : List D} (hl : xs.length = ds.length) (h : ∀ (i : Nat) (d : D), ds[i]? = some d → ∃ x, xs[i]? = some x ∧ Rep T G x d) : Reps T G xs ds :=
  Reps.of_get hl fun i x d h1 h2 => by
    obtain ⟨y, e, r⟩ := h i d h2
    rw [h1] at e
    cases e
    exact r
theorem keys_reps {T : Tab} {G : Hp} {kk : List (Key × V)} {ks vs : List D} (ok : KOk T G kk ks vs) : Reps T G (kk.map fun z => kV z.1) ks := by
  have hl := ok.len.1
  refine reps_of_get (by simpa using hl) fun i d h => ?_
  have hi : i < kk.length := by rw [hl]; exact (List.getElem?_eq_some_iff.mp h).1
  obtain ⟨k, v, a, b, e1, e2, e3, e4, r1, r2⟩ := kok_get ok hi
  rw [e2] at h
  cases h
  exact ⟨kV k, by simp [e1], r1⟩
/-- many new objects, never changed, and one that is given up -/
theorem Rel.many {T : Tab} {U G H H' : Hp} {σ : L2.St} {ρ : En} {p : Addr} {o : HO} (R : Rel T U G H σ ρ) (k : ∀ b o, H b = some o → H' b = some o) (hp : H p = none) (ho : H' p = some o) (ts : Addr → Bool) (ht : ∀ b, ts b = true → H b = none ∧ b ≠ p ∧ ∃ o, H' b = some o) :
    ∃ G', L2.Same G G' ∧ Rel T U G' H' σ ρ ∧ G' p = none ∧ (∀ b, ts b = true → G' b = H' b) ∧ U p = none ∧ ∀ (i : Nat) (d : D), ρ[i]? = some (.ow d) → σ[i]? ≠ some (some (.ref p)) := by
  have s : L2.Same G (fun b => if ts b = true then H' b else G b) := fun b o e => by
    by_cases hb : ts b = true
    · rw [R.gfree (ht b hb).1] at e; cases e
    · show (if ts b = true then H' b else G b) = _
      rw [if_neg hb]; exact e
  refine ⟨_, s, ⟨fun b o e => ?_, R.len, fun i d e => ?_, fun i d e => ?_, R.dist, fun a q e => ?_, fun i c ns vs e => (R.exn i c ns vs e).mono s⟩, ?_, fun b hb => if_pos hb, R.ufree hp, fun i d e1 e2 => ?_⟩
  · by_cases hb : ts b = true
    · simp only [if_pos hb] at e; exact e
    · simp only [if_neg hb] at e; exact k _ _ (R.same _ _ e)
  · obtain ⟨v, e1, r⟩ := R.sh i d e
    exact ⟨v, e1, r.mono s⟩
  · obtain ⟨a, q, e1, g, u, hh, r⟩ := R.ow i d e
    have hb : ¬ ts a = true := fun z => by rw [(ht a z).1] at hh; cases hh
    exact ⟨a, q, e1, by simp only [if_neg hb]; exact g, u, k _ _ hh, r.mono s⟩
  · obtain ⟨h1, h2⟩ := R.out a q e
    have hb : ¬ ts a = true := fun z => by rw [(ht a z).1] at h1; cases h1
    exact ⟨k _ _ h1, by simp only [if_neg hb]; exact h2⟩
  · have hb : ¬ ts p = true := fun z => (ht p z).2.1 rfl
    simp only [if_neg hb]; exact R.gfree hp
  · obtain ⟨a, o2, e3, _, _, hh, _⟩ := R.ow i d e1
    rw [e2] at e3
    cases e3
    rw [hp] at hh; cases hh
def dkeysD : D → Option D
  | .dct ks _ => some (.lst ks)
  | _ => none
def eListD (g : D → Option D) (fo : En → Rs Ar) : EF := fun ρ => (fo ρ).bnd fun a ρ1 => match look ρ1 a with
  | some d => opt (g d) ρ1
  | none => .bad
def dvalsD : D → Option D
  | .dct _ vs => some (.lst vs)
  | _ => none
def ditemsD : D → Option D
  | .dct ks vs => some (.lst (dPairs ks vs))
  | _ => none
section
variable {X : Cx} {T : Tab} {W : WX} {e : Expr} {fo : En → Rs Ar} {f : AF} {p apos cpos pos : Pos}
theorem keys_LO : OpLO T rKeysR (on1 dkeysD) := opLO_1 fun U G H σ ρ x d c Q R rx hg q => by
  cases d <;> simp only [dkeysD] at hg <;> first | (cases hg; done) | skip
  cases hg
  obtain ⟨a, kk, rfl, hh, ok⟩ := rx.kok R.same
  exact ⟨a, kk, rfl, hh, mkList R (keys_reps ok) q⟩
theorem jListK (hc : X.calm = true) (ha : JA X T W [e] f) (B : NoB X.mg) (hgl : Gl X "list" := by rfl) (he : starEach [e] X.env = (false, eval e X.env) :: starEach [] X.env := by rfl) : JO X T W (.Call (.Name "list" p) [e] [] pos) (eCallB (on1 dkeysD) f) :=
  j_callTO (call_list_keysR hc) keys_LO ha B.list (by decide +kernel) hgl (by decide) (by decide) he (by rfl)
theorem jListV (hc : X.calm = true) (ho : JR X T W e fo) (B : NoB X.mg) (hgl : Gl X "list" := by rfl) (hbase : attributeBase e "values" X.env (eval e X.env) = eval e X.env := by rfl) (hline : (apos.endLine == cpos.line) = true := by rfl)
    (hs : starEach [.Call (.Attribute e "values" apos) [] [] cpos] X.env = (false, eval (.Call (.Attribute e "values" apos) [] [] cpos) X.env) :: starEach [] X.env := by rfl) : JO X T W (.Call (.Name "list" p) [.Call (.Attribute e "values" apos) [] [] cpos] [] pos) (eListD dvalsD fo) := by
  refine ⟨ho.k, pe_imp (pe_listVals hc ho.run hgl B.list (by decide +kernel) hbase hline hs) fun σ H Q ⟨U, G, ρ, R, q⟩ => ⟨U, G, ρ, R, (Pst.bnd q).mono (L2.Same.refl _) fun x G1 H1 ρ1 _ ⟨R1, s1, p1⟩ v av => ?_⟩⟩
  split at p1
  · rename_i d e0
    obtain ⟨c, e1, p2⟩ := Pst.opt p1
    cases d <;> simp only [dvalsD] at e1 <;> first | (cases e1; done) | skip
    cases e1
    obtain ⟨a, kk, rfl, hh, ok⟩ := (look_ok R1 av e0).kok R1.same
    exact ⟨a, kk, rfl, hh, mkList R1 ok.2.2 fun p o G' H' R' s' g u h r n => p2 G' H' R' s' p o g u h r n⟩
  · exact p1.elim
theorem jListI (hc : X.calm = true) (ho : JR X T W e fo) (B : NoB X.mg) (hgl : Gl X "list" := by rfl) (hbase : attributeBase e "items" X.env (eval e X.env) = eval e X.env := by rfl) (hline : (apos.endLine == cpos.line) = true := by rfl)
    (hs : starEach [.Call (.Attribute e "items" apos) [] [] cpos] X.env = (false, eval (.Call (.Attribute e "items" apos) [] [] cpos) X.env) :: starEach [] X.env := by rfl) : JO X T W (.Call (.Name "list" p) [.Call (.Attribute e "items" apos) [] [] cpos] [] pos) (eListD ditemsD fo) := by
  refine ⟨ho.k, pe_imp (pe_listIts hc ho.run hgl B.list (by decide +kernel) hbase hline hs) fun σ H Q ⟨U, G, ρ, R, q⟩ => ⟨U, G, ρ, R, (Pst.bnd q).mono (L2.Same.refl _) fun x G1 H1 ρ1 _ ⟨R1, s1, p1⟩ v av => ?_⟩⟩
  split at p1
  · rename_i d e0
    obtain ⟨c, e1, p2⟩ := Pst.opt p1
    cases d <;> simp only [ditemsD] at e1 <;> first | (cases e1; done) | skip
    rename_i ks vs
    cases e1
    obtain ⟨a, kk, rfl, hh, ok⟩ := (look_ok R1 av e0).kok R1.same
    refine ⟨a, kk, rfl, hh, fun H' p ts k1 k2 k3 k4 k5 k6 => ?_⟩
    obtain ⟨G', s', R', g, gt, u, n⟩ := R1.many k1 k2 k5 (fun b => decide (b ∈ ts)) fun b hb => by
      have hb := of_decide_eq_true hb
      obtain ⟨j, y, f1, f2, f3⟩ := paired_ix k6 hb
      exact ⟨k3 b hb, fun z => k4 (z ▸ hb), _, f3⟩
    refine p2 G' H' R' s' p _ g u k5 ⟨ts.map V.ref, rfl, ?_⟩ n
    have hl : ts.length = kk.length := Paired.length k6
    refine reps_of_get (by rw [List.length_map, dPairs_len ok, hl]) fun i d h => ?_
    have hi : i < kk.length := by rw [← dPairs_len ok]; exact (List.getElem?_eq_some_iff.mp h).1
    obtain ⟨k, v, a1, b1, f1, f2, f3, f4, r1, r2⟩ := kok_get ok hi
    rw [f4] at h
    cases h
    have hi2 : i < ts.length := by rw [hl]; exact hi
    have ht : ts[i]? = some ts[i] := List.getElem?_eq_getElem hi2
    obtain ⟨y, g1, g2⟩ := L2.paired_get k6 ht
    rw [f1] at g1
    cases g1
    have hm : decide (ts[i] ∈ ts) = true := decide_eq_true (List.getElem_mem hi2)
    refine ⟨.ref ts[i], by simp [ht], ts[i], _, rfl, .of ((gt _ hm).trans g2), _, _, rfl, r1.mono s', _, _, rfl, r2.mono s', rfl⟩
  · exact p1.elim
/-- dict(xs), xs a list of pairs -/
def pairOf : D → Option (D × D)
  | .tup [k, v] => some (k, v)
  | _ => none
def pairsOf : List D → Option (List (D × D))
  | [] => some []
  | d :: ds => match pairOf d, pairsOf ds with
    | some p, some ps => some (p :: ps)
    | _, _ => none
def dictD : D → Option D
  | .lst ds => match pairsOf ds with
    | some ps => dictOf ps
    | none => none
  | _ => none
theorem pairs_ok {G : Hp} : ∀ {ds : List D} {ps : List (D × D)} {xs : List V}, pairsOf ds = some ps → (ps.all fun p => isKey p.1) = true → Reps T G xs ds →
    ∃ (as : List Addr) (kvs : List (Key × V)), xs = as.map V.ref ∧ Paired (fun p (kv : Key × V) => SqT T.K G p [kV kv.1, kv.2]) as kvs ∧ ps.map (fun p => keyD p.1) = kvs.map (fun p => some p.1) ∧ Reps T G (kvs.map (·.2)) (ps.map (·.2))
  | [], _, _, h, _, r => by cases h; cases r; exact ⟨[], [], rfl, .nil, rfl, rfl⟩
  | d :: ds, ps, _, h, hk, ⟨x, rest, rfl, rx, rr⟩ => by
    simp only [pairsOf] at h
    split at h
    · rename_i p ps' e1 e2
      cases h
      simp only [List.all_cons, Bool.and_eq_true] at hk
      obtain ⟨as, kvs, rfl, h1, h2, h3⟩ := pairs_ok e2 hk.2 rr
      unfold pairOf at e1
      split at e1
      · rename_i k v
        cases e1
        obtain ⟨a, ys, rfl, hs, y1, r1, rfl, q1, y2, r2, e5, q2, e6⟩ := rx
        cases e5
        cases e6
        obtain ⟨kx, ke, rfl⟩ := rep_key q1 hk.1
        exact ⟨a :: as, (kx, y2) :: kvs, rfl, .cons hs h1, by simp only [List.map_cons, ke, h2], y2, _, rfl, q2, h3⟩
      · cases e1
    · cases h
theorem paired_imp {α β : Type} {F F' : α → β → Prop} (h : ∀ a b, F a b → F' a b) : ∀ {xs : List α} {ys : List β}, Paired F xs ys → Paired F' xs ys
  | _, _, .nil => .nil
  | _, _, .cons a r => .cons (h _ _ a) (paired_imp h r)
theorem dict_LO (k : X.K = T.K) : OpLO T (fun xs H Q => ∃ (a : Addr) (ps : List Addr) (kvs : List (Key × V)), xs = [.ref a] ∧ SqL X.K H a (ps.map V.ref) ∧ Paired (fun p kv => SqT X.K H p [kV kv.1, kv.2]) ps kvs ∧
    ∀ p, H p = none → Q (.ref p) (upd H p (.dK (mergeK [] kvs)))) (on1 dictD) := opLO_1 fun U G H σ ρ x d c Q R rx hg q => by
  cases d <;> simp only [dictD] at hg <;> first | (cases hg; done) | skip
  rename_i ds
  split at hg
  · rename_i ps e1
    unfold dictOf at hg
    split at hg
    · rename_i hk
      cases hg
      obtain ⟨a, xs, rfl, hh, r⟩ := rx.lst R.same
      obtain ⟨as, kvs, rfl, h1, h2, h3⟩ := pairs_ok e1 hk r
      refine ⟨a, as, kvs, rfl, .of hh, paired_imp (fun b kv z => by rw [k]; exact Same.seqT R.same z) h1, fun p hp => ?_⟩
      obtain ⟨R2, hn⟩ := R.fresh (o := .dK (mergeK [] kvs)) hp
      obtain ⟨q1, q2, q3⟩ := merge_dk h2 h3 KOk.nil
      exact q p _ G _ R2 (L2.Same.refl _) (R.gfree hp) (R.ufree hp) upd_same ⟨_, rfl, q1, q2, q3⟩ hn
    · cases hg
  · cases hg
theorem jDictP (hc : X.calm = true) (ha : JA X T W [e] f) (B : NoB X.mg) (hgl : Gl X "dict" := by rfl) (he : starEach [e] X.env = (false, eval e X.env) :: starEach [] X.env := by rfl) : JO X T W (.Call (.Name "dict" p) [e] [] pos) (eCallB (on1 dictD) f) :=
  j_callTO (call_dictP hc) (dict_LO ha.k) ha B.dict (by decide +kernel) hgl (by decide) (by decide) he (by rfl)
end
end J

set_option Elab.async false
set_option linter.all false
set_option maxRecDepth 100000
set_option maxHeartbeats 4000000
namespace J
open PySem PySem.Spec PyProof.Rows L2

section
variable {P : Program} {w : World} {K : PySem.W.Frag} {mg : Str → Option Value} {base : Heap} {T : Tab} {x qual : Str} {st : Stmt} {f : Addr} {fd : FuncData} {N ps : List Str} {k m n c : Nat} {ws : List Nat} {body : SF}
/-- a method from its def -/
theorem calM (F : Fun K x qual st f fd) (S : FnScope N ps (defScope st)) (C : Cls K (T.cls c)) (M : Meth K (T.cls c) x f) (nf : ∀ i, T.fnm i ≠ x) (hb : Binds K fd ps [])
    (hbody : ∀ (cdv : Value) (A : Around) (outer : List Env) (s : Shared) (H : Hp) (E : XK), Bo (cxOf (L2.CX P w) P w K mg base N qual (defScope st) f cdv A outer s H E) k E →
      JSs (cxOf (L2.CX P w) P w K mg base N qual (defScope st) f cdv A outer s H E) T (WO E) ws (defBody st) body) (hN : N.length = ps.length + m := by rfl) (hn : ps.length = n := by rfl) : CalM P w K mg base T (k + 1) c x n (fnV m body) := by
  subst hn
  exact ⟨⟨f, fd, ps, fnV_ok F S hN fun cdv A outer s H E hr => hbody cdv A outer s H E ⟨hr, takes_of rfl rfl rfl rfl, passes_of rfl⟩, C, M, hb⟩, nf⟩
/-- the own comparison -/
structure EqF (K : PySem.W.Frag) (C f : Addr) : Prop where
  at_ : PySem.W.findIn K (.ref C) "__eq__" = some (some (.ref f))
  fn : PySem.W.isFn K (.ref f) = true
  ne : PySem.W.findIn K (.ref C) "__ne__" = some (some (.builtin "object.__ne__"))
  ob : PySem.W.mroIn K C (.type "object") = some true
  tup : PySem.W.subIn K (.type "tuple") (.ref C) = some false
theorem calE (F : Fun K x qual st f fd) (S : FnScope N ps (defScope st)) (M : EqF K (T.cls c) f) (hb : Binds K fd ps [])
    (hbody : ∀ (cdv : Value) (A : Around) (outer : List Env) (s : Shared) (H : Hp) (E : XK), Bo (cxOf (L2.CX P w) P w K mg base N qual (defScope st) f cdv A outer s H E) k E →
      JSs (cxOf (L2.CX P w) P w K mg base N qual (defScope st) f cdv A outer s H E) T (WO E) ws (defBody st) body) (hN : N.length = ps.length + m := by rfl) (hn : ps.length = 2 := by rfl) : EqC P w K mg base T (k + 1) c (fnV m body) :=
  ⟨⟨f, fd, ps, hn ▸ fnV_ok F S hN fun cdv A outer s H E hr => hbody cdv A outer s H E ⟨hr, takes_of rfl rfl rfl rfl, passes_of rfl⟩, M.at_, M.fn, hb⟩, M.ne, M.ob, M.tup⟩
/-- making, from __init__ -/
theorem calI {y : Str} {ds : List Value} {dv : List V} {dd : List D} (F : Fun K x qual st f fd) (S : FnScope N ps (defScope st)) (M : Mk K (T.cls c) f) (hm : mg y = some (.ref (T.cls c))) (hb : Binds K fd ps ds) (hv : Vals dv ds) (hd : ∀ G, Reps T G dv dd)
    (hbody : ∀ (cdv : Value) (A : Around) (outer : List Env) (s : Shared) (H : Hp) (E : XK), Bo (cxOf (L2.CX P w) P w K mg base N qual (defScope st) f cdv A outer s H E) k E →
      JSs (cxOf (L2.CX P w) P w K mg base N qual (defScope st) f cdv A outer s H E) T (WO E) ws (defBody st) body) (hw : 0 ∉ ws := by decide) (hN : N.length = ps.length + m := by rfl) (hn : ps.length = n + 1 := by rfl) : CalK P w K mg base T (k + 1) c y n (fnI m c body) dd :=
  ⟨⟨f, fd, ps, ds, dv, fnI_ok F S hN hn hw fun cdv A outer s H E hr => hbody cdv A outer s H E ⟨hr, takes_of rfl rfl rfl rfl, passes_of rfl⟩, M, hm, hb, hv, hd⟩⟩
/-- a def that is held as a value -/
theorem fnT_of {tbl : Nat → Option FV} (h : ∀ i F, tbl i = some F → ∃ (x : Str), CalV P w K mg base T k x n F ∧ mg x = some (.ref (T.fna i))) : FnT P w K mg base T k n tbl :=
  ⟨fun i F e => by
    obtain ⟨x, ⟨f, fd, ps, Fo, hm, hk, hb⟩, hx⟩ := h i F e
    rw [hm] at hx
    cases hx
    exact ⟨fd, ps, Fo, hk, hb⟩⟩
theorem CalV.mono {j : Nat} {F : FV} (h : CalV P w K mg base T k x n F) (hk : k ≤ j) : CalV P w K mg base T j x n F := by
  obtain ⟨f, fd, ps, Fo, hm, hkp, hb⟩ := h
  exact ⟨f, fd, ps, Fo.mono hk, hm, hkp, hb⟩
end
end J
namespace J
open PySem PySem.Spec PyProof.Rows L2
theorem u1 {A : Around} (r : A.units + 65 < cLine) : A.units + 1 < cLine := by omega
theorem hds_cons {X : Cx} {T : Tab} {x n : Str} {i : Nat} {hm : Nat → Option Bool} {g : SF} {ws wr : List Nat} {b₀ : Stmt} {suite : List Stmt} {np pos' : Pos} {hds : List ExceptHandler} {l : List HJ} (hd : HdT X.K X.mg T x hm)
    (hsu : ∀ (a : Addr) (oe : Obj) (cls : Value) (d : Option Addr) (pn : List (Addr × Obj)), Zc cls d oe → (∃ vs, oe.data = .fields vs) → JSs (X.suite a ((a, oe) :: pn)) (eaT T (some (a, cls, d))) WF ws (b₀ :: suite) g)
    (r : HdsJ X T hds l wr) (hi : X.N[i]? = some n := by rfl) (hln : X.env.kindOf n = some .local := by rfl) (hg : Gl X x := by rfl) (hdb : (x == ("__debug__" : Str)) = false := by decide) : HdsJ X T (.ExceptHandler (some (.Name x np)) (some n) (b₀ :: suite) pos' :: hds) ((i, hm, g) :: l) (i :: ws ++ wr) := by
  obtain ⟨cl, h1, h2⟩ := hd.ex
  exact .cons hi hln ⟨hg, hdb, .inl h1⟩ h2 hsu r
theorem mkF_ne {names : List Str} {m : Str} (h : names.all (fun s => decide (s ≠ m)) = true) (hz : decide (m.cps.size < 1000) = true) : ∀ i, mkF names i ≠ m := fun i e => by
  unfold mkF at e
  by_cases hi : i < names.length
  · rw [List.getD_eq_getElem?_getD, List.getElem?_eq_getElem hi] at e
    exact of_decide_eq_true (List.all_eq_true.mp h _ (List.getElem_mem hi)) e
  · rw [List.getD_eq_getElem?_getD, List.getElem?_eq_none (by omega)] at e
    have e2 : (padF i).cps.size = m.cps.size := congrArg (fun s : Str => s.cps.size) e
    have e3 : (padF i).cps.size = i + 1000 := by simp [padF]
    have := of_decide_eq_true hz
    omega

def iaddD : D → D → Option D
  | .int a, .int b => some (.int (a + b))
  | _, _ => none
def isubD : D → D → Option D
  | .int a, .int b => some (.int (a - b))
  | _, _ => none
section
variable {X : Cx} {T : Tab} {W : WX} {i : Nat} {x : Str} {e : Expr} {pos pos' : Pos} {f : EF}
theorem jIadd (hN : X.N.Nodup) (h : JE X T W e f) (hi : X.N[i]? = some x := by rfl) (hx : Loc X.env.scope x := by first | exact Or.inl rfl | exact Or.inr rfl)
    (hf : X.fn x = true ∨ X.env.scope.names.lookup x = some .local := by first | exact .inl rfl | exact .inr rfl) : JS X T W [i] (.AugAssign (.Name x pos') .Add e pos) (sAug i iaddD f) :=
  j_aug hN iop_add (op2_I0 fun d e c h => by cases d <;> cases e <;> simp only [iaddD] at h <;> first | (cases h; done) | (cases h; exact ⟨_, _, rfl, rfl, fun _ => rfl⟩)) h hi hx hf
theorem jIsub (hN : X.N.Nodup) (h : JE X T W e f) (hi : X.N[i]? = some x := by rfl) (hx : Loc X.env.scope x := by first | exact Or.inl rfl | exact Or.inr rfl)
    (hf : X.fn x = true ∨ X.env.scope.names.lookup x = some .local := by first | exact .inl rfl | exact .inr rfl) : JS X T W [i] (.AugAssign (.Name x pos') .Sub e pos) (sAug i isubD f) :=
  j_aug hN iop_sub (op2_I0 fun d e c h => by cases d <;> cases e <;> simp only [isubD] at h <;> first | (cases h; done) | (cases h; exact ⟨_, _, rfl, rfl, fun _ => rfl⟩)) h hi hx hf
end
theorem kit_selfC {K : PySem.W.Frag} (c : Value) : PySem.W.kitOne K c c = some true := by
  unfold PySem.W.kitOne
  rw [if_pos (by simp)]
theorem kit_tupC {K : PySem.W.Frag} {S : Addr} {b : Bool} (h2 : PySem.W.isClsIn K S = true) (h3 : PySem.W.typeIn K (.ref S) = some (.type "type")) (h4 : PySem.W.subIn K (.type "tuple") (.ref S) = some b) : PySem.W.kitOne K (.type "tuple") (.ref S) = some b := by
  have h2' : (PySem.W.clsIn K S).isSome = true := h2
  unfold PySem.W.kitOne
  rw [if_neg (by simp)]
  unfold PySem.W.kitCls
  simp only [h2', h3, h4]
  simp
end J

set_option Elab.async false
set_option linter.all false
set_option maxRecDepth 100000
set_option maxHeartbeats 4000000
namespace J
open PySem PySem.Spec PyProof.Rows L2

/-! ### min(x, y) of two things that can be compared -/
theorem call_min_twoG {prog : Program} {w : World} {A : Around} {E : Value → Shared → Prop} {s : Shared} {a b : Value} {Q : Value → Shared → Prop}
    (h : wpAny (model prog w) A.in1 (pyIter (.ref s.heap.objs.size)) (fun it s₂ => ∃ I fp wr G n P St H bt, it = .ref I ∧ WalksS prog w A.in1 I fp wr G n P St ∧ St 0 s₂ ∧ (∀ b ∈ fp, b < s₂.heap.objs.size) ∧ 0 < n ∧
      (∀ b o, H.get? b = some o → b ∉ wr) ∧ (∀ b o, H.get? b = some o → s₂.heap.get? b = some o) ∧ PySem.CmpIn prog w A.in1 .Lt H P bt ∧ ∀ v s', P (argBest bt (n - 1)) v → Moved wr G s₂ s' → Q v s') E
      { s with heap := s.heap.push { cls := .type "tuple", data := .seq #[a, b] } }) : wpAny (model prog w) A (call (.builtin "min") [a, b]) Q E s := by
  have nm : (toString "min" ++ toString ".loop" : String) = "min.loop" := by decide
  refine call_function_tree PySem.F.kind_min PySem.F.plain_min PySem.F.entry_min (PySem.F.args_min2 _ _) ?_
  show wpAny _ A.in1 (Builtin.Builtins.bindParams "min" ["key", "default"] 0 ⟨[], []⟩ >>= _) _ _ s
  refine wpAny_bind (wpAny_of_eq (show Builtin.Builtins.bindParams "min" ["key", "default"] 0 ⟨[], []⟩ = pure [none, none] from rfl) ?_)
  show wpAny _ A.in1 (newTuple [a, b] >>= _) _ _ s
  refine wpAny_bind (wpAny_newObj_type (wpAny_bind (wpAny_mono h (fun it s₂ h₂ => ?_) fun _ _ e => e)))
  obtain ⟨I, fp, wr, G, n, P, St, H, bt, rfl, W, hst, hfp, hn, hw, hkeep, hcmp, hQ⟩ := h₂
  have hSf : s₂.heap.objs.size ∉ fp := fun hm => Nat.lt_irrefl _ (hfp _ hm)
  rw [nm]
  refine wpAny_bind (wpAny_newObj_type (wpAny_pure ⟨plainId_quiet PySem.F.plain_min_loop _, PySem.codeAny_min_loop_firstH W H hw bt hcmp s₂.heap.objs.size hSf (PySem.fresh_in hkeep) _ hn (fun b o e => Heap.get?_push_of_some _ (hkeep b o e)) (W.frame 0 s₂ _ s₂.toks hst (Nat.le_refl _) fun b _ o e => Heap.get?_push_of_some _ e) (Heap.get?_push_size _ rfl) fun v s' hP hm => ?_⟩))
  exact hQ v s' hP (Moved.drop_new (tk := s₂.toks) hm (Nat.le_refl _))
def isTupD : D → Bool
  | .tup _ => true
  | _ => false
def min2G (d e : D) : Option D := if isTupD d = true ∧ isTupD e = true ∧ ordOk [d, e] = true then some (leastE d [e]) else none
def rMin2G (T : Tab) : List V → Hp → VK → Prop := fun vs H Q => ∃ U G σ ρ x y d e, vs = [x, y] ∧ Rel T U G H σ ρ ∧ Rep T G x d ∧ Rep T G y e ∧ ordOk [d, e] = true ∧ ∀ v, Rep T G v (leastE d [e]) → Q v H
section
variable {X : Cx} {T : Tab} {W : WX}
theorem call_min2G (hk : X.K = T.K) (hu : X.A.units + 65 < cLine) (hc : X.calm = true) : CallR X (.builtin "min") (rMin2G T) := by
  intro pins s σ H vs us Q I r h
  obtain ⟨U, G, σ0, ρ, x, y, d, e, rfl, R, rx, ry, ho, q⟩ := h
  obtain ⟨u, w2, rfl, ru, rw2⟩ := vals2 r
  obtain ⟨h1, h2, h3⟩ := ordOk_iff.mp ho
  have rs : Reps T G [x, y] [d, e] := ⟨x, [y], rfl, rx, y, [], rfl, ry, rfl⟩
  have rv : Vals [x, y] [u, w2] := .cons ru (.cons rw2 .nil)
  have dp := (depth_all h1 rs).1
  have hm := leastE_mem [e] d
  obtain ⟨as, ra⟩ := reads_all hk I R h1 rs rv
  have hT : (s.heap.push { cls := .type "tuple", data := .seq #[u, w2] }).IsTuple s.heap.objs.size #[u, w2] := ⟨_, Heap.get?_push_size _ rfl, rfl, 0, rfl⟩
  refine call_min_twoG (PySem.W.iter_tupleW (A := X.A.in1) (I.ok.hd hc) hT fun s₂ e2 W st hfp hw hkeep => ?_)
  have ra2 : ReadsAll (s.heap.push { cls := .type "tuple", data := .seq #[u, w2] }) [u, w2] (toPys [d, e]) as := ReadsAll.keeps (fun b o z => Heap.get?_push_of_some _ z) ra
  refine ⟨_, _, _, _, _, _, _, s.heap.push { cls := .type "tuple", data := .seq #[u, w2] }, _, rfl, W, st, hfp, (by show 0 < 2; decide), hw, hkeep, PySem.W.cmpIn_lt (A := X.A.in1) (s := { s with heap := s.heap.push { cls := .type "tuple", data := .seq #[u, w2] } }) (vs := #[u, w2]) (by simpa using ra2) (ordOk_py ho) (by show X.A.units + 1 + PyData.depthAll (toPys [d, e]) < _; omega), fun v s' hP m => ?_⟩
  obtain ⟨h', tk, rfl, hk'⟩ := PySem.W.moved_old e2 rfl m
  obtain ⟨bs, r1, _⟩ := PySem.W.readsAll_at ra2 _ v (by simpa using hP)
  have e3 := (PySem.W.argBest_fold PySem.W.dataLt PyData.none (toPy d) (toPys [e]) 1 (Nat.le_refl _)).2
  have e4 : (toPys [d, e]).getD (argBest (fun i j => PySem.W.dataLt ((toPys [d, e]).getD i .none) ((toPys [d, e]).getD j .none)) 1) .none = toPy (leastE d [e]) := by
    rw [← leastE_py [e] d (okEs_mem h1) h2]
    exact e3
  have hk2 : ∀ b o, s.heap.get? b = some o → h'.get? b = some o := fun b o z => hk' b o (Heap.get?_push_of_some _ z)
  have r2 : Reads h' v (toPy (leastE d [e])) bs := by
    rw [← e4]
    exact PySem.W.reads_keeps hk' r1
  obtain ⟨z, rz, rp⟩ := item_of rs rv h1 hm ra (i := _) (by simpa using hP) r2 hk2
  exact ⟨z, H, I.kept (t' := tk) hk2, rz, q z rp⟩
theorem min2G_L : OpL T (rMin2G T) (on2 min2G) := opL_2 fun U G H σ ρ x y d e c Q R rx ry hg q => by
  unfold min2G at hg
  split at hg
  · rename_i ho
    cases hg
    have key : ∀ {z : V} {c : D}, isTupD c = true → RepH T G H z c → Rep T G z c := fun {z c} hc rz => by
      rcases rz with rz | ⟨p, o, _, _, ro⟩
      · exact rz
      · cases c <;> first | exact ro.elim | cases hc
    exact ⟨U, G, σ, ρ, x, y, d, e, rfl, R, key ho.1 rx, key ho.2.1 ry, ho.2.2, fun v rv => q v G H R (L2.Same.refl _) rv⟩
  · cases hg
/-- two whole numbers, or two tuples that can be compared -/
def min2X (d e : D) : Option D := match min2D d e with
  | some c => some c
  | none => min2G d e
theorem opL_or2 {r r' : List V → Hp → VK → Prop} {g g' : D → D → Option D} (h : OpL T r (on2 g)) (h' : OpL T r' (on2 g')) : OpL T (fun xs H Q => r xs H Q ∨ r' xs H Q) (on2 fun d e => match g d e with
    | some c => some c
    | none => g' d e) := by
  intro U G H σ ρ xs ds c Q R rx hg q
  match ds, rx, hg with
  | [d, e], rx, hg =>
    simp only [on2_two] at hg
    cases e1 : g d e with
    | some c' => rw [e1] at hg; cases hg; exact .inl (h U G H σ ρ xs [d, e] _ Q R rx e1 q)
    | none => rw [e1] at hg; exact .inr (h' U G H σ ρ xs [d, e] c Q R rx hg q)
  | [], _, hg => cases hg
  | [_], _, hg => cases hg
  | _ :: _ :: _ :: _, _, hg => cases hg
theorem jMin2X {e e2 : Expr} {f : AF} {p pos : Pos} (hc : X.calm = true) (hu : X.A.units + 65 < cLine) (ha : JA X T W [e, e2] f) (B : NoB X.mg) (hgl : Gl X "min" := by rfl) (he : starEach [e, e2] X.env = (false, eval e X.env) :: starEach [e2] X.env := by rfl) (hpl : (backTo pos (starEach [e2] X.env)).any (·.1) = false := by rfl) : JE X T W (.Call (.Name "min" p) [e, e2] [] pos) (eCallB (on2 min2X) f) :=
  j_callB (CallR.or (call_min2 hc) (call_min2G ha.k hu hc)) (opL_or2 min2_J min2G_L) ha B.min (by decide +kernel) hgl (by decide) (by decide) he hpl
end
end J

set_option Elab.async false
set_option linter.all false
set_option maxRecDepth 100000
set_option maxHeartbeats 4000000
namespace J
open PySem PySem.Spec PyProof.Rows L2

/-! ### defs that ask where they stand (repr), called -/
section
variable {X : Cx} {CX : CXT} {k : Nat} {f : Addr} {fd : FuncData} {ps : List Str} {sp : Sp} {E : L2.St → XK} {x : Str} {p pos : Pos} {e : Expr} {es : List Expr} {t : TA}
theorem pe_callG (hg0 : X.A.guards = some []) (F : FnG X.prog X.w X.K X.mg X.base CX k f fd ps sp) (hr : Room k X.A) (hg : Gl X x) (hm : X.mg x = some (.ref f)) (hk : PySem.W.keepIn X.K (.ref f) = true) (hb : Binds X.K fd ps []) (hx : ∀ σ, PassesAt CX X σ (E σ))
    (ha : PA X (e :: es) t) (hdb : (x == ("__debug__" : Str)) = false) (he : starEach (e :: es) X.env = (false, eval e X.env) :: starEach es X.env) (hpl : (backTo pos (starEach es X.env)).any (·.1) = false) :
    PE X (.Call (.Name x p) (e :: es) [] pos) (tCallS sp E t) := by
  refine ⟨fun pins s σ H Q I h => wpAny_Call_Name_kw (ld_glob I hg hm ?_ hdb)⟩
  refine PySem.W.callWith_K (h₀ := X.base) I.ok.mod.kin hk (thn (ha.run pos pins s σ H _ I h) fun us s1 ⟨vs, H1, I1, r, q⟩ => ⟨I1.kIn, ?_⟩) he hpl
  have hl : us.length = ps.length := by rw [← r.length]; exact F.len _ _ _ _ q
  have hb1 := hb s1 us I1.kIn (by simpa using hl)
  rw [List.append_nil] at hb1
  refine wpAny_call (codeAny_mono (F.run X.A X.stack s1 H1 ⟨us, []⟩ us vs Q (E σ) hg0 hr I1.env0 hb1 r q) fun r2 s' hq => ?_)
  cases r2 with
  | error e => exact hx σ pins H1 s1 e s' I1 hq
  | ok fl =>
    cases fl with
    | ret u => exact I1.after hq
    | next => exact False.elim hq
    | brk => exact False.elim hq
    | cont => exact False.elim hq
end
structure CalLG (P : Program) (w : World) (K : PySem.W.Frag) (mg : Str → Option Value) (base : Heap) (T : Tab) (k : Nat) (x : Str) (n : Nat) (F : FL) : Prop where
  ex : ∃ (f : Addr) (fd : FuncData) (ps : List Str), FnG P w K mg base (L2.CX P w) k f fd ps (spL T n F) ∧ mg x = some (.ref f) ∧ PySem.W.keepIn K (.ref f) = true ∧ Binds K fd ps []
structure CalVG (P : Program) (w : World) (K : PySem.W.Frag) (mg : Str → Option Value) (base : Heap) (T : Tab) (k : Nat) (x : Str) (n : Nat) (F : FV) : Prop where
  ex : ∃ (f : Addr) (fd : FuncData) (ps : List Str), FnG P w K mg base (L2.CX P w) k f fd ps (spV T n F) ∧ mg x = some (.ref f) ∧ PySem.W.keepIn K (.ref f) = true ∧ Binds K fd ps []
section
variable {X : Cx} {T : Tab} {W : WX} {k j n : Nat} {x : Str} {p pos : Pos} {e : Expr} {es : List Expr}
theorem callL_red {F : FL} {g : AF} (hlen : ∀ ρ as ρ', g ρ = .ok as ρ' → as.length = n + 1) {σ : L2.St} {H : Hp} {Q : VK} (q : tE T W (eCallL F g) σ H Q) : tCallS (spL T n F) (WE W) (tA T W g) σ H Q := by
  obtain ⟨U, G, ρ, R, q⟩ := q
  refine ⟨U, G, ρ, R, ?_⟩
  have q' := Pst.bnd q
  cases hf : g ρ with
  | ok as ρ' =>
    rw [hf] at q'
    intro G1 H1 R1 s1 vs avs
    obtain ⟨_, _, p⟩ := q' G1 H1 R1 s1
    have hl := hlen _ _ _ hf
    match as, vs, avs, p, hl with
    | .v _ :: _, _, _, p, _ => exact p.elim
    | [], _, _, p, _ => exact p.elim
    | .s i :: r, [], avs, p, _ => exact avs.elim
    | .s i :: r, v :: vs', avs, p, hl =>
      dsimp only at p
      split at p
      · rename_i d0 ds e1 e2
        split at p
        · rename_i d d1 e3
          obtain ⟨q1, e4, RL⟩ := R1.lend e1
          have e5 : σ[i]? = some (some v) := avs.1
          rw [e4] at e5
          cases e5
          refine ⟨?_, _, G1, d0, ds, q1, vs', rfl, RL, vals_ok avs.2 e2, ?_⟩
          · rw [List.length_cons, ars_len avs.2]
            exact hl
          · rw [e3]
            exact fun G2 H2 R2 s2 v r => p G2 H2 (R1.overL e1 e4 R2 s2) s2 v r
        · exact p.elim
      · exact p.elim
  | ex c ns vs ρ' => rw [hf] at q'; exact q'
  | bad => rw [hf] at q'; exact q'
theorem jclG {F : FL} {g : AF} (c : CalLG X.prog X.w X.K X.mg X.base T k x n F) (hg0 : X.A.guards = some []) (hr : Room j X.A) (tk : Takes X W) (ha : JA X T W (e :: es) g) (hk : k ≤ j := by decide) (hn : (e :: es).length = n + 1 := by rfl) (hg : Gl X x := by rfl) (hdb : (x == ("__debug__" : Str)) = false := by decide)
    (he : starEach (e :: es) X.env = (false, eval e X.env) :: starEach es X.env := by rfl) (hpl : (backTo pos (starEach es X.env)).any (·.1) = false := by rfl) : JE X T W (.Call (.Name x p) (e :: es) [] pos) (eCallL F g) := by
  obtain ⟨f, fd, ps, Fo, hm, kp, b⟩ := c.ex
  exact ⟨ha.k, pe_imp (pe_callG hg0 Fo (hr.mono hk) hg hm kp b (passAt tk) ha.run hdb he hpl) fun σ H Q q => callL_red (fun ρ as ρ' h => by rw [ha.len _ _ _ h]; exact hn) q⟩
theorem jcG {F : FV} {g : AF} (c : CalVG X.prog X.w X.K X.mg X.base T k x n F) (hg0 : X.A.guards = some []) (hr : Room j X.A) (tk : Takes X W) (ha : JA X T W (e :: es) g) (hk : k ≤ j := by decide) (hn : (e :: es).length = n := by rfl) (hg : Gl X x := by rfl) (hdb : (x == ("__debug__" : Str)) = false := by decide)
    (he : starEach (e :: es) X.env = (false, eval e X.env) :: starEach es X.env := by rfl) (hpl : (backTo pos (starEach es X.env)).any (·.1) = false := by rfl) : JE X T W (.Call (.Name x p) (e :: es) [] pos) (eCall F [] g) := by
  obtain ⟨f, fd, ps, Fo, hm, kp, b⟩ := c.ex
  refine ⟨ha.k, pe_imp (pe_callG hg0 Fo (hr.mono hk) hg hm kp b (passAt tk) ha.run hdb he hpl) fun σ H Q q => ?_⟩
  have q2 := call_red (n := n) (dv := []) (dd := []) (fun ρ as ρ' h => by rw [ha.len _ _ _ h]; exact hn) (fun _ => rfl) q
  have e2 : tCallSD (spV T n F) [] (WE W) (tA T W g) σ H Q = tCallS (spV T n F) (WE W) (tA T W g) σ H Q := by
    unfold tCallSD tCallS
    simp only [List.append_nil]
  exact e2 ▸ q2
end
section
variable {P : Program} {w : World} {K : PySem.W.Frag} {mg : Str → Option Value} {base : Heap} {T : Tab} {x : Str} {st : Stmt} {f : Addr} {fd : FuncData} {N ps : List Str} {k m n : Nat} {ws : List Nat} {body : SF}
theorem fnG_L {qual : Str} (F : Fun K x qual st f fd) (S : FnScope N ps (defScope st)) (hN : N.length = ps.length + m) (hn : ps.length = n + 1) (hw : 0 ∉ ws)
    (hbody : ∀ (cdv : Value) (A : Around) (outer : List Env) (s : Shared) (H : Hp) (E : XK), A.guards = some [] → Bo (cxOf (L2.CX P w) P w K mg base N qual (defScope st) f cdv A outer s H E) k E →
      JSs (cxOf (L2.CX P w) P w K mg base N qual (defScope st) f cdv A outer s H E) T (WO E) ws (defBody st) body) : FnG P w K mg base (L2.CX P w) (k + 1) f fd ps (spL T n (fnL m body)) := by
  refine fnG_of F S (fun vs H Q E h => h.1.trans hn.symm) (fun cdv A outer s H vs Q E hg hr h => ?_)
  obtain ⟨hl, U, G, d0, ds, q, vs', rfl, R, r, p⟩ := h
  refine ⟨_, (hbody cdv A outer s H E hg ⟨hr, takes_of rfl rfl rfl rfl, passes_of rfl⟩).run, U, G, _, (by rw [start_at hN (hl.trans hn.symm)]; exact R.entryL r m), ?_⟩
  have hσ : ∀ σ', Keeps ws (L2.start N (V.ref q :: vs')) σ' → σ'[0]? = some (some (.ref q)) := fun σ' k => by
    rw [k.2 0 hw, start_at hN (hl.trans hn.symm)]
    rfl
  unfold fnL at p
  cases e : body (.ow d0 :: (ds.map .sh ++ List.replicate m .no)) with
  | ok a ρ' =>
    rw [e] at p
    cases a with
    | nx =>
      simp only [ow0] at p
      split at p
      · rename_i d d1 e2
        split at e2
        · rename_i e3
          cases e2
          exact fun σ' G' H' R' s' k' => p G' H' (R'.exitL (hσ σ' k') e3) s' _ rfl
        · cases e2
      · exact p.elim
    | rt d2 =>
      simp only [ow0] at p
      split at p
      · rename_i d d1 e2
        split at e2
        · rename_i e3
          cases e2
          exact fun v σ' G' H' R' s' k' r' => p G' H' (R'.exitL (hσ σ' k') e3) s' v r'
        · cases e2
      · exact p.elim
  | ex c ns vs ρ' => rw [e] at p; exact p.elim
  | bad => rw [e] at p; exact p.elim
theorem calLG (F : Fun K x x st f fd) (S : FnScope N ps (defScope st)) (hm : mg x = some (.ref f)) (hb : Binds K fd ps [])
    (hbody : ∀ (cdv : Value) (A : Around) (outer : List Env) (s : Shared) (H : Hp) (E : XK), A.guards = some [] → Bo (cxOf (L2.CX P w) P w K mg base N x (defScope st) f cdv A outer s H E) k E →
      JSs (cxOf (L2.CX P w) P w K mg base N x (defScope st) f cdv A outer s H E) T (WO E) ws (defBody st) body) (hw : 0 ∉ ws := by decide) (hN : N.length = ps.length + m := by rfl) (hn : ps.length = n + 1 := by rfl) : CalLG P w K mg base T (k + 1) x n (fnL m body) :=
  ⟨f, fd, ps, fnG_L F S hN hn hw hbody, hm, F.kp, hb⟩
theorem calVG (F : Fun K x x st f fd) (S : FnScope N ps (defScope st)) (hm : mg x = some (.ref f)) (hb : Binds K fd ps [])
    (hbody : ∀ (cdv : Value) (A : Around) (outer : List Env) (s : Shared) (H : Hp) (E : XK), A.guards = some [] → Bo (cxOf (L2.CX P w) P w K mg base N x (defScope st) f cdv A outer s H E) k E →
      JSs (cxOf (L2.CX P w) P w K mg base N x (defScope st) f cdv A outer s H E) T (WO E) ws (defBody st) body) (hN : N.length = ps.length + m := by rfl) (hn : ps.length = n := by rfl) : CalVG P w K mg base T (k + 1) x n (fnV m body) := by
  subst hn
  exact ⟨f, fd, ps, fnG_V F S hN hbody, hm, F.kp, hb⟩
end
end J

set_option Elab.async false
set_option linter.all false
set_option maxRecDepth 100000
set_option maxHeartbeats 4000000
namespace J
open PySem PySem.Spec PyProof.Rows L2

/-! ### the new constructs, for simp -/
@[simp] theorem e_eFld (n : Nat) (ok : Nat → Bool) (f : En → Rs Ar) (ρ : En) : eFld n ok f ρ = (f ρ).bnd fun a ρ1 => match look ρ1 a with
  | some (.obj c ns vs) => if ok c = true then opt (fget n ns vs) ρ1 else .bad
  | _ => .bad := rfl
@[simp] theorem e_eCallM (c : Nat) (F : FV) (fo : EF) (g : AF) (ρ : En) : eCallM c F fo g ρ = (fo ρ).bnd fun d ρ1 => match d with
  | .obj c' _ _ => if c' = c then (g ρ1).bnd fun as ρ2 => (match vals as with
    | some ds => (F (d :: ds)).at ρ2
    | none => .bad) else .bad
  | _ => .bad := rfl
@[simp] theorem e_eCallF (i : Nat) (tbl : Nat → Option FV) (g : AF) (ρ : En) : eCallF i tbl g ρ = match (ρ[i]? : Option Sl) with
  | some (Sl.sh (D.fn m)) => (match tbl m with
    | some F => eCall F [] g ρ
    | none => .bad)
  | _ => .bad := rfl
@[simp] theorem e_eOwnEq (neg : Bool) (c : Nat) (F : FV) (fa fb : EF) (ρ : En) : eOwnEq neg c F fa fb ρ = (fa ρ).bnd fun d ρ1 => (fb ρ1).bnd fun e ρ2 => match d with
  | .obj c' _ _ => if c' = c ∧ eqArg c e = true then (match F [d, e] with
    | .ok (.bl r) => .ok (.bl (if neg = true then !r else r)) ρ2
    | _ => .bad) else .bad
  | _ => .bad := rfl
@[simp] theorem e_eIsC (c : Nat) (f : En → Rs Ar) (ρ : En) : eIsC c f ρ = (f ρ).bnd fun a ρ1 => match look ρ1 a with
  | some d => opt (isCD c d) ρ1
  | none => .bad := rfl
@[simp] theorem e_eChain (g g' : D → D → Option D) (fa fb fc : En → Rs Ar) (ρ : En) : eChain g g' fa fb fc ρ = (fa ρ).bnd fun x ρ1 => (fb ρ1).bnd fun y ρ2 => match r2 g x y ρ2 with
  | .ok (.bl true) ρ3 => (fc ρ3).bnd fun z ρ4 => r2 g' y z ρ4
  | .ok (.bl false) ρ3 => .ok (.bl false) ρ3
  | _ => .bad := rfl
@[simp] theorem e_eMethR (ok : D → Bool) (g : D → D → Option D) (fo : EF) (fe : EF) (ρ : En) : eMethR ok g fo fe ρ = (fo ρ).bnd fun l ρ1 => if ok l = true then (fe ρ1).bnd fun d ρ2 => opt (g l d) ρ2 else .bad := rfl
@[simp] theorem isLst_l (ds : List D) : isLst (.lst ds) = true := rfl
@[simp] theorem e_iEnum (f : EF) (ρ : En) : iEnum f ρ = (f ρ).bnd fun d ρ' => opt ((itemsD d).map enumL) ρ' := rfl
@[simp] theorem e_iZip (f g : EF) (ρ : En) : iZip f g ρ = (f ρ).bnd fun d ρ1 => (g ρ1).bnd fun e ρ2 => opt ((itemsD d).bind fun ds => (itemsD e).map fun es => zipL ds es) ρ2 := rfl
@[simp] theorem e_iItems (f : EF) (ρ : En) : iItemsJ f ρ = (f ρ).bnd fun d ρ' => match d with
  | .dct ks vs => .ok (dPairs ks vs) ρ'
  | _ => .bad := rfl
@[simp] theorem e_iVals (f : EF) (ρ : En) : iValsJ f ρ = (f ρ).bnd fun d ρ' => match d with
  | .dct _ vs => .ok vs ρ'
  | _ => .bad := rfl
@[simp] theorem e_iKeys (f : EF) (ρ : En) : iKeysJ f ρ = (f ρ).bnd fun d ρ' => match d with
  | .dct ks _ => .ok ks ρ'
  | _ => .bad := rfl
@[simp] theorem e_eGet2 (fo : En → Rs Ar) (fe fx : EF) (ρ : En) : eGet2 fo fe fx ρ = (fo ρ).bnd fun a ρ1 => match look ρ1 a with
  | some (.dct _ _) => (fe ρ1).bnd fun y ρ2 => (fx ρ2).bnd fun z ρ3 => (match look ρ3 a with
    | some (.dct ks vs) => if isKey y = true then .ok ((dLook y ks vs).getD z) ρ3 else .bad
    | _ => .bad)
  | _ => .bad := rfl
@[simp] theorem e_sPutD (i : Nat) (f h : EF) (ρ : En) : sPutD i f h ρ = (f ρ).bnd fun d ρ1 => match ownD ρ1 i with
  | some _ => (h ρ1).bnd fun y ρ2 => (match ownD ρ2 i with
    | some (ks, vs) => if isKey y = true ∧ ks.length < 1000000 then .ok .nx (ρ2.set i (.ow (.dct (dPutK y ks) (dPutV y d ks vs)))) else .bad
    | none => .bad)
  | none => .bad := rfl
@[simp] theorem ownD_some (ρ : En) (i : Nat) : ownD ρ i = match (ρ[i]? : Option Sl) with
  | some (Sl.ow (D.dct ks vs)) => some (ks, vs)
  | _ => none := rfl
@[simp] theorem ownO_some (ρ : En) (i : Nat) : ownO ρ i = match (ρ[i]? : Option Sl) with
  | some (Sl.ow (D.obj c ns vs)) => some (c, ns, vs)
  | _ => none := rfl
@[simp] theorem e_eNewD (ρ : En) : eNewD ρ = .ok (.dct [] []) ρ := rfl
@[simp] theorem e_eDisp (fs : List (EF × EF)) (ρ : En) : eDisp fs ρ = (evalPs fs ρ).bnd fun ps ρ' => opt (dictOf ps) ρ' := rfl
@[simp] theorem e_evalPs_nil (ρ : En) : evalPs [] ρ = .ok [] ρ := rfl
@[simp] theorem e_evalPs_cons (f g : EF) (r : List (EF × EF)) (ρ : En) : evalPs ((f, g) :: r) ρ = (f ρ).bnd fun k ρ1 => (g ρ1).bnd fun v ρ2 => (evalPs r ρ2).bnd fun ps ρ3 => .ok ((k, v) :: ps) ρ3 := rfl
@[simp] theorem e_eListD (g : D → Option D) (fo : En → Rs Ar) (ρ : En) : eListD g fo ρ = (fo ρ).bnd fun a ρ1 => match look ρ1 a with
  | some d => opt (g d) ρ1
  | none => .bad := rfl
@[simp] theorem dkeys_d (ks vs : List D) : dkeysD (.dct ks vs) = some (.lst ks) := rfl
@[simp] theorem dvals_d (ks vs : List D) : dvalsD (.dct ks vs) = some (.lst vs) := rfl
@[simp] theorem ditems_d (ks vs : List D) : ditemsD (.dct ks vs) = some (.lst (dPairs ks vs)) := rfl
@[simp] theorem len_d (ks vs : List D) : lenD (.dct ks vs) = some (.int ks.length) := rfl
@[simp] theorem isKey_i (i : Int) : isKey (.int i) = true := rfl
@[simp] theorem isKey_s (s : Str) : isKey (.str s) = true := rfl
@[simp] theorem dget_d (ks vs : List D) (y : D) : dgetD (.dct ks vs) y = if isKey y = true then dLook y ks vs else none := rfl
@[simp] theorem din_d (neg : Bool) (y : D) (ks vs : List D) : dinD neg y (.dct ks vs) = if isKey y = true then some (.bl (if neg = true then !(dLook y ks vs).isSome else (dLook y ks vs).isSome)) else none := rfl
@[simp] theorem e_sAug (i : Nat) (g : D → D → Option D) (f : EF) (ρ : En) : sAug i g f ρ = match ρ[i]? with
  | some (.sh a) => (f ρ).bnd fun b ρ' => match g a b with
    | some c => .ok .nx (ρ'.set i (.sh c))
    | none => .bad
  | _ => .bad := rfl
@[simp] theorem iadd_ii (a b : Int) : iaddD (.int a) (.int b) = some (.int (a + b)) := rfl
@[simp] theorem isub_ii (a b : Int) : isubD (.int a) (.int b) = some (.int (a - b)) := rfl
@[simp] theorem e_sParC (is : List Nat) (fs : List (Bool × EF)) (ρ : En) : sParC is fs ρ = (evalC fs ρ).bnd fun ds ρ' => .ok .nx (setSl ρ' is (fs.map (·.1)) ds) := rfl
@[simp] theorem evalC_nil (ρ : En) : evalC [] ρ = .ok [] ρ := rfl
@[simp] theorem evalC_cons (o : Bool) (f : EF) (r : List (Bool × EF)) (ρ : En) : evalC ((o, f) :: r) ρ = (f ρ).bnd fun d ρ1 => (evalC r ρ1).bnd fun ds ρ2 => .ok (d :: ds) ρ2 := rfl
@[simp] theorem setSl_nil (ρ : En) (os : List Bool) (ds : List D) : setSl ρ [] os ds = ρ := by cases os <;> rfl
@[simp] theorem setSl_cons (ρ : En) (i : Nat) (is : List Nat) (o : Bool) (os : List Bool) (d : D) (ds : List D) : setSl ρ (i :: is) (o :: os) (d :: ds) = (setSl ρ is os ds).set i (if o = true then .ow d else .sh d) := rfl
@[simp] theorem e_sFldJ (i n : Nat) (ok : Nat → Bool) (f : EF) (ρ : En) : sFldJ i n ok f ρ = (f ρ).bnd fun d ρ1 => match ownO ρ1 i with
  | some (c, ns, vs) => if ok c = true ∧ ns.length < 1000 then .ok .nx (ρ1.set i (.ow (.obj c (putNs n ns) (putVs n d ns vs)))) else .bad
  | none => .bad := rfl
@[simp] theorem e_sTryMany (hs : List HJ) (f : SF) (ρ : En) : sTryMany hs f ρ = match f ρ with
  | .ok fl ρ' => .ok fl ρ'
  | .bad => .bad
  | .ex c ns vs ρ' => handleJ c ns vs hs ρ' := rfl
@[simp] theorem handle_nil (c : Nat) (ns : List Nat) (vs : List D) (ρ : En) : handleJ c ns vs [] ρ = .ex c ns vs ρ := rfl
@[simp] theorem handle_cons (c : Nat) (ns : List Nat) (vs : List D) (i : Nat) (hm : Nat → Option Bool) (g : SF) (r : List HJ) (ρ : En) : handleJ c ns vs ((i, hm, g) :: r) ρ = match hm c with
    | some true => if noEx ρ = true then (g (ρ.set i (.ex c ns vs))).out i else .bad
    | some false => handleJ c ns vs r ρ
    | none => .bad := rfl
def toI : Rs Fl → Rv
  | .ok .nx ρ => (match (ρ[0]? : Option Sl) with
    | some (Sl.ow d) => .ok d
    | _ => .bad)
  | .ex c ns vs _ => .ex c ns vs
  | _ => .bad
@[simp] theorem e_fnI (m c : Nat) (body : SF) (ds : List D) : fnI m c body ds = toI (body (.ow (.obj c [] []) :: (ds.map .sh ++ List.replicate m .no))) := by
  unfold fnI toI
  cases body (.ow (.obj c [] []) :: (ds.map .sh ++ List.replicate m .no)) with
  | ok a ρ => cases a <;> rfl
  | _ => rfl
@[simp] theorem toI_nx (d : D) (ρ : En) : toI (.ok .nx (.ow d :: ρ)) = .ok d := rfl
@[simp] theorem toI_ex (c : Nat) (ns : List Nat) (vs : List D) (ρ : En) : toI (.ex c ns vs ρ) = .ex c ns vs := rfl
@[simp] theorem intD_b (b : Bool) : J.intD (.bl b) = some (.int (if b = true then 1 else 0)) := by cases b <;> rfl
@[simp] theorem isCD_t (c : Nat) (ds : List D) : isCD c (.tup ds) = some (.bl false) := rfl
@[simp] theorem isCD_o (c c' : Nat) (ns : List Nat) (vs : List D) : isCD c (.obj c' ns vs) = if c' = c then some (.bl true) else none := rfl
@[simp] theorem min2X_ii (a b : Int) : min2X (.int a) (.int b) = some (.int (if b < a then b else a)) := rfl
@[simp] theorem mulX_ii (a b : Int) : mulX (.int a) (.int b) = mulD (.int a) (.int b) := rfl
@[simp] theorem mulX_l (ds : List D) (b : D) : mulX (.lst ds) b = mulD (.lst ds) b := rfl

/-! ### loops by what they do -/
inductive Ou (σ : Type) where
  | go (s : σ) | rt (d : D) | ex (c : Nat) (ns : List Nat) (vs : List D)
def Ou.run {σ α : Type} (step : σ → α → Ou σ) : List α → σ → Ou σ
  | [], s => .go s
  | a :: l, s => match step s a with
    | .go s' => Ou.run step l s'
    | .rt d => .rt d
    | .ex c ns vs => .ex c ns vs
/-- how a loop's end shows in the slots -/
def IsOu {σ : Type} (R : σ → En → Prop) (r : Rs Fl) (o : Ou σ) : Prop := match o with
  | .go s => ∃ ρ', r = .ok .nx ρ' ∧ R s ρ'
  | .rt d => ∃ ρ', r = .ok (.rt d) ρ'
  | .ex c ns vs => ∃ ρ', r = .ex c ns vs ρ'
theorem forS_ou {σ α : Type} {b : BF} {body : SF} {e : α → D} (R : σ → En → Prop) (step : σ → α → Ou σ) : ∀ {l : List α} {s : σ} {ρ : En}, (∀ a ∈ l, ∀ s ρ, R s ρ → IsOu R (forS b body [e a] ρ) (step s a)) → R s ρ → IsOu R (forS b body (l.map e) ρ) (Ou.run step l s)
  | [], s, ρ, _, h => ⟨ρ, rfl, h⟩
  | a :: l, s, ρ, hs, h => by
    have h1 := hs a List.mem_cons_self s ρ h
    rw [List.map_cons, forS_step]
    unfold Ou.run
    cases e1 : step s a with
    | go s' =>
      rw [e1] at h1
      obtain ⟨ρ', e2, h2⟩ := h1
      rw [e2, Rs.sq_nx]
      exact forS_ou R step (fun c hc => hs c (List.mem_cons_of_mem _ hc)) h2
    | rt d =>
      rw [e1] at h1
      obtain ⟨ρ', e2⟩ := h1
      rw [e2]
      exact ⟨ρ', rfl⟩
    | ex c ns vs =>
      rw [e1] at h1
      obtain ⟨ρ', e2⟩ := h1
      rw [e2]
      exact ⟨ρ', rfl⟩
/-- a loop that never ends early -/
theorem forS_fold {σ α : Type} {b : BF} {body : SF} {e : α → D} (R : σ → En → Prop) (step : σ → α → σ) : ∀ {l : List α} {s : σ} {ρ : En}, (∀ a ∈ l, ∀ s ρ, R s ρ → ∃ ρ', forS b body [e a] ρ = .ok .nx ρ' ∧ R (step s a) ρ') → R s ρ → ∃ ρ', forS b body (l.map e) ρ = .ok .nx ρ' ∧ R (l.foldl step s) ρ'
  | [], s, ρ, _, h => ⟨ρ, rfl, h⟩
  | a :: l, s, ρ, hs, h => by
    obtain ⟨ρ', e2, h2⟩ := hs a List.mem_cons_self s ρ h
    rw [List.map_cons, forS_step, e2, Rs.sq_nx]
    exact forS_fold R step (fun c hc => hs c (List.mem_cons_of_mem _ hc)) h2
/-- a loop that adds what passes to a list -/
theorem forS_filter {α σ : Type} {b : BF} {body : SF} {e : α → D} (p : α → Bool) (q : α → D) (mk : List D → σ → En) (m : Nat) : ∀ {l : List α} {acc : List D} {x : σ}, acc.length + l.length ≤ m → (∀ a ∈ l, ∀ acc x, acc.length < m → ∃ y, forS b body [e a] (mk acc x) = .ok .nx (mk (if p a = true then acc ++ [q a] else acc) y)) →
    ∃ y, forS b body (l.map e) (mk acc x) = .ok .nx (mk (acc ++ (l.filter p).map q) y)
  | [], acc, x, _, _ => ⟨x, by simp⟩
  | a :: l, acc, x, hm, h => by
    rw [List.length_cons] at hm
    obtain ⟨y, e1⟩ := h a List.mem_cons_self acc x (by omega)
    rw [List.map_cons, forS_step, e1, Rs.sq_nx]
    cases hp : p a with
    | true =>
      obtain ⟨z, e2⟩ := forS_filter p q mk m (l := l) (acc := acc ++ [q a]) (x := y) (by simp; omega) fun c hc => h c (List.mem_cons_of_mem _ hc)
      refine ⟨z, ?_⟩
      rw [if_pos rfl, e2, List.filter_cons_of_pos hp, List.map_cons, List.append_assoc]
      rfl
    | false =>
      obtain ⟨z, e2⟩ := forS_filter p q mk m (l := l) (acc := acc) (x := y) (by omega) fun c hc => h c (List.mem_cons_of_mem _ hc)
      refine ⟨z, ?_⟩
      rw [if_neg Bool.false_ne_true, e2, List.filter_cons_of_neg (by rw [hp]; exact Bool.false_ne_true)]
/-- a comprehension whose slots do not change, one item a turn or none -/
theorem lcS_filter {α : Type} {b : BF} {vs : List Nat} {t : TF} {f : EF} {ρ : En} {e : α → D} {l : List α} (p : α → Bool) (q : α → D) (h : ∀ a ∈ l, lcS b vs t f [e a] [] ρ = .ok (.lst (if p a = true then [q a] else [])) ρ) : lcS b vs t f (l.map e) [] ρ = .ok (.lst ((l.filter p).map q)) ρ := by
  rw [lcS_all h, List.nil_append, flat_filter]
theorem lcS_map {α : Type} {b : BF} {vs : List Nat} {t : TF} {f : EF} {ρ : En} {e : α → D} {l : List α} (q : α → D) (h : ∀ a ∈ l, lcS b vs t f [e a] [] ρ = .ok (.lst [q a]) ρ) : lcS b vs t f (l.map e) [] ρ = .ok (.lst (l.map q)) ρ := by
  rw [lcS_all h, List.nil_append]
  congr 2
  induction l with
  | nil => rfl
  | cons a l ih => rw [List.flatMap_cons, ih fun c hc => h c (List.mem_cons_of_mem _ hc)]; rfl

/-! ### data -/
theorem okEs_map {α : Type} {f : α → D} {n : Nat} (h : ∀ a, okE n (f a) = true) (l : List α) : okEs n (l.map f) = true := okEs_all fun d hd => by
  obtain ⟨a, _, rfl⟩ := List.mem_map.mp hd
  exact h a
theorem eqvs_map {α : Type} [DecidableEq α] {f : α → D} (h : ∀ a b, eqv (f a) (f b) = decide (a = b)) : ∀ l l' : List α, eqvs (l.map f) (l'.map f) = decide (l = l')
  | [], [] => rfl
  | [], _ :: _ => by simp [eqvs]
  | _ :: _, [] => by simp [eqvs]
  | a :: l, b :: l' => by
    rw [List.map_cons, List.map_cons]
    show (eqv (f a) (f b) && eqvs _ _) = _
    rw [h, eqvs_map h l l', Bool.eq_iff_iff]
    simp
@[simp] theorem okE_int (n : Nat) (i : Int) : okE n (.int i) = true := by cases n <;> rfl
@[simp] theorem okE_str (n : Nat) (i : Str) : okE n (.str i) = true := by cases n <;> rfl
@[simp] theorem okE_bl (n : Nat) (i : Bool) : okE n (.bl i) = true := by cases n <;> rfl
@[simp] theorem okE_non (n : Nat) : okE n .non = true := by cases n <;> rfl
@[simp] theorem okE_tup (n : Nat) (ds : List D) : okE (n + 1) (.tup ds) = okEs n ds := rfl
@[simp] theorem okE_lst (n : Nat) (ds : List D) : okE (n + 1) (.lst ds) = okEs n ds := rfl
@[simp] theorem okEs_nil (n : Nat) : okEs n [] = true := by cases n <;> rfl
@[simp] theorem okEs_cons (n : Nat) (d : D) (ds : List D) : okEs n (d :: ds) = (okE n d && okEs n ds) := by cases n <;> rfl
@[simp] theorem okEs_ints (n : Nat) (l : List Int) : okEs n (l.map D.int) = true := okEs_map (fun _ => okE_int _ _) l
@[simp] theorem okEs_strs (n : Nat) (l : List Str) : okEs n (l.map D.str) = true := okEs_map (fun _ => okE_str _ _) l
theorem okEs_append (n : Nat) : ∀ l l' : List D, okEs n (l ++ l') = (okEs n l && okEs n l')
  | [], l' => by simp
  | a :: l, l' => by simp [okEs_append n l l', Bool.and_assoc]
theorem eqv_ii (a b : Int) : eqv (.int a) (.int b) = decide (a = b) := by
  show (a == b) = _
  rw [Bool.eq_iff_iff]; simp
theorem eqv_ss (a b : Str) : eqv (.str a) (.str b) = decide (a = b) := by
  show (a == b) = _
  rw [Bool.eq_iff_iff]; simp
theorem eqvs_ints (l l' : List Int) : eqvs (l.map D.int) (l'.map D.int) = decide (l = l') := eqvs_map eqv_ii l l'
theorem eqvs_strs (l l' : List Str) : eqvs (l.map D.str) (l'.map D.str) = decide (l = l') := eqvs_map eqv_ss l l'
theorem eqv_tt (a b : List D) : eqv (.tup a) (.tup b) = eqvs a b := rfl
theorem eqv_ll (a b : List D) : eqv (.lst a) (.lst b) = eqvs a b := rfl
theorem eqvs_cc (a b : D) (l l' : List D) : eqvs (a :: l) (b :: l') = (eqv a b && eqvs l l') := rfl
theorem any_ints (l : List Int) (k : Int) : ((l.map D.int).any fun z => eqv z (.int k)) = decide (k ∈ l) := by
  induction l with
  | nil => simp
  | cons a l ih =>
    rw [List.map_cons, List.any_cons, ih, eqv_ii, Bool.eq_iff_iff]
    simp only [Bool.or_eq_true, decide_eq_true_eq, List.mem_cons]
    exact ⟨fun h => h.imp Eq.symm id, fun h => h.imp Eq.symm id⟩
theorem any_strs (l : List Str) (k : Str) : ((l.map D.str).any fun z => eqv z (.str k)) = decide (k ∈ l) := by
  induction l with
  | nil => simp
  | cons a l ih =>
    rw [List.map_cons, List.any_cons, ih, eqv_ss, Bool.eq_iff_iff]
    simp only [Bool.or_eq_true, decide_eq_true_eq, List.mem_cons]
    exact ⟨fun h => h.imp Eq.symm id, fun h => h.imp Eq.symm id⟩
theorem inX_tints (neg : Bool) (l : List Int) (k : Int) : inX neg (.int k) (.tup (l.map D.int)) = some (.bl (if neg = true then !decide (k ∈ l) else decide (k ∈ l))) := by
  simp only [inX, any_ints]
  rw [if_pos ⟨okE_int _ _, okEs_ints 59 l⟩]
theorem inX_lints (neg : Bool) (l : List Int) (k : Int) : inX neg (.int k) (.lst (l.map D.int)) = some (.bl (if neg = true then !decide (k ∈ l) else decide (k ∈ l))) := by
  simp only [inX, inD, any_ints]
  rw [if_pos ⟨okE_int _ _, okEs_ints 59 l⟩]
theorem inX_tstrs (neg : Bool) (l : List Str) (k : Str) : inX neg (.str k) (.tup (l.map D.str)) = some (.bl (if neg = true then !decide (k ∈ l) else decide (k ∈ l))) := by
  simp only [inX, any_strs]
  rw [if_pos ⟨okE_str _ _, okEs_strs 59 l⟩]
theorem inX_lstrs (neg : Bool) (l : List Str) (k : Str) : inX neg (.str k) (.lst (l.map D.str)) = some (.bl (if neg = true then !decide (k ∈ l) else decide (k ∈ l))) := by
  simp only [inX, inD, any_strs]
  rw [if_pos ⟨okE_str _ _, okEs_strs 59 l⟩]
theorem enumL_map {α : Type} (f : α → D) (l : List α) : enumL (l.map f) = l.zipIdx.map fun p => D.tup [.int (p.2 : Nat), f p.1] := by
  unfold enumL
  rw [List.zipIdx_map, List.map_map]
  rfl
theorem zipL_map {α β : Type} (f : α → D) (g : β → D) (l : List α) (l' : List β) : zipL (l.map f) (l'.map g) = (l.zip l').map fun p => D.tup [f p.1, g p.2] := by
  unfold zipL
  rw [List.zip_map, List.map_map]
  rfl

/-! ### sorted, least, most -/
theorem sortE_is {ds L : List D} (ho : ordOk ds = true) (hp : L.Perm ds) (hs : L.Pairwise fun a b => ltE b a = false) (ha : ∀ a ∈ L, ∀ b ∈ L, ltE a b = false → ltE b a = false → a = b) : sortE ds = L := by
  obtain ⟨h1, h2, h3⟩ := ordOk_iff.mp ho
  have tl := PySem.W.sortLe_total (listOrd itemOrd) false fun b => PySem.W.keyToks (toPy b)
  have key : ∀ a ∈ ds, ∀ b ∈ ds, PySem.W.dataLe false toPy a b = !ltE b a := fun a ha b hb => by
    rw [← lt_py (okEs_mem h1 b hb) (okEs_mem h1 a ha) (h2 b hb a ha)]
    rfl
  have p1 : (sortE ds).Perm ds := List.mergeSort_perm ds _
  have w1 : (sortE ds).Pairwise fun a b => PySem.W.dataLe false toPy a b = true := List.pairwise_mergeSort tl.trans (fun a b => Bool.or_eq_true_iff.mpr (tl.total a b)) ds
  have w2 : L.Pairwise fun a b => PySem.W.dataLe false toPy a b = true := by
    refine List.Pairwise.imp_of_mem (fun {a b} ha hb h => ?_) hs
    rw [key a (hp.subset ha) b (hp.subset hb), h]; rfl
  refine List.Perm.eq_of_pairwise (le := fun a b => PySem.W.dataLe false toPy a b = true) (fun a b h4 h5 h6 h7 => ?_) w1 w2 (p1.trans hp.symm)
  have ad := p1.subset h4
  have bd := hp.subset h5
  rw [key a ad b bd] at h6
  rw [key b bd a ad] at h7
  exact ha a (hp.symm.subset ad) b h5 (by simpa using h7) (by simpa using h6)
theorem leastE_is {d m : D} {ds : List D} (hm : m ∈ d :: ds) (hl : ∀ x ∈ d :: ds, ltE x m = false) (ht : ∀ a ∈ d :: ds, ∀ b ∈ d :: ds, ∀ c ∈ d :: ds, ltE b a = false → ltE c b = false → ltE c a = false) (hr : ∀ a ∈ d :: ds, ltE a a = false) (ho : ∀ a ∈ d :: ds, ∀ b ∈ d :: ds, ltE a b = true → ltE b a = false) (ha : ∀ a ∈ d :: ds, ltE a m = false → ltE m a = false → a = m) : leastE d ds = m := by
  have low : ∀ (l : List D) (a : D), (∀ x ∈ a :: l, x ∈ d :: ds) → ∀ x ∈ a :: l, ltE x (leastE a l) = false := by
    intro l
    induction l with
    | nil => intro a ha x hx; rw [List.mem_singleton.mp hx]; exact hr a (ha a List.mem_cons_self)
    | cons y l ih =>
      intro a hs x hx
      have ma := hs a List.mem_cons_self
      have my := hs y (List.mem_cons_of_mem _ List.mem_cons_self)
      show ltE x (leastE (if ltE y a = true then y else a) l) = false
      by_cases hc : ltE y a = true
      · rw [if_pos hc]
        have q := ih y fun z hz => hs z (List.mem_cons_of_mem _ hz)
        have mm : leastE y l ∈ d :: ds := hs _ (List.mem_cons_of_mem _ (leastE_mem l y))
        rcases List.mem_cons.mp hx with rfl | hx
        · exact ht _ mm y my x ma (q y List.mem_cons_self) (ho y my x ma hc)
        · exact q x hx
      · rw [if_neg hc]
        have q := ih a fun z hz => hs z (by rcases List.mem_cons.mp hz with rfl | hz; exact List.mem_cons_self; exact List.mem_cons_of_mem _ (List.mem_cons_of_mem _ hz))
        have mm : leastE a l ∈ d :: ds := hs _ (by rcases List.mem_cons.mp (leastE_mem l a) with e | hz; rw [e]; exact List.mem_cons_self; exact List.mem_cons_of_mem _ (List.mem_cons_of_mem _ hz))
        rcases List.mem_cons.mp hx with rfl | hx
        · exact q x List.mem_cons_self
        · rcases List.mem_cons.mp hx with rfl | hx
          · exact ht _ mm a ma x my (q a List.mem_cons_self) (by simpa using hc)
          · exact q x (List.mem_cons_of_mem _ hx)
  exact ha _ (leastE_mem ds d) (hl _ (leastE_mem ds d)) (low ds d (fun x hx => hx) m hm)
theorem likeEs_ints : ∀ l l' : List Int, likeEs (l.map D.int) (l'.map D.int) = true
  | [], _ => rfl
  | _ :: _, [] => rfl
  | a :: l, b :: l' => by
    rw [List.map_cons, List.map_cons]
    show (true && likeEs _ _) = true
    rw [likeEs_ints l l', Bool.and_true]
theorem likeEs_strs : ∀ l l' : List Str, likeEs (l.map D.str) (l'.map D.str) = true
  | [], _ => rfl
  | _ :: _, [] => rfl
  | a :: l, b :: l' => by
    rw [List.map_cons, List.map_cons]
    show (true && likeEs _ _) = true
    rw [likeEs_strs l l', Bool.and_true]
theorem ltEs_ints_self : ∀ l : List Int, ltEs (l.map D.int) (l.map D.int) = false
  | [] => rfl
  | a :: l => by
    rw [List.map_cons]
    show (if eqv _ _ = true then ltEs _ _ else _) = false
    rw [eqv_ii, if_pos (by simp), ltEs_ints_self l]
theorem ltE_ii (a b : Int) : ltE (.int a) (.int b) = decide (a < b) := rfl
theorem ltE_tt (a b : List D) : ltE (.tup a) (.tup b) = ltEs a b := rfl
theorem ltE_ll (a b : List D) : ltE (.lst a) (.lst b) = ltEs a b := rfl
theorem ltEs_cc (a b : D) (l l' : List D) : ltEs (a :: l) (b :: l') = if eqv a b = true then ltEs l l' else ltE a b := rfl
theorem ltEs_i (a b : Int) (l l' : List D) : ltEs (.int a :: l) (.int b :: l') = if a = b then ltEs l l' else decide (a < b) := by
  rw [ltEs_cc, eqv_ii, ltE_ii]
  by_cases h : a = b
  · rw [if_pos (by simpa using h), if_pos h]
  · rw [if_neg (by simpa using h), if_neg h]
theorem ltEs_nil (l : List D) : ltEs l [] = false := by cases l <;> rfl
theorem allLike_of {ds : List D} (h : ∀ x ∈ ds, ∀ y ∈ ds, likeE x y = true) : allLike ds = true := List.all_eq_true.mpr fun x hx => List.all_eq_true.mpr fun y hy => h x hx y hy
theorem noNon_of {ds : List D} (h : ∀ x ∈ ds, x ≠ .non) : noNon ds = true := List.all_eq_true.mpr fun x hx => by
  have := h x hx
  cases x <;> first | rfl | exact absurd rfl this
theorem ordOk_of {ds : List D} (h1 : okEs 59 ds = true) (h2 : ∀ x ∈ ds, ∀ y ∈ ds, likeE x y = true) (h3 : ∀ x ∈ ds, x ≠ .non) : ordOk ds = true := ordOk_iff.mpr ⟨h1, h2, h3⟩
/-- the first of a sorted list -/
theorem sortE_head {ds : List D} {m : D} (ho : ordOk ds = true) (hm : m ∈ ds) (hl : ∀ x ∈ ds, ltE x m = false) (ha : ∀ x ∈ ds, ltE x m = false → ltE m x = false → x = m) : ∃ r, sortE ds = m :: r := by
  obtain ⟨h1, h2, h3⟩ := ordOk_iff.mp ho
  have tl := PySem.W.sortLe_total (listOrd itemOrd) false fun b => PySem.W.keyToks (toPy b)
  have key : ∀ a ∈ ds, ∀ b ∈ ds, PySem.W.dataLe false toPy a b = !ltE b a := fun a ha b hb => by
    rw [← lt_py (okEs_mem h1 b hb) (okEs_mem h1 a ha) (h2 b hb a ha)]
    rfl
  have p1 : (sortE ds).Perm ds := List.mergeSort_perm ds _
  have w1 : (sortE ds).Pairwise fun a b => PySem.W.dataLe false toPy a b = true := List.pairwise_mergeSort tl.trans (fun a b => Bool.or_eq_true_iff.mpr (tl.total a b)) ds
  cases e : sortE ds with
  | nil => rw [e] at p1; exact absurd (p1.symm.subset hm) List.not_mem_nil
  | cons a r =>
    rw [e] at p1 w1
    have ma : a ∈ ds := p1.subset List.mem_cons_self
    have mm := p1.symm.subset hm
    have : a = m := by
      rcases List.mem_cons.mp mm with q | q
      · exact q.symm
      · have h5 := (List.pairwise_cons.mp w1).1 m q
        rw [key a ma m hm] at h5
        exact ha a ma (hl a ma) (by simpa using h5)
    exact ⟨r, by rw [this]⟩
/-- the first of the least -/
def pickR {α : Type} (t : α → Int) : List α → Option α
  | [] => none
  | x :: l => match pickR t l with
    | none => some x
    | some y => if t y < t x then some y else some x
theorem pickR_none {α : Type} {t : α → Int} : ∀ {l : List α}, pickR t l = none → l = []
  | [], _ => rfl
  | x :: l, h => by
    rw [pickR] at h
    split at h
    · cases h
    · split at h <;> cases h
theorem pickR_min {α : Type} {t : α → Int} {R : α → α → Prop} : ∀ {l : List α} {m : α}, l.Pairwise R → pickR t l = some m → m ∈ l ∧ ∀ x ∈ l, t m < t x ∨ (t m = t x ∧ (x = m ∨ R m x))
  | [], _, _, h => by cases h
  | x :: l, m, hp, h => by
    obtain ⟨hx, hp⟩ := List.pairwise_cons.mp hp
    rw [pickR] at h
    split at h
    · rename_i e
      cases h
      rw [pickR_none e]
      exact ⟨List.mem_cons_self, fun z hz => .inr (by rw [List.mem_singleton.mp hz]; exact ⟨rfl, .inl rfl⟩)⟩
    · rename_i y e
      obtain ⟨my, hy⟩ := pickR_min hp e
      split at h
      · rename_i hlt
        cases h
        refine ⟨List.mem_cons_of_mem _ my, fun z hz => ?_⟩
        rcases List.mem_cons.mp hz with rfl | hz
        · exact .inl hlt
        · exact hy z hz
      · rename_i hlt
        cases h
        refine ⟨List.mem_cons_self, fun z hz => ?_⟩
        rcases List.mem_cons.mp hz with rfl | hz
        · exact .inr ⟨rfl, .inl rfl⟩
        · rcases hy z hz with q | ⟨q, _⟩
          · exact .inl (by omega)
          · rcases Int.lt_or_eq_of_le (Int.not_lt.mp hlt) with q2 | q2
            · exact .inl (by omega)
            · exact .inr ⟨by omega, .inr (hx z hz)⟩
theorem pickR_map {α β : Type} (f : α → β) (t : β → Int) : ∀ l : List α, pickR t (l.map f) = (pickR (fun a => t (f a)) l).map f
  | [] => rfl
  | x :: l => by
    rw [List.map_cons, pickR, pickR_map f t l, pickR]
    cases pickR (fun a => t (f a)) l with
    | none => rfl
    | some y => simp only [Option.map_some]; split <;> rfl
def pickS {α : Type} (t : α → Int) (b : Option α) (x : α) : Option α := match b with
  | none => some x
  | some m => if t x < t m then some x else some m
theorem pickS_some {α : Type} (t : α → Int) : ∀ (l : List α) (a : α), l.foldl (pickS t) (some a) = match pickR t l with
    | none => some a
    | some y => if t y < t a then some y else some a
  | [], a => rfl
  | x :: l, a => by
    rw [List.foldl_cons]
    show l.foldl (pickS t) (if t x < t a then some x else some a) = _
    rw [pickR]
    by_cases h : t x < t a
    · rw [if_pos h, pickS_some t l x]
      cases pickR t l with
      | none => simp [h]
      | some y =>
        dsimp only
        by_cases h2 : t y < t x
        · simp [h2, show t y < t a by omega]
        · simp [h2, h]
    · rw [if_neg h, pickS_some t l a]
      cases pickR t l with
      | none => simp [h]
      | some y =>
        dsimp only
        by_cases h2 : t y < t x
        · simp [h2]
        · simp [h2, h]; omega
theorem pickS_none {α : Type} (t : α → Int) (l : List α) : l.foldl (pickS t) none = pickR t l := by
  cases l with
  | nil => rfl
  | cons x l =>
    rw [List.foldl_cons]
    show l.foldl (pickS t) (some x) = _
    rw [pickS_some, pickR]
end J

set_option Elab.async false
set_option linter.all false
set_option maxRecDepth 100000
set_option maxHeartbeats 4000000
namespace J
open PySem PySem.Spec PyProof.Rows L2

/-! ### the checks that many laws share -/
def b_isWhole : SF := sRet (eAndJ (eIsT "int" (rVar 0)) (eNotJ (eIsT "bool" (rVar 0))))
def isWholeF : FV := fnV 0 b_isWhole
def b_isNumber : SF := sRet (eAndJ (eCall isWholeF [] (aCons (rVal (eVar 0)) aNil)) (eChain leD leD (rVar 1) (rVar 0) (rVar 2)))
def isNumberF : FV := fnV 0 b_isNumber
def b_isRow : SF := sRet (eIsTs ["list", "tuple"] (rVar 0))
def isRowF : FV := fnV 0 b_isRow
def b_frz (rec : FV) : SF := sCons (sIf (tB (eIsTs ["list", "tuple"] (rVar 0))) (sRet (eCallB (on1 tupD) (aCons (rVal (eLc (iSeq (eVar 0)) (bName 1) [1] tYesJ (eCall rec [] (aCons (rVal (eVar 1)) aNil)))) aNil))) sNil) (sRet (eVar 0))
def frozenF : Nat → FV
  | 0 => fun _ => .bad
  | n + 1 => fnV 1 (b_frz (frozenF n))
def b_wantNumber (c f : Nat) : SF := sCons (sIf (tNotJ (tB (eCall isNumberF [] (aCons (rVal (eVar 0)) (aCons (rVal (eVar 1)) (aCons (rVal (eVar 2)) aNil)))))) (sRaise c [f] (aCons (rVal (eVar 0)) aNil)) sNil) (sRet (eVar 0))
def wantNumberF (c f : Nat) : FV := fnV 0 (b_wantNumber c f)
def wantRow_b (tbl : Nat → Option FV) (c f : Nat) : SF := sIf (tNotJ (tB (eCallF 1 tbl (aCons (rVal (eVar 4)) aNil)))) (sRaise c [f] (aCons (rVal (eVar 3)) aNil)) sNil
def b_wantRow (tbl : Nat → Option FV) (c f c2 f2' : Nat) : SF :=
  sCons (sIf (tNotJ (tB (eCall isRowF [] (aCons (rVal (eVar 0)) aNil)))) (sRaise c [f] (aCons (rVal (eC .non)) aNil)) sNil)
  (sCons (sFor (iEnum (eVar 0)) (bTup 2 (bCons (bName 3) (bCons (bName 4) bNil))) (wantRow_b tbl c f))
  (sCons (sIf (tB (f2 gtD (rVal (eCallB (on1 lenD) (aCons (rVar 0) aNil))) (rVar 2))) (sRaise c2 [f2'] (aCons (rVal (eVar 2)) aNil)) sNil)
  (sRet (eCall (frozenF 6) [] (aCons (rVal (eVar 0)) aNil)))))
def wantRowF (tbl : Nat → Option FV) (c f c2 f2' : Nat) : FV := fnV 2 (b_wantRow tbl c f c2 f2')

def isInt : D → Bool
  | .int _ => true
  | _ => false
def isSeq : D → Bool
  | .tup _ => true
  | .lst _ => true
  | _ => false
/-- a value of which a check may ask -/
def plain : D → Bool
  | .non => true
  | .bl _ => true
  | .int _ => true
  | .str _ => true
  | .tup _ => true
  | .lst _ => true
  | .dct _ _ => true
  | _ => false
theorem isWhole_ok (d : D) (h : plain d = true) : isWholeF [d] = .ok (.bl (isInt d)) := by
  cases d <;> first | (cases h; done) | simp [isWholeF, b_isWhole, isInt]
def numIn (a b : Int) : D → Bool
  | .int v => decide (a ≤ v ∧ v ≤ b)
  | _ => false
@[simp] theorem numIn_int (a b v : Int) : numIn a b (.int v) = decide (a ≤ v ∧ v ≤ b) := rfl
@[simp] theorem numIn_bl (a b : Int) (v : Bool) : numIn a b (.bl v) = false := rfl
@[simp] theorem numIn_non (a b : Int) : numIn a b .non = false := rfl
@[simp] theorem numIn_str (a b : Int) (s : Str) : numIn a b (.str s) = false := rfl
@[simp] theorem numIn_tup (a b : Int) (s : List D) : numIn a b (.tup s) = false := rfl
@[simp] theorem numIn_lst (a b : Int) (s : List D) : numIn a b (.lst s) = false := rfl
theorem isNumber_ok (d : D) (a b : Int) (h : plain d = true) : isNumberF [d, .int a, .int b] = .ok (.bl (numIn a b d)) := by
  have hw := isWhole_ok d h
  cases d with
  | int v =>
    simp only [isInt] at hw
    by_cases h1 : a ≤ v <;> simp [isNumberF, b_isNumber, hw, h1]
  | scr _ => cases h
  | obj _ _ _ => cases h
  | fn _ => cases h
  | _ =>
    simp only [isInt] at hw
    simp [isNumberF, b_isNumber, hw, numIn]
theorem isRow_ok (d : D) (h : plain d = true) : isRowF [d] = .ok (.bl (isSeq d)) := by
  cases d <;> first | (cases h; done) | simp [isRowF, b_isRow, isSeq]
theorem wantNumber_ok (c f : Nat) (d : D) (a b : Int) (h : plain d = true) : wantNumberF c f [d, .int a, .int b] = if numIn a b d = true then .ok d else .ex c [f] [d] := by
  cases hn : numIn a b d <;> simp [wantNumberF, b_wantNumber, isNumber_ok d a b h, hn]
/-- frozen, by its depth -/
def fzD : Nat → D → D
  | n + 1, .tup ds => .tup (ds.map (fzD n))
  | n + 1, .lst ds => .tup (ds.map (fzD n))
  | _, d => d
def fzOk : Nat → D → Bool
  | 0, _ => false
  | n + 1, .tup ds => ds.all (fzOk n)
  | n + 1, .lst ds => ds.all (fzOk n)
  | _ + 1, .non => true
  | _ + 1, .bl _ => true
  | _ + 1, .int _ => true
  | _ + 1, .str _ => true
  | _ + 1, .dct _ _ => true
  | _, _ => false
theorem frozen_seq {n : Nat} {ds : List D} (h : ∀ d ∈ ds, frozenF n [d] = .ok (fzD n d)) (x : Sl) (X : D) (hX : X = .tup ds ∨ X = .lst ds) : lcS (bName 1) [1] tYesJ (eCall (frozenF n) [] (aCons (rVal (eVar 1)) aNil)) ds [] [.sh X, x] = .ok (.lst (ds.map (fzD n))) [.sh X, x] := by
  have := lcS_map (α := D) (b := bName 1) (vs := [1]) (t := tYesJ) (f := eCall (frozenF n) [] (aCons (rVal (eVar 1)) aNil)) (ρ := [.sh X, x]) (e := fun d => d) (l := ds) (fzD n) fun d hd => by
    simp [lcS, wipeE, rst, h d hd]
  simpa using this
theorem frozen_ok : ∀ (n : Nat) (d : D), fzOk n d = true → frozenF n [d] = .ok (fzD n d)
  | 0, _, h => by cases h
  | n + 1, .tup ds, h => by
    have h' : ∀ d ∈ ds, frozenF n [d] = .ok (fzD n d) := fun d hd => frozen_ok n d (List.all_eq_true.mp h d hd)
    simp [frozenF, b_frz, frozen_seq h' .no _ (.inl rfl), noOw, fzD]
  | n + 1, .lst ds, h => by
    have h' : ∀ d ∈ ds, frozenF n [d] = .ok (fzD n d) := fun d hd => frozen_ok n d (List.all_eq_true.mp h d hd)
    simp [frozenF, b_frz, frozen_seq h' .no _ (.inr rfl), noOw, fzD]
  | n + 1, .non, _ => by simp [frozenF, b_frz, fzD]
  | n + 1, .bl _, _ => by simp [frozenF, b_frz, fzD]
  | n + 1, .int _, _ => by simp [frozenF, b_frz, fzD]
  | n + 1, .str _, _ => by simp [frozenF, b_frz, fzD]
  | n + 1, .dct _ _, _ => by simp [frozenF, b_frz, fzD]
  | n + 1, .obj _ _ _, h => by cases h
  | n + 1, .fn _, h => by cases h
  | n + 1, .scr _, h => by cases h
@[simp] theorem fzD_tup (n : Nat) (ds : List D) : fzD (n + 1) (.tup ds) = .tup (ds.map (fzD n)) := rfl
@[simp] theorem fzD_lst (n : Nat) (ds : List D) : fzD (n + 1) (.lst ds) = .tup (ds.map (fzD n)) := rfl
@[simp] theorem fzD_int (n : Nat) (i : Int) : fzD n (.int i) = .int i := by cases n <;> rfl
@[simp] theorem fzD_str (n : Nat) (i : Str) : fzD n (.str i) = .str i := by cases n <;> rfl
@[simp] theorem fzD_bl (n : Nat) (i : Bool) : fzD n (.bl i) = .bl i := by cases n <;> rfl
@[simp] theorem fzD_non (n : Nat) : fzD n .non = .non := by cases n <;> rfl
@[simp] theorem fzOk_tup (n : Nat) (ds : List D) : fzOk (n + 1) (.tup ds) = ds.all (fzOk n) := rfl
@[simp] theorem fzOk_lst (n : Nat) (ds : List D) : fzOk (n + 1) (.lst ds) = ds.all (fzOk n) := rfl
@[simp] theorem fzOk_int (n : Nat) (i : Int) : fzOk (n + 1) (.int i) = true := rfl
@[simp] theorem fzOk_str (n : Nat) (i : Str) : fzOk (n + 1) (.str i) = true := rfl
@[simp] theorem fzOk_bl (n : Nat) (i : Bool) : fzOk (n + 1) (.bl i) = true := rfl
@[simp] theorem fzOk_non (n : Nat) : fzOk (n + 1) .non = true := rfl
/-- the first bad item of a row -/
def badAt (ok : D → Bool) : List D → Nat → Option Nat
  | [], _ => none
  | d :: ds, i => if ok d = true then badAt ok ds (i + 1) else some i
theorem badAt_none {ok : D → Bool} : ∀ {ds : List D} {i : Nat}, (∀ d ∈ ds, ok d = true) → badAt ok ds i = none
  | [], _, _ => rfl
  | d :: ds, i, h => by
    rw [badAt, if_pos (h d List.mem_cons_self)]
    exact badAt_none fun e he => h e (List.mem_cons_of_mem _ he)
theorem badAt_at {ok : D → Bool} : ∀ {ds es : List D} {d : D} {i : Nat}, (∀ d ∈ ds, ok d = true) → ok d = false → badAt ok (ds ++ d :: es) i = some (i + ds.length)
  | [], es, d, i, _, h => by simp [badAt, h]
  | x :: ds, es, d, i, h, hd => by
    rw [List.cons_append, badAt, if_pos (h x List.mem_cons_self), badAt_at (fun e he => h e (List.mem_cons_of_mem _ he)) hd]
    simp; omega
theorem wantRow_ou {tbl : Nat → Option FV} {k c f : Nat} {F : FV} {ok : D → Bool} (ht : tbl k = some F) (X M : D) : ∀ (ds : List D) (i : Nat) (hF : ∀ d ∈ ds, F [d] = .ok (.bl (ok d))) (a b : Sl),
    match badAt ok ds i with
    | none => ∃ a' b', forS (bTup 2 (bCons (bName 3) (bCons (bName 4) bNil))) (wantRow_b tbl c f) ((ds.zipIdx i).map fun p => .tup [.int (p.2 : Nat), p.1]) [.sh X, .sh (.fn k), .sh M, a, b] = .ok .nx [.sh X, .sh (.fn k), .sh M, a', b']
    | some j => ∃ ρ', forS (bTup 2 (bCons (bName 3) (bCons (bName 4) bNil))) (wantRow_b tbl c f) ((ds.zipIdx i).map fun p => .tup [.int (p.2 : Nat), p.1]) [.sh X, .sh (.fn k), .sh M, a, b] = .ex c [f] [.int (j : Nat)] ρ'
  | [], i, _, a, b => ⟨a, b, rfl⟩
  | d :: ds, i, hF, a, b => by
    have h1 := hF d List.mem_cons_self
    have ih := wantRow_ou (c := c) (f := f) ht X M ds (i + 1) (fun e he => hF e (List.mem_cons_of_mem _ he)) (.sh (.int i)) (.sh d)
    rw [List.zipIdx_cons, List.map_cons, forS_cons]
    cases hk : ok d with
    | true =>
      rw [badAt, if_pos hk]
      have e1 : wantRow_b tbl c f [.sh X, .sh (.fn k), .sh M, .sh (.int i), .sh d] = .ok .nx [.sh X, .sh (.fn k), .sh M, .sh (.int i), .sh d] := by
        simp [wantRow_b, ht, h1, hk]
      simp only [e_bTup, e_bCons, e_bName, e_bNil, List.length_cons, List.length_nil, if_pos, Option.bind_some, List.set_cons_succ, List.set_cons_zero, e1, Rs.sq_nx]
      exact ih
    | false =>
      rw [badAt, if_neg (by rw [hk]; exact Bool.false_ne_true)]
      refine ⟨[.sh X, .sh (.fn k), .sh M, .sh (.int i), .sh d], ?_⟩
      simp [wantRow_b, ht, h1, hk]
/-- want_row, whole -/
theorem wantRow_spec {tbl : Nat → Option FV} {k c f c2 f2' : Nat} {F : FV} {ok : D → Bool} (ht : tbl k = some F) (X : D) (m : Int) (hp : plain X = true) (ds : List D) (hX : X = .lst ds ∨ X = .tup ds) (hF : ∀ d ∈ ds, F [d] = .ok (.bl (ok d))) (hz : ds.length ≤ m → (∀ d ∈ ds, ok d = true) → fzOk 6 X = true) :
    wantRowF tbl c f c2 f2' [X, .fn k, .int m] = match badAt ok ds 0 with
      | some j => .ex c [f] [.int (j : Nat)]
      | none => if m < ds.length then .ex c2 [f2'] [.int m] else .ok (fzD 6 X) := by
  have ho := wantRow_ou (c := c) (f := f) (ok := ok) ht X (.int m) ds 0 hF .no .no
  have hr : isRowF [X] = .ok (.bl true) := by
    rw [isRow_ok X hp]
    rcases hX with rfl | rfl <;> rfl
  have hi : itemsD X = some ds := by rcases hX with rfl | rfl <;> rfl
  have hl : lenD X = some (.int ds.length) := by rcases hX with rfl | rfl <;> rfl
  have hen : enumL ds = (ds.zipIdx 0).map fun p => .tup [.int (p.2 : Nat), p.1] := rfl
  cases hb : badAt ok ds 0 with
  | some j =>
    rw [hb] at ho
    obtain ⟨ρ', e⟩ := ho
    simp [wantRowF, b_wantRow, hr, hi, hen, e]
  | none =>
    rw [hb] at ho
    obtain ⟨a, b, e⟩ := ho
    by_cases hm : m < ds.length
    · simp [wantRowF, b_wantRow, hr, hi, hen, e, hl, hm]
    · have hall : ∀ d ∈ ds, ok d = true := by
        have : ∀ (l : List D) (i : Nat), badAt ok l i = none → ∀ d ∈ l, ok d = true := by
          intro l
          induction l with
          | nil => intro _ _ d hd; cases hd
          | cons x l ih =>
            intro i h d hd
            rw [badAt] at h
            split at h
            · rename_i hx
              rcases List.mem_cons.mp hd with rfl | hd
              · exact hx
              · exact ih _ h d hd
            · cases h
        exact this ds 0 hb
      have hf := frozen_ok 6 X (hz (by omega) hall)
      simp [wantRowF, b_wantRow, hr, hi, hen, e, hl, hm, hf]
theorem wantRow_none {tbl : Nat → Option FV} {k c f c2 f2' : Nat} (X M : D) (hp : plain X = true) (hX : isSeq X = false) : wantRowF tbl c f c2 f2' [X, .fn k, M] = .ex c [f] [.non] := by
  have hr : isRowF [X] = .ok (.bl false) := by rw [isRow_ok X hp, hX]
  simp [wantRowF, b_wantRow, hr]
end J

set_option Elab.async false
set_option linter.all false
set_option maxRecDepth 100000
set_option maxHeartbeats 4000000
namespace J
open PySem PySem.Spec PyProof.Rows L2

/-! ### the laws' own helpers that many share -/
def b_pick : SF := sRet (f2 ixD (rVar 1) (rVal (eCallL takenF (aCons (rVar 0) (aCons (rVal (eCallB (on1 lenD) (aCons (rVar 1) aNil))) aNil)))))
def pickF : FL := fnL 0 b_pick
def b_mixed : SF := sCons (sIf (tB (f2 eqD (rVal (eCallL takenF (aCons (rVar 0) (aCons (rVal (eC (.int 2))) aNil)))) (rVal (eC (.int 0))))) (sRet (eCallB (on1 lstD) (aCons (rVar 1) aNil))) sNil) (sRet (eCallB (on1 tupD) (aCons (rVar 1) aNil)))
def mixedF : FL := fnL 0 b_mixed
theorem pickF_ok (ns : List Int) (s : Dr) (hs : s.ok) (X : D) (ds : List D) (hX : X = .lst ds ∨ X = .tup ds) (h1 : 1 ≤ ds.length) (h2 : ds.length < 1000000) : ∃ x s', pickF (encR ns s) [X] = some (x, encR ns s') ∧ s'.ok ∧ x ∈ ds := by
  obtain ⟨v, s', e, o, l, u⟩ := taken_ok ns s hs ds.length (by omega) (by omega)
  have hv : v.toNat < ds.length := by omega
  have ha : L2.atI ds v = some ds[v.toNat] := by
    have z := atI_nat' ds v.toNat
    rw [show ((v.toNat : Nat) : Int) = v by omega, List.getElem?_eq_getElem hv] at z
    exact z
  refine ⟨ds[v.toNat], s', ?_, o, List.getElem_mem hv⟩
  rcases hX with rfl | rfl <;> simp [pickF, b_pick, e, ha]
/-- a list or a tuple of these -/
def Mx (X : D) (ds : List D) : Prop := X = .lst ds ∨ X = .tup ds
theorem mixedF_ok (ns : List Int) (s : Dr) (hs : s.ok) (X : D) (ds : List D) (hX : Mx X ds) : ∃ Y s', mixedF (encR ns s) [X] = some (Y, encR ns s') ∧ s'.ok ∧ Mx Y ds := by
  obtain ⟨v, s', e, o, l, u⟩ := taken_ok ns s hs 2 (by decide) (by decide)
  by_cases hv : v = 0
  · refine ⟨.lst ds, s', ?_, o, .inl rfl⟩
    subst hv
    rcases hX with rfl | rfl <;> simp [mixedF, b_mixed, e, eqD, eqv_ii]
  · refine ⟨.tup ds, s', ?_, o, .inr rfl⟩
    rcases hX with rfl | rfl <;> simp [mixedF, b_mixed, e, eqD, eqv_ii, hv]

/-! ### all parts of a row, the small ones first -/
def subL (n : Nat) : List (List Nat) := (List.range n).foldl (fun fs k => fs ++ fs.map (· ++ [k])) [[]]
def lexB : List Nat → List Nat → Bool
  | [], _ => true
  | _ :: _, [] => false
  | a :: l, b :: m => decide (a < b) || (a == b && lexB l m)
def insL (a : List Nat) : List (List Nat) → List (List Nat)
  | [] => [a]
  | b :: l => if decide (a.length < b.length) || (a.length == b.length && lexB a b) then a :: b :: l else b :: insL a l
def sizedL (n : Nat) : List (List Nat) := (subL n).foldl (fun acc a => insL a acc) []
def natL (l : List Nat) : D := .lst (l.map fun k => .int (k : Nat))
def sub_e : EF := f2 addD (rVar 3) (rVal (eSeq .lst (aCons (rVal (eVar 2)) aNil)))
def sub_b : SF := sSet 1 (f2 addD (rVar 1) (rVal (eLc (iSeq (eVar 1)) (bName 3) [3] tYesJ sub_e)))
def b_sub : SF := sCons (sSet 1 (eSeq .lst (aCons (rVal (eSeq .lst aNil)) aNil))) (sCons (sFor (iRng rng1 (aCons (rVar 0) aNil)) (bName 2) sub_b) (sRet (eVar 1)))
def subF : FV := fnV 3 b_sub
def sized_e1 : EF := eVar 2
def sized_e2 : EF := eSeq .tup (aCons (rVal (eCallB (on1 lenD) (aCons (rVar 3) aNil))) (aCons (rVal (eVar 3)) aNil))
def b_sized : SF := sRet (eLc (iSeq (eCallB (on1 sortedD) (aCons (rVal (eLc (iSeq (eCall subF [] (aCons (rVal (eVar 0)) aNil))) (bName 3) [3] tYesJ sized_e2)) aNil))) (bTup 2 (bCons (bName 1) (bCons (bName 2) bNil))) [1, 2] tYesJ sized_e1)
def sizedF : FV := fnV 3 b_sized
def lenL (l : List Nat) : D := .tup [.int (l.length : Nat), natL l]
theorem sized_of (n : Nat) (h1 : subF [.int (n : Nat)] = .ok (.lst ((subL n).map natL))) (h2 : ordOk ((subL n).map lenL) = true) (h3 : sortable ((subL n).map lenL) = true) (h4 : (subL n).length ≤ 1000000) (hp : (sizedL n).Perm (subL n))
    (hs : ((sizedL n).map lenL).Pairwise fun a b => ltE b a = false) (ha : ∀ a ∈ sizedL n, ∀ b ∈ sizedL n, ltE (lenL a) (lenL b) = false → ltE (lenL b) (lenL a) = false → a = b) : sizedF [.int (n : Nat)] = .ok (.lst ((sizedL n).map natL)) := by
  have e1 : lcS (bName 3) [3] tYesJ sized_e2 ((subL n).map natL) [] [.sh (.int n), .no, .no, .no] = .ok (.lst ((subL n).map lenL)) [.sh (.int n), .no, .no, .no] := lcS_map lenL fun l _ => by
    simp [lcS, wipeE, rst, sized_e2, natL, lenL]
  have e2 : sortedD (.lst ((subL n).map lenL)) = some (.lst ((sizedL n).map lenL)) := by
    show (if _ then _ else _) = _
    rw [if_pos ⟨h2, h3, by simpa using h4⟩]
    congr 2
    refine sortE_is h2 (hp.map lenL) hs fun a ma b mb q1 q2 => ?_
    obtain ⟨x, mx, rfl⟩ := List.mem_map.mp ma
    obtain ⟨y, my, rfl⟩ := List.mem_map.mp mb
    rw [ha x mx y my q1 q2]
  have e3 : lcS (bTup 2 (bCons (bName 1) (bCons (bName 2) bNil))) [1, 2] tYesJ sized_e1 ((sizedL n).map lenL) [] [.sh (.int n), .no, .no, .no] = .ok (.lst ((sizedL n).map natL)) [.sh (.int n), .no, .no, .no] := lcS_map natL fun l _ => by
    simp [lcS, wipeE, rst, sized_e1, lenL]
  simp [sizedF, b_sized, h1, noOw, e1, e2, e3]
theorem sized_ok (n : Nat) (h : n ≤ 5) : sizedF [.int (n : Nat)] = .ok (.lst ((sizedL n).map natL)) := by
  rcases (by omega : n = 0 ∨ n = 1 ∨ n = 2 ∨ n = 3 ∨ n = 4 ∨ n = 5) with rfl | rfl | rfl | rfl | rfl | rfl
  all_goals exact sized_of _ (by kernel_rfl) (by decide +kernel) (by decide +kernel) (by decide +kernel) (by decide +kernel) (by decide +kernel) (by decide +kernel)
end J

set_option Elab.async false
set_option linter.all false
set_option maxRecDepth 100000
set_option maxHeartbeats 4000000
namespace K20
open PySem PySem.Spec PyProof.Rows L2 J
abbrev prog : Program := PySem.Challenge.pw_coachstages_k20_whole_riders
def top (i : Nat) : Stmt := prog.main.body.getD i (.Pass ⟨0, 0, 0, 0⟩)
def hd_BadItem : Nat → Option Bool := fun c => if c = 0 then some false else if c = 1 then some true else if c = 2 then some false else if c = 3 then some false else none
def hd_BadNumber : Nat → Option Bool := fun c => if c = 0 then some true else if c = 1 then some false else if c = 2 then some false else if c = 3 then some false else none
def hd_Refused : Nat → Option Bool := fun c => if c = 0 then some false else if c = 1 then some false else if c = 2 then some false else if c = 3 then some true else none
def hd_TooMany : Nat → Option Bool := fun c => if c = 0 then some false else if c = 1 then some false else if c = 2 then some true else if c = 3 then some false else none
def okX_value : Nat → Bool := fun c => decide (c = 0)
def okX_index : Nat → Bool := fun c => decide (c = 1)
def okX_limit : Nat → Bool := fun c => decide (c = 2)
def okX_reason : Nat → Bool := fun c => decide (c = 3)
def okX_names : Nat → Bool := fun c => decide (c = 3)
def okX_stages : Nat → Bool := fun c => decide (False)
def okX_paces : Nat → Bool := fun c => decide (False)
def okF_stages : Nat → Bool := fun c => decide (c = 0)
def okF_paces : Nat → Bool := fun c => decide (c = 0)
abbrev s_frozen : Stmt := (top 10)
theorem sc_frozen : FnScope ["value", "part"] ["value"] (defScope s_frozen) := C8.fnScope_by (by decide +kernel)
def b_frozen (rec : FV) : SF :=
  (sCons (sIf (tB (eIsTs ["list", "tuple"] (rVar 0))) (sRet (eCallB (on1 tupD) (aCons (rVal (eLc (iSeq (eVar 0)) (bName 1) [1] tYesJ (eCall rec [] (aCons (rVal (eVar 1)) aNil)))) aNil))) sNil)
  (sRet (eVar 0)))
def F_frozen : Nat → FV
  | 0 => fun _ => .bad
  | n + 1 => fnV 1 (b_frozen (F_frozen n))
theorem cal_frozen {P : Program} {w : World} {K : PySem.W.Frag} {mg : Str → Option Value} {base : Heap} {T : Tab} (hT : T.K = K) (B : NoB mg) {f : Addr} {fd : FuncData} (F : Fun K "frozen" "frozen" s_frozen f fd) (hm : mg "frozen" = some (.ref f)) : ∀ n : Nat, CalV P w K mg base T (0 + 1 + n) "frozen" 1 (F_frozen n)
  | 0 => calBad F hm (F.binds (ps := ["value"]) fun _ _ _ _ _ _ us hl => match us, hl with | [_], _ => rfl)
  | n + 1 => by
    have ih := cal_frozen (P := P) (w := w) (base := base) hT B F hm   n
    exact calV F sc_frozen hm (F.binds (ps := ["value"]) fun _ _ _ _ _ _ us hl => match us, hl with | [_], _ => rfl) fun cdv A outer s H E b => have hu := Room.u b.hr;
  (js_cons (j_ifs (j_test (j_isTs (ts := ["list", "tuple"]) (j_rvar hT.symm 0) (ty2 (ty1 B.list (by decide +kernel)) (ty1 B.tuple (by decide +kernel))) B.isi)) (js_one (j_ret (jTuple (ja_cons (j_rval (j_frz (j_lcO (own := [("part", 1)]) rfl sc_frozen.nd (ji_seq (j_var hT.symm 0)) (blkOk_by (by kernel_rfl)) (by decide) (fun s H C cl fp => (jg_name (i := 1) sc_frozen.nd)) (fun s H C cl fp => jts_nil) (fun s H C cl fp => (jc ih b.hr takes0 (ja_cons (j_rval (j_var hT.symm 1)) (ja_nil hT.symm)) (Nat.le_refl _)))))) (ja_nil hT.symm)) B))) (js_nil hT.symm))
  (js_one (j_ret (j_var hT.symm 0))))
abbrev s_is_row : Stmt := (top 9)
theorem sc_is_row : FnScope ["value"] ["value"] (defScope s_is_row) := C8.fnScope_by (by decide +kernel)
def b_is_row : SF :=
  (sRet (eIsTs ["list", "tuple"] (rVar 0)))
def F_is_row : FV := fnV 0 b_is_row
theorem cal_is_row {P : Program} {w : World} {K : PySem.W.Frag} {mg : Str → Option Value} {base : Heap} {T : Tab} (hT : T.K = K) (B : NoB mg) {f : Addr} {fd : FuncData} (F : Fun K "is_row" "is_row" s_is_row f fd) (hm : mg "is_row" = some (.ref f)) : CalV P w K mg base T 1 "is_row" 1 F_is_row :=
  calV F sc_is_row hm (F.binds (ps := ["value"]) fun _ _ _ _ _ _ us hl => match us, hl with | [_], _ => rfl) fun cdv A outer s H E b => have hu := Room.u b.hr;
  (js_one (j_ret (j_isTs (ts := ["list", "tuple"]) (j_rvar hT.symm 0) (ty2 (ty1 B.list (by decide +kernel)) (ty1 B.tuple (by decide +kernel))) B.isi)))
abbrev s_is_whole : Stmt := (top 7)
theorem sc_is_whole : FnScope ["value"] ["value"] (defScope s_is_whole) := C8.fnScope_by (by decide +kernel)
def b_is_whole : SF :=
  (sRet (eAndJ (eIsT "int" (rVar 0)) (eNotJ (eIsT "bool" (rVar 0)))))
def F_is_whole : FV := fnV 0 b_is_whole
theorem cal_is_whole {P : Program} {w : World} {K : PySem.W.Frag} {mg : Str → Option Value} {base : Heap} {T : Tab} (hT : T.K = K) (B : NoB mg) {f : Addr} {fd : FuncData} (F : Fun K "is_whole" "is_whole" s_is_whole f fd) (hm : mg "is_whole" = some (.ref f)) : CalV P w K mg base T 1 "is_whole" 1 F_is_whole :=
  calV F sc_is_whole hm (F.binds (ps := ["value"]) fun _ _ _ _ _ _ us hl => match us, hl with | [_], _ => rfl) fun cdv A outer s H E b => have hu := Room.u b.hr;
  (js_one (j_ret (j_vand (j_isT (j_rvar hT.symm 0) (ty1 B.int (by decide +kernel)) B.isi) (j_one (j_vnot (j_isT (j_rvar hT.symm 0) (ty1 B.bool (by decide +kernel)) B.isi))))))
abbrev s_is_number : Stmt := (top 8)
theorem sc_is_number : FnScope ["value", "least", "most"] ["value", "least", "most"] (defScope s_is_number) := C8.fnScope_by (by decide +kernel)
def b_is_number (F_is_whole : FV) : SF :=
  (sRet (eAndJ (eCall F_is_whole [] (aCons (rVal (eVar 0)) aNil)) (eChain leD leD (rVar 1) (rVar 0) (rVar 2))))
def F_is_number : FV := fnV 0 (b_is_number F_is_whole)
theorem cal_is_number {P : Program} {w : World} {K : PySem.W.Frag} {mg : Str → Option Value} {base : Heap} {T : Tab} (hT : T.K = K) (B : NoB mg) {f : Addr} {fd : FuncData} (F : Fun K "is_number" "is_number" s_is_number f fd) (hm : mg "is_number" = some (.ref f)) (c_is_whole : CalV P w K mg base T 1 "is_whole" 1 F_is_whole) : CalV P w K mg base T 2 "is_number" 3 F_is_number :=
  calV F sc_is_number hm (F.binds (ps := ["value", "least", "most"]) fun _ _ _ _ _ _ us hl => match us, hl with | [_, _, _], _ => rfl) fun cdv A outer s H E b => have hu := Room.u b.hr;
  (js_one (j_ret (j_vand (jc c_is_whole b.hr b.tk (ja_cons (j_rval (j_var hT.symm 0)) (ja_nil hT.symm))) (j_one (jeLeLe (j_rvar hT.symm 1) (j_rvar hT.symm 0) (j_rvar hT.symm 2))))))
abbrev s_is_stage : Stmt := (top 16)
theorem sc_is_stage : FnScope ["value"] ["value"] (defScope s_is_stage) := C8.fnScope_by (by decide +kernel)
def b_is_stage (F_is_row : FV) (F_is_number : FV) : SF :=
  (sRet (eAndJ (eCall F_is_row [] (aCons (rVal (eVar 0)) aNil)) (eAndJ (f2 eqD (rVal (eCallB (on1 lenD) (aCons (rVar 0) aNil))) (rVal (eC (.int 2)))) (eAndJ (eCall F_is_number [] (aCons (rVal (f2 ixD (rVar 0) (rVal (eC (.int 0))))) (aCons (rVal (eC (.int 1))) (aCons (rVal (eC (.int 99))) aNil)))) (eCall F_is_number [] (aCons (rVal (f2 ixD (rVar 0) (rVal (eC (.int 1))))) (aCons (rVal (eC (.int 0))) (aCons (rVal (eC (.int 99))) aNil))))))))
def F_is_stage : FV := fnV 0 (b_is_stage F_is_row F_is_number)
theorem cal_is_stage {P : Program} {w : World} {K : PySem.W.Frag} {mg : Str → Option Value} {base : Heap} {T : Tab} (hT : T.K = K) (B : NoB mg) {f : Addr} {fd : FuncData} (F : Fun K "is_stage" "is_stage" s_is_stage f fd) (hm : mg "is_stage" = some (.ref f)) (c_is_row : CalV P w K mg base T 1 "is_row" 1 F_is_row) (c_is_number : CalV P w K mg base T 2 "is_number" 3 F_is_number) : CalV P w K mg base T 3 "is_stage" 1 F_is_stage :=
  calV F sc_is_stage hm (F.binds (ps := ["value"]) fun _ _ _ _ _ _ us hl => match us, hl with | [_], _ => rfl) fun cdv A outer s H E b => have hu := Room.u b.hr;
  (js_one (j_ret (j_vand (jc c_is_row b.hr b.tk (ja_cons (j_rval (j_var hT.symm 0)) (ja_nil hT.symm))) (j_vand (jeEq hu (j_rval (jLen (ja_cons (j_rvar hT.symm 0) (ja_nil hT.symm)) B)) (j_rval (j_int hT.symm))) (j_vand (jc c_is_number b.hr b.tk (ja_cons (j_rval (j_ix (j_rvar hT.symm 0) (j_rval (j_int hT.symm)))) (ja_cons (j_rval (j_int hT.symm)) (ja_cons (j_rval (j_int hT.symm)) (ja_nil hT.symm))))) (j_one (jc c_is_number b.hr b.tk (ja_cons (j_rval (j_ix (j_rvar hT.symm 0) (j_rval (j_int hT.symm)))) (ja_cons (j_rval (j_int hT.symm)) (ja_cons (j_rval (j_int hT.symm)) (ja_nil hT.symm)))))))))))
abbrev s_is_pace : Stmt := (top 17)
theorem sc_is_pace : FnScope ["value"] ["value"] (defScope s_is_pace) := C8.fnScope_by (by decide +kernel)
def b_is_pace (F_is_number : FV) : SF :=
  (sRet (eCall F_is_number [] (aCons (rVal (eVar 0)) (aCons (rVal (eC (.int 1))) (aCons (rVal (eC (.int 60))) aNil)))))
def F_is_pace : FV := fnV 0 (b_is_pace F_is_number)
theorem cal_is_pace {P : Program} {w : World} {K : PySem.W.Frag} {mg : Str → Option Value} {base : Heap} {T : Tab} (hT : T.K = K) (B : NoB mg) {f : Addr} {fd : FuncData} (F : Fun K "is_pace" "is_pace" s_is_pace f fd) (hm : mg "is_pace" = some (.ref f)) (c_is_number : CalV P w K mg base T 2 "is_number" 3 F_is_number) : CalV P w K mg base T 3 "is_pace" 1 F_is_pace :=
  calV F sc_is_pace hm (F.binds (ps := ["value"]) fun _ _ _ _ _ _ us hl => match us, hl with | [_], _ => rfl) fun cdv A outer s H E b => have hu := Room.u b.hr;
  (js_one (j_ret (jc c_is_number b.hr b.tk (ja_cons (j_rval (j_var hT.symm 0)) (ja_cons (j_rval (j_int hT.symm)) (ja_cons (j_rval (j_int hT.symm)) (ja_nil hT.symm)))))))
def fnTbl : Nat → Option FV := fun n => if n = 0 then some F_is_stage else if n = 1 then some F_is_pace else none
def want_row_s1 (F_is_row : FV) : SF :=
  (sIf (tNotJ (tB (eCall F_is_row [] (aCons (rVal (eVar 0)) aNil)))) (sRaise 1 [1] (aCons (rVal (eC .non)) aNil)) sNil)
def want_row_b1 (fnTbl : Nat → Option FV) : SF :=
  (sIf (tNotJ (tB (eCallF 1 fnTbl (aCons (rVal (eVar 4)) aNil)))) (sRaise 1 [1] (aCons (rVal (eVar 3)) aNil)) sNil)
def want_row_s2 (fnTbl : Nat → Option FV) : SF :=
  (sFor (iEnum (eVar 0)) (bTup 2 (bCons (bName 3) (bCons (bName 4) bNil)))
  (want_row_b1 fnTbl))
def want_row_s3 : SF :=
  (sIf (tB (f2 gtD (rVal (eCallB (on1 lenD) (aCons (rVar 0) aNil))) (rVar 2))) (sRaise 2 [2] (aCons (rVal (eVar 2)) aNil)) sNil)
def want_row_s4 (F_frozen : Nat → FV) : SF :=
  (sRet (eCall (F_frozen 6) [] (aCons (rVal (eVar 0)) aNil)))
abbrev s_want_row : Stmt := (top 12)
theorem sc_want_row : FnScope ["value", "is_item", "most", "index", "item"] ["value", "is_item", "most"] (defScope s_want_row) := C8.fnScope_by (by decide +kernel)
def b_want_row (F_is_row : FV) (fnTbl : Nat → Option FV) (F_frozen : Nat → FV) : SF :=
  (sCons (want_row_s1 F_is_row)
  (sCons (want_row_s2 fnTbl)
  (sCons want_row_s3
  (want_row_s4 F_frozen))))
def F_want_row : FV := fnV 2 (b_want_row F_is_row fnTbl F_frozen)
theorem cal_want_row {P : Program} {w : World} {K : PySem.W.Frag} {mg : Str → Option Value} {base : Heap} {T : Tab} (hT : T.K = K) (B : NoB mg) {f : Addr} {fd : FuncData} (F : Fun K "want_row" "want_row" s_want_row f fd) (hm : mg "want_row" = some (.ref f)) (c_is_row : CalV P w K mg base T 1 "is_row" 1 F_is_row) (c_frozen : CalV P w K mg base T 7 "frozen" 1 (F_frozen 6)) (tb : FnT P w K mg base T 3 1 fnTbl) (x_BadItem : ExT P w K mg base T 1 "BadItem" 1 [1] 1) (x_TooMany : ExT P w K mg base T 1 "TooMany" 2 [2] 1) : CalV P w K mg base T 8 "want_row" 3 F_want_row :=
  calV F sc_want_row hm (F.binds (ps := ["value", "is_item", "most"]) fun _ _ _ _ _ _ us hl => match us, hl with | [_, _, _], _ => rfl) fun cdv A outer s H E b => have hu := Room.u b.hr;
  (js_cons (j_ifs (j_not (j_test (jc c_is_row b.hr b.tk (ja_cons (j_rval (j_var hT.symm 0)) (ja_nil hT.symm))))) (js_one (jRaise x_BadItem b.hr b.tk (ja_cons (j_rval (j_non hT.symm)) (ja_nil hT.symm)))) (js_nil hT.symm))
  (js_cons (j_for b.hp rfl (ji_enum (j_var hT.symm 0) B.enumerate) (jg_tup rfl hT.symm (jgs_cons (jg_name (i := 3) sc_want_row.nd) (jgs_cons (jg_name (i := 4) sc_want_row.nd) jgs_nil)))
  (js_one (j_ifs (j_not (j_test (jcF (i := 1) tb b.hr b.tk (ja_cons (j_rval (j_var hT.symm 4)) (ja_nil hT.symm))))) (js_one (jRaise x_BadItem b.hr b.tk (ja_cons (j_rval (j_var hT.symm 3)) (ja_nil hT.symm)))) (js_nil hT.symm))))
  (js_cons (j_ifs (jtGt (j_rval (jLen (ja_cons (j_rvar hT.symm 0) (ja_nil hT.symm)) B)) (j_rvar hT.symm 2)) (js_one (jRaise x_TooMany b.hr b.tk (ja_cons (j_rval (j_var hT.symm 2)) (ja_nil hT.symm)))) (js_nil hT.symm))
  (js_one (j_ret (jc c_frozen b.hr b.tk (ja_cons (j_rval (j_var hT.symm 0)) (ja_nil hT.symm))))))))
def Ride_init_s1 (F_want_row : FV) : SF :=
  (sFldJ 0 5 okF_stages (eCall F_want_row [] (aCons (rVal (eVar 1)) (aCons (rVal (eC (.fn 0))) (aCons (rVal (eC (.int 8))) aNil)))))
def Ride_init_s2 (F_want_row : FV) : SF :=
  (sFldJ 0 6 okF_paces (eCall F_want_row [] (aCons (rVal (eVar 2)) (aCons (rVal (eC (.fn 1))) (aCons (rVal (eC (.int 4))) aNil)))))
def Ride_init_s3 : SF :=
  (sIf (tB (f2 eqD (rVal (eCallB (on1 lenD) (aCons (rVal (eFld 6 okF_paces (rVar 0))) aNil))) (rVal (eC (.int 0))))) (sRaise 1 [1] (aCons (rVal (eC .non)) aNil)) sNil)
abbrev s_Ride_init : Stmt := (inClass (top 18) 0)
theorem sc_Ride_init : FnScope ["self", "stages", "paces"] ["self", "stages", "paces"] (defScope s_Ride_init) := C8.fnScope_by (by decide +kernel)
def b_Ride_init (F_want_row : FV) : SF :=
  (sCons (Ride_init_s1 F_want_row)
  (sCons (Ride_init_s2 F_want_row)
  Ride_init_s3))
def F_Ride_init : FV := fnI 0 0 (b_Ride_init F_want_row)
theorem cal_Ride_init {P : Program} {w : World} {K : PySem.W.Frag} {mg : Str → Option Value} {base : Heap} {T : Tab} (hT : T.K = K) (B : NoB mg) {f : Addr} {fd : FuncData} (F : Fun K "__init__" "Ride.__init__" s_Ride_init f fd) (M : Mk K (T.cls 0) f) (hm : mg "Ride" = some (.ref (T.cls 0))) (c_want_row : CalV P w K mg base T 8 "want_row" 3 F_want_row) (fd_stages : FldT K T 5 "stages" okF_stages) (fd_paces : FldT K T 6 "paces" okF_paces) (con_is_stage : ConT mg T "is_stage" (.fn 0)) (con_MOST_STAGES : ConT mg T "MOST_STAGES" (.int 8)) (con_is_pace : ConT mg T "is_pace" (.fn 1)) (con_MOST_TIRED : ConT mg T "MOST_TIRED" (.int 4)) (x_BadItem : ExT P w K mg base T 1 "BadItem" 1 [1] 1) : CalK P w K mg base T 9 0 "Ride" 2 F_Ride_init [] :=
  calI F sc_Ride_init M hm (F.binds (ps := ["self", "stages", "paces"]) fun _ _ _ _ _ _ us hl => match us, hl with | [_, _, _], _ => rfl) .nil (fun _ => rfl) fun cdv A outer s H E b => have hu := Room.u b.hr;
  (js_cons (j_fld_store (i := 0) fd_stages (jc c_want_row b.hr b.tk (ja_cons (j_rval (j_var hT.symm 1)) (ja_cons (j_rval (j_con hT.symm con_is_stage)) (ja_cons (j_rval (j_con hT.symm con_MOST_STAGES)) (ja_nil hT.symm))))))
  (js_cons (j_fld_store (i := 0) fd_paces (jc c_want_row b.hr b.tk (ja_cons (j_rval (j_var hT.symm 2)) (ja_cons (j_rval (j_con hT.symm con_is_pace)) (ja_cons (j_rval (j_con hT.symm con_MOST_TIRED)) (ja_nil hT.symm))))))
  (js_one (j_ifs (jtEq hu (j_rval (jLen (ja_cons (j_rval (j_fld fd_paces (j_rvar hT.symm 0))) (ja_nil hT.symm)) B)) (j_rval (j_int hT.symm))) (js_one (jRaise x_BadItem b.hr b.tk (ja_cons (j_rval (j_non hT.symm)) (ja_nil hT.symm)))) (js_nil hT.symm)))))
def _law_subsets_s1 : SF :=
  (sSet 1 (eSeq .lst (aCons (rVal (eSeq .lst aNil)) aNil)))
def _law_subsets_e1 : EF :=
  (f2 addD (rVar 3) (rVal (eSeq .lst (aCons (rVal (eVar 2)) aNil))))
def _law_subsets_b1 : SF :=
  (sSet 1 (f2 addD (rVar 1) (rVal (eLc (iSeq (eVar 1)) (bName 3) [3] tYesJ _law_subsets_e1))))
def _law_subsets_s2 : SF :=
  (sFor (iRng rng1 (aCons (rVar 0) aNil)) (bName 2)
  _law_subsets_b1)
def _law_subsets_s3 : SF :=
  (sRet (eVar 1))
abbrev s__law_subsets : Stmt := (top 26)
theorem sc__law_subsets : FnScope ["many", "found", "k", "chosen"] ["many"] (defScope s__law_subsets) := C8.fnScope_by (by decide +kernel)
def b__law_subsets : SF :=
  (sCons _law_subsets_s1
  (sCons _law_subsets_s2
  _law_subsets_s3))
def F__law_subsets : FV := fnV 3 b__law_subsets
theorem cal__law_subsets {P : Program} {w : World} {K : PySem.W.Frag} {mg : Str → Option Value} {base : Heap} {T : Tab} (hT : T.K = K) (B : NoB mg) {f : Addr} {fd : FuncData} (F : Fun K "_law_subsets" "_law_subsets" s__law_subsets f fd) (hm : mg "_law_subsets" = some (.ref f)) : CalV P w K mg base T 1 "_law_subsets" 1 F__law_subsets :=
  calV F sc__law_subsets hm (F.binds (ps := ["many"]) fun _ _ _ _ _ _ us hl => match us, hl with | [_], _ => rfl) fun cdv A outer s H E b => have hu := Room.u b.hr;
  (js_cons (j_set (i := 1) sc__law_subsets.nd (j_frz (j_lstO (ja_cons (j_rval (j_frz (j_lstO (ja_nil hT.symm)))) (ja_nil hT.symm)))))
  (js_cons (j_for b.hp rfl (ji_range1 (ja_cons (j_rvar hT.symm 0) (ja_nil hT.symm)) B.range) (jg_name (i := 2) sc__law_subsets.nd)
  (js_one (j_set (i := 1) sc__law_subsets.nd (j_add (j_rvar hT.symm 1) (j_rval (j_frz (j_lcO (own := [("chosen", 3)]) rfl sc__law_subsets.nd (ji_seq (j_var hT.symm 1)) (blkOk_by (by kernel_rfl)) (by decide) (fun s H C cl fp => (jg_name (i := 3) sc__law_subsets.nd)) (fun s H C cl fp => jts_nil) (fun s H C cl fp => (j_add (j_rvar hT.symm 3) (j_rval (j_frz (j_lstO (ja_cons (j_rval (j_var hT.symm 2)) (ja_nil hT.symm))))))))))))))
  (js_one (j_ret (j_var hT.symm 1)))))
def _law_sized_e1 : EF :=
  (eVar 2)
def _law_sized_e2 : EF :=
  (eSeq .tup (aCons (rVal (eCallB (on1 lenD) (aCons (rVar 3) aNil))) (aCons (rVal (eVar 3)) aNil)))
abbrev s__law_sized : Stmt := (top 30)
theorem sc__law_sized : FnScope ["many", "size", "some", "one"] ["many"] (defScope s__law_sized) := C8.fnScope_by (by decide +kernel)
def b__law_sized (F__law_subsets : FV) : SF :=
  (sRet (eLc (iSeq (eCallB (on1 sortedD) (aCons (rVal (eLc (iSeq (eCall F__law_subsets [] (aCons (rVal (eVar 0)) aNil))) (bName 3) [3] tYesJ _law_sized_e2)) aNil))) (bTup 2 (bCons (bName 1) (bCons (bName 2) bNil))) [1, 2] tYesJ _law_sized_e1))
def F__law_sized : FV := fnV 3 (b__law_sized F__law_subsets)
theorem cal__law_sized {P : Program} {w : World} {K : PySem.W.Frag} {mg : Str → Option Value} {base : Heap} {T : Tab} (hT : T.K = K) (B : NoB mg) {f : Addr} {fd : FuncData} (F : Fun K "_law_sized" "_law_sized" s__law_sized f fd) (hm : mg "_law_sized" = some (.ref f)) (c__law_subsets : CalV P w K mg base T 1 "_law_subsets" 1 F__law_subsets) : CalV P w K mg base T 2 "_law_sized" 1 F__law_sized :=
  calV F sc__law_sized hm (F.binds (ps := ["many"]) fun _ _ _ _ _ _ us hl => match us, hl with | [_], _ => rfl) fun cdv A outer s H E b => have hu := Room.u b.hr;
  (js_one (j_ret (j_frz (j_lcO (own := [("size", 1), ("some", 2)]) rfl sc__law_sized.nd (ji_seq (j_frz (jSortedO hu (ja_cons (j_rval (j_frz (j_lcO (own := [("one", 3)]) rfl sc__law_sized.nd (ji_seq (jc c__law_subsets b.hr b.tk (ja_cons (j_rval (j_var hT.symm 0)) (ja_nil hT.symm)))) (blkOk_by (by kernel_rfl)) (by decide) (fun s H C cl fp => (jg_name (i := 3) sc__law_sized.nd)) (fun s H C cl fp => jts_nil) (fun s H C cl fp => (j_tup (ja_cons (j_rval (jLen (ja_cons (j_rvar hT.symm 3) (ja_nil hT.symm)) B)) (ja_cons (j_rval (j_var hT.symm 3)) (ja_nil hT.symm)))))))) (ja_nil hT.symm)) B))) (blkOk_by (by kernel_rfl)) (by decide) (fun s H C cl fp => (jg_tup rfl hT.symm (jgs_cons (jg_name (i := 1) sc__law_sized.nd) (jgs_cons (jg_name (i := 2) sc__law_sized.nd) jgs_nil)))) (fun s H C cl fp => jts_nil) (fun s H C cl fp => (j_var hT.symm 2))))))
def _law_minutes_s1 : SF :=
  (sAsg (eSeq .tup (aCons (rVal (eC (.int 0))) (aCons (rVal (eC (.int 0))) aNil))) (bTup 2 (bCons (bName 3) (bCons (bName 4) bNil))))
def _law_minutes_b1 : SF :=
  (sCons (sSet 4 (f2 ixD (rVal (eSeq .lst (aCons (rVal (eVar 4)) (aCons (rVal (eVar 5)) aNil)))) (rVal (eCallB (on1 intD) (aCons (rVal (f2 (inX false) (rVar 5) (rVar 2))) aNil)))))
  (sCons (sIf (tB (f2 geD (rVal (f2 subD (rVar 5) (rVar 4))) (rVal (eCallB (on1 lenD) (aCons (rVar 1) aNil))))) (sRet (eC .non)) sNil)
  (sSet 3 (f2 addD (rVal (f2 addD (rVar 3) (rVal (f2 mulD (rVar 6) (rVal (f2 ixD (rVar 1) (rVal (f2 subD (rVar 5) (rVar 4))))))))) (rVal (f2 mulD (rVar 7) (rVal (eCallB (on1 intD) (aCons (rVal (f2 (inX false) (rVar 5) (rVar 2))) aNil)))))))))
def _law_minutes_s2 : SF :=
  (sFor (iEnum (eVar 0)) (bTup 2 (bCons (bName 5) (bCons (bTup 2 (bCons (bName 6) (bCons (bName 7) bNil))) bNil)))
  _law_minutes_b1)
def _law_minutes_s3 : SF :=
  (sRet (eVar 3))
abbrev s__law_minutes : Stmt := (top 32)
theorem sc__law_minutes : FnScope ["stages", "paces", "changes", "total", "begin", "k", "miles", "change"] ["stages", "paces", "changes"] (defScope s__law_minutes) := C8.fnScope_by (by decide +kernel)
def b__law_minutes : SF :=
  (sCons _law_minutes_s1
  (sCons _law_minutes_s2
  _law_minutes_s3))
def F__law_minutes : FV := fnV 5 b__law_minutes
theorem cal__law_minutes {P : Program} {w : World} {K : PySem.W.Frag} {mg : Str → Option Value} {base : Heap} {T : Tab} (hT : T.K = K) (B : NoB mg) {f : Addr} {fd : FuncData} (F : Fun K "_law_minutes" "_law_minutes" s__law_minutes f fd) (hm : mg "_law_minutes" = some (.ref f)) : CalV P w K mg base T 1 "_law_minutes" 3 F__law_minutes :=
  calV F sc__law_minutes hm (F.binds (ps := ["stages", "paces", "changes"]) fun _ _ _ _ _ _ us hl => match us, hl with | [_, _, _], _ => rfl) fun cdv A outer s H E b => have hu := Room.u b.hr;
  (js_cons (j_asg (j_tup (ja_cons (j_rval (j_int hT.symm)) (ja_cons (j_rval (j_int hT.symm)) (ja_nil hT.symm)))) (jg_tup rfl hT.symm (jgs_cons (jg_name (i := 3) sc__law_minutes.nd) (jgs_cons (jg_name (i := 4) sc__law_minutes.nd) jgs_nil))))
  (js_cons (j_for b.hp rfl (ji_enum (j_var hT.symm 0) B.enumerate) (jg_tup rfl hT.symm (jgs_cons (jg_name (i := 5) sc__law_minutes.nd) (jgs_cons (jg_tup rfl hT.symm (jgs_cons (jg_name (i := 6) sc__law_minutes.nd) (jgs_cons (jg_name (i := 7) sc__law_minutes.nd) jgs_nil))) jgs_nil)))
  (js_cons (j_set (i := 4) sc__law_minutes.nd (j_ix (j_rval (j_frz (j_lstO (ja_cons (j_rval (j_var hT.symm 4)) (ja_cons (j_rval (j_var hT.symm 5)) (ja_nil hT.symm)))))) (j_rval (jInt (ja_cons (j_rval (jeInX hu (j_rvar hT.symm 5) (j_rvar hT.symm 2))) (ja_nil hT.symm)) B))))
  (js_cons (j_ifs (jtGe (j_rval (j_sub (j_rvar hT.symm 5) (j_rvar hT.symm 4))) (j_rval (jLen (ja_cons (j_rvar hT.symm 1) (ja_nil hT.symm)) B))) (js_one (j_ret (j_non hT.symm))) (js_nil hT.symm))
  (js_one (j_set (i := 3) sc__law_minutes.nd (j_add (j_rval (j_add (j_rvar hT.symm 3) (j_rval (j_mul (j_rvar hT.symm 6) (j_rval (j_ix (j_rvar hT.symm 1) (j_rval (j_sub (j_rvar hT.symm 5) (j_rvar hT.symm 4))))))))) (j_rval (j_mul (j_rvar hT.symm 7) (j_rval (jInt (ja_cons (j_rval (jeInX hu (j_rvar hT.symm 5) (j_rvar hT.symm 2))) (ja_nil hT.symm)) B))))))))))
  (js_one (j_ret (j_var hT.symm 3)))))
def _law_rows_e1 : EF :=
  (f2 addD (rVar 4) (rVal (eC (.int 1))))
def _law_rows_e2 : EF :=
  (eCallB (on1 tupD) (aCons (rVal (eLc (iSeq (eVar 3)) (bName 4) [4] tYesJ _law_rows_e1)) aNil))
def _law_rows_e3 (F__law_minutes : FV) : EF :=
  (eSeq .tup (aCons (rVal (eVar 3)) (aCons (rVal (eCall F__law_minutes [] (aCons (rVal (eVar 0)) (aCons (rVal (eVar 1)) (aCons (rVal (eVar 3)) aNil))))) aNil)))
def _law_rows_t1 (F__law_minutes : FV) : TF :=
  (tB (f2 notNonD (rVal (eCall F__law_minutes [] (aCons (rVal (eVar 0)) (aCons (rVal (eVar 1)) (aCons (rVal (eVar 3)) aNil))))) (rVal (eC .non))))
abbrev s__law_rows : Stmt := (top 33)
theorem sc__law_rows : FnScope ["stages", "paces", "rows", "some", "at"] ["stages", "paces"] (defScope s__law_rows) := C8.fnScope_by (by decide +kernel)
def b__law_rows (F__law_sized : FV) (F__law_minutes : FV) : SF :=
  (sCons (sSetO 2 (eLc (iSeq (eCall F__law_sized [] (aCons (rVal (eCallB (on2 max2D) (aCons (rVal (eC (.int 0))) (aCons (rVal (f2 subD (rVal (eCallB (on1 lenD) (aCons (rVar 0) aNil))) (rVal (eC (.int 1))))) aNil)))) aNil))) (bName 3) [3] tYesJ _law_rows_e2))
  (sRet (eLc (iSeq (eVar 2)) (bName 3) [3] (_law_rows_t1 F__law_minutes) (_law_rows_e3 F__law_minutes))))
def F__law_rows : FV := fnV 3 (b__law_rows F__law_sized F__law_minutes)
theorem cal__law_rows {P : Program} {w : World} {K : PySem.W.Frag} {mg : Str → Option Value} {base : Heap} {T : Tab} (hT : T.K = K) (B : NoB mg) {f : Addr} {fd : FuncData} (F : Fun K "_law_rows" "_law_rows" s__law_rows f fd) (hm : mg "_law_rows" = some (.ref f)) (c__law_sized : CalV P w K mg base T 2 "_law_sized" 1 F__law_sized) (c__law_minutes : CalV P w K mg base T 1 "_law_minutes" 3 F__law_minutes) : CalV P w K mg base T 3 "_law_rows" 2 F__law_rows :=
  calV F sc__law_rows hm (F.binds (ps := ["stages", "paces"]) fun _ _ _ _ _ _ us hl => match us, hl with | [_, _], _ => rfl) fun cdv A outer s H E b => have hu := Room.u b.hr;
  (js_cons (j_setLc (i := 2) (own := [("some", 3)]) rfl sc__law_rows.nd (ji_seq (jc c__law_sized b.hr b.tk (ja_cons (j_rval (jMax2 rfl (ja_cons (j_rval (j_int hT.symm)) (ja_cons (j_rval (j_sub (j_rval (jLen (ja_cons (j_rvar hT.symm 0) (ja_nil hT.symm)) B)) (j_rval (j_int hT.symm)))) (ja_nil hT.symm))) B)) (ja_nil hT.symm)))) (blkOk_by (by kernel_rfl)) (by decide) (fun s H C cl fp => (jg_name (i := 3) sc__law_rows.nd)) (fun s H C cl fp => jts_nil) (fun s H C cl fp => (jTuple (ja_cons (j_rval (j_frz (j_lcO (own := [("at", 4)]) rfl sc__law_rows.nd (ji_seq (j_var hT.symm 3)) (blkOk_by (by kernel_rfl)) (by decide) (fun s H C cl fp => (jg_name (i := 4) sc__law_rows.nd)) (fun s H C cl fp => jts_nil) (fun s H C cl fp => (j_add (j_rvar hT.symm 4) (j_rval (j_int hT.symm))))))) (ja_nil hT.symm)) B)) (by rfl))
  (js_one (j_ret (j_frz (j_lcO (own := [("some", 3)]) rfl sc__law_rows.nd (ji_seq (j_var hT.symm 2)) (blkOk_by (by kernel_rfl)) (by decide) (fun s H C cl fp => (jg_name (i := 3) sc__law_rows.nd)) (fun s H C cl fp => (jts_one (jtNotN (j_rval (jc c__law_minutes b.hr takes0 (ja_cons (j_rval (j_var hT.symm 0)) (ja_cons (j_rval (j_var hT.symm 1)) (ja_cons (j_rval (j_var hT.symm 3)) (ja_nil hT.symm)))))) (j_rval (j_non hT.symm))))) (fun s H C cl fp => (j_tup (ja_cons (j_rval (j_var hT.symm 3)) (ja_cons (j_rval (jc c__law_minutes b.hr takes0 (ja_cons (j_rval (j_var hT.symm 0)) (ja_cons (j_rval (j_var hT.symm 1)) (ja_cons (j_rval (j_var hT.symm 3)) (ja_nil hT.symm)))))) (ja_nil hT.symm))))))))))
def _law_best_e1 : EF :=
  (eSeq .tup (aCons (rVal (eVar 6)) (aCons (rVal (eVar 4)) (aCons (rVal (eVar 5)) aNil))))
def _law_best_t1 : TF :=
  (tB (f2 leD (rVal (eCallB (on1 lenD) (aCons (rVar 5) aNil))) (rVar 2)))
def _law_best_e2 : EF :=
  (eSeq .tup (aCons (rVal (f2 ixD (rVar 7) (rVal (eC (.int 0))))) (aCons (rVal (f2 ixD (rVar 7) (rVal (eC (.int 2))))) aNil)))
abbrev s__law_best : Stmt := (top 34)
theorem sc__law_best : FnScope ["stages", "paces", "most", "rows", "k", "some", "told", "one"] ["stages", "paces", "most"] (defScope s__law_best) := C8.fnScope_by (by decide +kernel)
def b__law_best (F__law_rows : FV) : SF :=
  (sCons (sSetO 3 (eLc (iEnum (eCall F__law_rows [] (aCons (rVal (eVar 0)) (aCons (rVal (eVar 1)) aNil)))) (bTup 2 (bCons (bName 4) (bCons (bTup 2 (bCons (bName 5) (bCons (bName 6) bNil))) bNil))) [4, 5, 6] _law_best_t1 _law_best_e1))
  (sRet (f2 ixD (rVal (f2 addD (rVal (eLc (iSeq (eCut (rVal (eCallB (on1 sortedD) (aCons (rVar 3) aNil))) pNo (pSome (eC (.int 1))))) (bName 7) [7] tYesJ _law_best_e2)) (rVal (eSeq .lst (aCons (rVal (eC .non)) aNil))))) (rVal (eC (.int 0))))))
def F__law_best : FV := fnV 5 (b__law_best F__law_rows)
theorem cal__law_best {P : Program} {w : World} {K : PySem.W.Frag} {mg : Str → Option Value} {base : Heap} {T : Tab} (hT : T.K = K) (B : NoB mg) {f : Addr} {fd : FuncData} (F : Fun K "_law_best" "_law_best" s__law_best f fd) (hm : mg "_law_best" = some (.ref f)) (c__law_rows : CalV P w K mg base T 3 "_law_rows" 2 F__law_rows) : CalV P w K mg base T 4 "_law_best" 3 F__law_best :=
  calV F sc__law_best hm (F.binds (ps := ["stages", "paces", "most"]) fun _ _ _ _ _ _ us hl => match us, hl with | [_, _, _], _ => rfl) fun cdv A outer s H E b => have hu := Room.u b.hr;
  (js_cons (j_setLc (i := 3) (own := [("k", 4), ("some", 5), ("told", 6)]) rfl sc__law_best.nd (ji_enum (jc c__law_rows b.hr b.tk (ja_cons (j_rval (j_var hT.symm 0)) (ja_cons (j_rval (j_var hT.symm 1)) (ja_nil hT.symm)))) B.enumerate) (blkOk_by (by kernel_rfl)) (by decide) (fun s H C cl fp => (jg_tup rfl hT.symm (jgs_cons (jg_name (i := 4) sc__law_best.nd) (jgs_cons (jg_tup rfl hT.symm (jgs_cons (jg_name (i := 5) sc__law_best.nd) (jgs_cons (jg_name (i := 6) sc__law_best.nd) jgs_nil))) jgs_nil)))) (fun s H C cl fp => (jts_one (jtLe (j_rval (jLen (ja_cons (j_rvar hT.symm 5) (ja_nil hT.symm)) B)) (j_rvar hT.symm 2)))) (fun s H C cl fp => (j_tup (ja_cons (j_rval (j_var hT.symm 6)) (ja_cons (j_rval (j_var hT.symm 4)) (ja_cons (j_rval (j_var hT.symm 5)) (ja_nil hT.symm)))))) (by rfl))
  (js_one (j_ret (j_ix (j_rval (j_add (j_rval (j_frz (j_lcO (own := [("one", 7)]) rfl sc__law_best.nd (ji_seq (j_slice (j_rval (j_frz (jSortedO hu (ja_cons (j_rvar hT.symm 3) (ja_nil hT.symm)) B))) jp_no (jp_some (j_int hT.symm)))) (blkOk_by (by kernel_rfl)) (by decide) (fun s H C cl fp => (jg_name (i := 7) sc__law_best.nd)) (fun s H C cl fp => jts_nil) (fun s H C cl fp => (j_tup (ja_cons (j_rval (j_ix (j_rvar hT.symm 7) (j_rval (j_int hT.symm)))) (ja_cons (j_rval (j_ix (j_rvar hT.symm 7) (j_rval (j_int hT.symm)))) (ja_nil hT.symm)))))))) (j_rval (j_frz (j_lstO (ja_cons (j_rval (j_non hT.symm)) (ja_nil hT.symm))))))) (j_rval (j_int hT.symm))))))
abbrev s_Ride_eq : Stmt := (inClass (top 18) 1)
theorem sc_Ride_eq : FnScope ["self", "other"] ["self", "other"] (defScope s_Ride_eq) := C8.fnScope_by (by decide +kernel)
def b_Ride_eq : SF :=
  (sRet (eAndJ (eIsC 0 (rVar 1)) (f2 eqD (rVal (eSeq .tup (aCons (rVal (eFld 5 okF_stages (rVar 0))) (aCons (rVal (eFld 6 okF_paces (rVar 0))) aNil)))) (rVal (eSeq .tup (aCons (rVal (eFld 5 okF_stages (rVar 1))) (aCons (rVal (eFld 6 okF_paces (rVar 1))) aNil)))))))
def F_Ride_eq : FV := fnV 0 b_Ride_eq
theorem cal_Ride_eq {P : Program} {w : World} {K : PySem.W.Frag} {mg : Str → Option Value} {base : Heap} {T : Tab} (hT : T.K = K) (B : NoB mg) {f : Addr} {fd : FuncData} (F : Fun K "__eq__" "Ride.__eq__" s_Ride_eq f fd) (M : EqF K (T.cls 0) f) (i_Ride : IsC K mg T "Ride" 0) (fd_stages : FldT K T 5 "stages" okF_stages) (fd_paces : FldT K T 6 "paces" okF_paces) : EqC P w K mg base T 1 0 F_Ride_eq :=
  calE F sc_Ride_eq M (F.binds (ps := ["self", "other"]) fun _ _ _ _ _ _ us hl => match us, hl with | [_, _], _ => rfl) fun cdv A outer s H E b => have hu := Room.u b.hr;
  (js_one (j_ret (j_vand (jIsC i_Ride (j_rvar hT.symm 1) B) (j_one (jeEq hu (j_rval (j_tup (ja_cons (j_rval (j_fld fd_stages (j_rvar hT.symm 0))) (ja_cons (j_rval (j_fld fd_paces (j_rvar hT.symm 0))) (ja_nil hT.symm))))) (j_rval (j_tup (ja_cons (j_rval (j_fld fd_stages (j_rvar hT.symm 1))) (ja_cons (j_rval (j_fld fd_paces (j_rvar hT.symm 1))) (ja_nil hT.symm))))))))))
def _law_taken_s1 : SF :=
  (sIf (tB (f2 gtD (rVal (f2 ixD (rVar 0) (rVal (eC (.int 3))))) (rVal (eC (.int 0))))) (sCons (sSet 3 (f2 modD (rVal (eCallB (on1 intD) (aCons (rVal (f2 ixD (rVar 0) (rVal (eC (.int 3))))) aNil))) (rVar 1)))
  (sCons (sSub 0 (f2 fdivD (rVal (f2 ixD (rVar 0) (rVal (eC (.int 3))))) (rVar 1)) (rVal (eC (.int 3))))
  (sRet (eVar 3)))) sNil)
def _law_taken_s2 : SF :=
  (sSub 0 (f2 addD (rVal (f2 ixD (rVar 0) (rVal (eC (.int 1))))) (rVal (eC (.int 1)))) (rVal (eC (.int 1))))
def _law_taken_s3 : SF :=
  (sIf (tB (f2 gtD (rVal (f2 ixD (rVar 0) (rVal (eC (.int 1))))) (rVal (eCallB (on1 lenD) (aCons (rVal (f2 ixD (rVar 0) (rVal (eC (.int 0))))) aNil))))) (sCons (sSub 0 (f2 modD (rVal (eCallB (on1 intD) (aCons (rVal (f2 addD (rVal (f2 mulD (rVal (f2 ixD (rVar 0) (rVal (eC (.int 2))))) (rVal (eC (.int 48271))))) (rVal (eC (.int 11))))) aNil))) (rVal (eC (.int 2147483647)))) (rVal (eC (.int 2))))
  (sRet (f2 modD (rVal (eCallB (on1 intD) (aCons (rVal (f2 fdivD (rVal (f2 ixD (rVar 0) (rVal (eC (.int 2))))) (rVal (eC (.int 7))))) aNil))) (rVar 1)))) sNil)
def _law_taken_s4 : SF :=
  (sSet 2 (f2 ixD (rVal (f2 ixD (rVar 0) (rVal (eC (.int 0))))) (rVal (f2 subD (rVal (f2 ixD (rVar 0) (rVal (eC (.int 1))))) (rVal (eC (.int 1)))))))
def _law_taken_s5 : SF :=
  (sSub 0 (f2 modD (rVal (eCallB (on1 intD) (aCons (rVal (f2 addD (rVal (f2 addD (rVal (f2 mulD (rVal (f2 ixD (rVar 0) (rVal (eC (.int 2))))) (rVal (eC (.int 48271))))) (rVar 2))) (rVal (eC (.int 11))))) aNil))) (rVal (eC (.int 2147483647)))) (rVal (eC (.int 2))))
def _law_taken_s6 : SF :=
  (sIf (tB (f2 geD (rVar 2) (rVal (f2 powD (rVal (eC (.int 10))) (rVal (eC (.int 18))))))) (sSub 0 (f2 fdivD (rVar 2) (rVar 1)) (rVal (eC (.int 3)))) sNil)
def _law_taken_s7 : SF :=
  (sRet (f2 modD (rVal (eCallB (on1 intD) (aCons (rVar 2) aNil))) (rVar 1)))
abbrev s__law_taken : Stmt := (top 22)
theorem sc__law_taken : FnScope ["row", "many", "cell", "found"] ["row", "many"] (defScope s__law_taken) := C8.fnScope_by (by decide +kernel)
def b__law_taken : SF :=
  (sCons _law_taken_s1
  (sCons _law_taken_s2
  (sCons _law_taken_s3
  (sCons _law_taken_s4
  (sCons _law_taken_s5
  (sCons _law_taken_s6
  _law_taken_s7))))))
def F__law_taken : FL := fnL 2 b__law_taken
theorem cal__law_taken {P : Program} {w : World} {K : PySem.W.Frag} {mg : Str → Option Value} {base : Heap} {T : Tab} (hT : T.K = K) (B : NoB mg) {f : Addr} {fd : FuncData} (F : Fun K "_law_taken" "_law_taken" s__law_taken f fd) (hm : mg "_law_taken" = some (.ref f)) : CalL P w K mg base T 1 "_law_taken" 1 F__law_taken :=
  calL F sc__law_taken hm (F.binds (ps := ["row", "many"]) fun _ _ _ _ _ _ us hl => match us, hl with | [_, _], _ => rfl) fun cdv A outer s H E b => have hu := Room.u b.hr;
  (js_cons (j_ifs (jtGt (j_rval (j_ix (j_rvar hT.symm 0) (j_rval (j_int hT.symm)))) (j_rval (j_int hT.symm))) (js_cons (j_set (i := 3) sc__law_taken.nd (j_mod (j_rval (jInt (ja_cons (j_rval (j_ix (j_rvar hT.symm 0) (j_rval (j_int hT.symm)))) (ja_nil hT.symm)) B)) (j_rvar hT.symm 1)))
  (js_cons (j_sub_store (i := 0) (j_fdiv (j_rval (j_ix (j_rvar hT.symm 0) (j_rval (j_int hT.symm)))) (j_rvar hT.symm 1)) (j_rval (j_int hT.symm)) rfl)
  (js_one (j_ret (j_var hT.symm 3))))) (js_nil hT.symm))
  (js_cons (j_sub_store (i := 0) (j_add (j_rval (j_ix (j_rvar hT.symm 0) (j_rval (j_int hT.symm)))) (j_rval (j_int hT.symm))) (j_rval (j_int hT.symm)) rfl)
  (js_cons (j_ifs (jtGt (j_rval (j_ix (j_rvar hT.symm 0) (j_rval (j_int hT.symm)))) (j_rval (jLen (ja_cons (j_rval (j_ix (j_rvar hT.symm 0) (j_rval (j_int hT.symm)))) (ja_nil hT.symm)) B))) (js_cons (j_sub_store (i := 0) (j_mod (j_rval (jInt (ja_cons (j_rval (j_add (j_rval (j_mul (j_rval (j_ix (j_rvar hT.symm 0) (j_rval (j_int hT.symm)))) (j_rval (j_int hT.symm)))) (j_rval (j_int hT.symm)))) (ja_nil hT.symm)) B)) (j_rval (j_int hT.symm))) (j_rval (j_int hT.symm)) rfl)
  (js_one (j_ret (j_mod (j_rval (jInt (ja_cons (j_rval (j_fdiv (j_rval (j_ix (j_rvar hT.symm 0) (j_rval (j_int hT.symm)))) (j_rval (j_int hT.symm)))) (ja_nil hT.symm)) B)) (j_rvar hT.symm 1))))) (js_nil hT.symm))
  (js_cons (j_set (i := 2) sc__law_taken.nd (j_ix (j_rval (j_ix (j_rvar hT.symm 0) (j_rval (j_int hT.symm)))) (j_rval (j_sub (j_rval (j_ix (j_rvar hT.symm 0) (j_rval (j_int hT.symm)))) (j_rval (j_int hT.symm))))))
  (js_cons (j_sub_store (i := 0) (j_mod (j_rval (jInt (ja_cons (j_rval (j_add (j_rval (j_add (j_rval (j_mul (j_rval (j_ix (j_rvar hT.symm 0) (j_rval (j_int hT.symm)))) (j_rval (j_int hT.symm)))) (j_rvar hT.symm 2))) (j_rval (j_int hT.symm)))) (ja_nil hT.symm)) B)) (j_rval (j_int hT.symm))) (j_rval (j_int hT.symm)) rfl)
  (js_cons (j_ifs (jtGe (j_rvar hT.symm 2) (j_rval (j_pow (j_rval (j_int hT.symm)) (j_rval (j_int hT.symm))))) (js_one (j_sub_store (i := 0) (j_fdiv (j_rvar hT.symm 2) (j_rvar hT.symm 1)) (j_rval (j_int hT.symm)) rfl)) (js_nil hT.symm))
  (js_one (j_ret (j_mod (j_rval (jInt (ja_cons (j_rvar hT.symm 2) (ja_nil hT.symm)) B)) (j_rvar hT.symm 1))))))))))
abbrev s__law_pick : Stmt := (top 23)
theorem sc__law_pick : FnScope ["row", "kinds"] ["row", "kinds"] (defScope s__law_pick) := C8.fnScope_by (by decide +kernel)
def b__law_pick (F__law_taken : FL) : SF :=
  (sRet (f2 ixD (rVar 1) (rVal (eCallL F__law_taken (aCons (rVar 0) (aCons (rVal (eCallB (on1 lenD) (aCons (rVar 1) aNil))) aNil))))))
def F__law_pick : FL := fnL 0 (b__law_pick F__law_taken)
theorem cal__law_pick {P : Program} {w : World} {K : PySem.W.Frag} {mg : Str → Option Value} {base : Heap} {T : Tab} (hT : T.K = K) (B : NoB mg) {f : Addr} {fd : FuncData} (F : Fun K "_law_pick" "_law_pick" s__law_pick f fd) (hm : mg "_law_pick" = some (.ref f)) (c__law_taken : CalL P w K mg base T 1 "_law_taken" 1 F__law_taken) : CalL P w K mg base T 2 "_law_pick" 1 F__law_pick :=
  calL F sc__law_pick hm (F.binds (ps := ["row", "kinds"]) fun _ _ _ _ _ _ us hl => match us, hl with | [_, _], _ => rfl) fun cdv A outer s H E b => have hu := Room.u b.hr;
  (js_one (j_ret (j_ix (j_rvar hT.symm 1) (j_rval (jcl c__law_taken b.hr b.tk (ja_cons (j_rvar hT.symm 0) (ja_cons (j_rval (jLen (ja_cons (j_rvar hT.symm 1) (ja_nil hT.symm)) B)) (ja_nil hT.symm))))))))
def Ride_minutes_b1 (F_is_number : FV) : SF :=
  (sIf (tOrJ (tNotJ (tB (eCall F_is_number [] (aCons (rVal (eVar 3)) (aCons (rVal (eC (.int 1))) (aCons (rVal (f2 subD (rVal (eCallB (on1 lenD) (aCons (rVal (eFld 5 okF_stages (rVar 0))) aNil))) (rVal (eC (.int 1))))) aNil)))))) (tAndJ (tB (f2 gtD (rVar 2) (rVal (eC (.int 0))))) (tB (f2 leD (rVar 3) (rVal (f2 ixD (rVar 1) (rVal (f2 subD (rVar 2) (rVal (eC (.int 1))))))))))) (sRaise 1 [1] (aCons (rVal (eVar 2)) aNil)) sNil)
def Ride_minutes_s1 (F_is_number : FV) : SF :=
  (sFor (iEnum (eVar 1)) (bTup 2 (bCons (bName 2) (bCons (bName 3) bNil)))
  (Ride_minutes_b1 F_is_number))
def Ride_minutes_s2 : SF :=
  (sAsg (eSeq .tup (aCons (rVal (eC (.int 0))) (aCons (rVal (eC (.int 0))) aNil))) (bTup 2 (bCons (bName 4) (bCons (bName 5) bNil))))
def Ride_minutes_b2 : SF :=
  (sCons (sIf (tB (f2 (inX false) (rVar 3) (rVar 1))) (sCons (sAug 4 iaddD (eVar 7))
  (sSet 5 (eC (.int 0)))) sNil)
  (sCons (sIf (tB (f2 geD (rVar 5) (rVal (eCallB (on1 lenD) (aCons (rVal (eFld 6 okF_paces (rVar 0))) aNil))))) (sRaise 3 [4, 3] (aCons (rVal (eC (.str "tired"))) (aCons (rVal (eSeq .tup aNil)) aNil))) sNil)
  (sCons (sAug 4 iaddD (f2 mulD (rVar 6) (rVal (f2 ixD (rVal (eFld 6 okF_paces (rVar 0))) (rVar 5)))))
  (sAug 5 iaddD (eC (.int 1))))))
def Ride_minutes_s3 : SF :=
  (sFor (iEnum (eFld 5 okF_stages (rVar 0))) (bTup 2 (bCons (bName 3) (bCons (bTup 2 (bCons (bName 6) (bCons (bName 7) bNil))) bNil)))
  Ride_minutes_b2)
def Ride_minutes_s4 : SF :=
  (sRet (eVar 4))
abbrev s_Ride_minutes : Stmt := (inClass (top 18) 3)
theorem sc_Ride_minutes : FnScope ["self", "changes", "at", "index", "total", "ridden", "miles", "change"] ["self", "changes"] (defScope s_Ride_minutes) := C8.fnScope_by (by decide +kernel)
def b_Ride_minutes (F_is_number : FV) : SF :=
  (sCons (Ride_minutes_s1 F_is_number)
  (sCons Ride_minutes_s2
  (sCons Ride_minutes_s3
  Ride_minutes_s4)))
def F_Ride_minutes : FV := fnV 6 (b_Ride_minutes F_is_number)
theorem cal_Ride_minutes {P : Program} {w : World} {K : PySem.W.Frag} {mg : Str → Option Value} {base : Heap} {T : Tab} (hT : T.K = K) (B : NoB mg) {f : Addr} {fd : FuncData} (F : Fun K "minutes" "Ride.minutes" s_Ride_minutes f fd) (C : Cls K (T.cls 0)) (M : Meth K (T.cls 0) "minutes" f) (nf : ∀ i, T.fnm i ≠ "minutes") (c_is_number : CalV P w K mg base T 2 "is_number" 3 F_is_number) (fd_stages : FldT K T 5 "stages" okF_stages) (fd_paces : FldT K T 6 "paces" okF_paces) (x_BadItem : ExT P w K mg base T 1 "BadItem" 1 [1] 1) (x_Refused : ExT P w K mg base T 1 "Refused" 3 [4, 3] 2) : CalM P w K mg base T 3 0 "minutes" 2 F_Ride_minutes :=
  calM F sc_Ride_minutes C M nf (F.binds (ps := ["self", "changes"]) fun _ _ _ _ _ _ us hl => match us, hl with | [_, _], _ => rfl) fun cdv A outer s H E b => have hu := Room.u b.hr;
  (js_cons (j_for b.hp rfl (ji_enum (j_var hT.symm 1) B.enumerate) (jg_tup rfl hT.symm (jgs_cons (jg_name (i := 2) sc_Ride_minutes.nd) (jgs_cons (jg_name (i := 3) sc_Ride_minutes.nd) jgs_nil)))
  (js_one (j_ifs (JW.jt (j_or (j_not (j_test (jc c_is_number b.hr b.tk (ja_cons (j_rval (j_var hT.symm 3)) (ja_cons (j_rval (j_int hT.symm)) (ja_cons (j_rval (j_sub (j_rval (jLen (ja_cons (j_rval (j_fld fd_stages (j_rvar hT.symm 0))) (ja_nil hT.symm)) B)) (j_rval (j_int hT.symm)))) (ja_nil hT.symm))))))) (j_or1 (JW.jt (j_and (jtGt (j_rvar hT.symm 2) (j_rval (j_int hT.symm))) (j_and1 (jtLe (j_rvar hT.symm 3) (j_rval (j_ix (j_rvar hT.symm 1) (j_rval (j_sub (j_rvar hT.symm 2) (j_rval (j_int hT.symm))))))))))))) (js_one (jRaise x_BadItem b.hr b.tk (ja_cons (j_rval (j_var hT.symm 2)) (ja_nil hT.symm)))) (js_nil hT.symm))))
  (js_cons (j_asg (j_tup (ja_cons (j_rval (j_int hT.symm)) (ja_cons (j_rval (j_int hT.symm)) (ja_nil hT.symm)))) (jg_tup rfl hT.symm (jgs_cons (jg_name (i := 4) sc_Ride_minutes.nd) (jgs_cons (jg_name (i := 5) sc_Ride_minutes.nd) jgs_nil))))
  (js_cons (j_for b.hp rfl (ji_enum (j_fld fd_stages (j_rvar hT.symm 0)) B.enumerate) (jg_tup rfl hT.symm (jgs_cons (jg_name (i := 3) sc_Ride_minutes.nd) (jgs_cons (jg_tup rfl hT.symm (jgs_cons (jg_name (i := 6) sc_Ride_minutes.nd) (jgs_cons (jg_name (i := 7) sc_Ride_minutes.nd) jgs_nil))) jgs_nil)))
  (js_cons (j_ifs (jtInX hu (j_rvar hT.symm 3) (j_rvar hT.symm 1)) (js_cons (jIadd (i := 4) sc_Ride_minutes.nd (j_var hT.symm 7))
  (js_one (j_set (i := 5) sc_Ride_minutes.nd (j_int hT.symm)))) (js_nil hT.symm))
  (js_cons (j_ifs (jtGe (j_rvar hT.symm 5) (j_rval (jLen (ja_cons (j_rval (j_fld fd_paces (j_rvar hT.symm 0))) (ja_nil hT.symm)) B))) (js_one (jRaise x_Refused b.hr b.tk (ja_cons (j_rval (j_str hT.symm)) (ja_cons (j_rval (j_tup (ja_nil hT.symm))) (ja_nil hT.symm))))) (js_nil hT.symm))
  (js_cons (jIadd (i := 4) sc_Ride_minutes.nd (j_mul (j_rvar hT.symm 6) (j_rval (j_ix (j_rval (j_fld fd_paces (j_rvar hT.symm 0))) (j_rvar hT.symm 5)))))
  (js_one (jIadd (i := 5) sc_Ride_minutes.nd (j_int hT.symm)))))))
  (js_one (j_ret (j_var hT.symm 4))))))
abbrev s_want_number : Stmt := (top 11)
theorem sc_want_number : FnScope ["value", "least", "most"] ["value", "least", "most"] (defScope s_want_number) := C8.fnScope_by (by decide +kernel)
def b_want_number (F_is_number : FV) : SF :=
  (sCons (sIf (tNotJ (tB (eCall F_is_number [] (aCons (rVal (eVar 0)) (aCons (rVal (eVar 1)) (aCons (rVal (eVar 2)) aNil)))))) (sRaise 0 [0] (aCons (rVal (eVar 0)) aNil)) sNil)
  (sRet (eVar 0)))
def F_want_number : FV := fnV 0 (b_want_number F_is_number)
theorem cal_want_number {P : Program} {w : World} {K : PySem.W.Frag} {mg : Str → Option Value} {base : Heap} {T : Tab} (hT : T.K = K) (B : NoB mg) {f : Addr} {fd : FuncData} (F : Fun K "want_number" "want_number" s_want_number f fd) (hm : mg "want_number" = some (.ref f)) (c_is_number : CalV P w K mg base T 2 "is_number" 3 F_is_number) (x_BadNumber : ExT P w K mg base T 1 "BadNumber" 0 [0] 1) : CalV P w K mg base T 3 "want_number" 3 F_want_number :=
  calV F sc_want_number hm (F.binds (ps := ["value", "least", "most"]) fun _ _ _ _ _ _ us hl => match us, hl with | [_, _, _], _ => rfl) fun cdv A outer s H E b => have hu := Room.u b.hr;
  (js_cons (j_ifs (j_not (j_test (jc c_is_number b.hr b.tk (ja_cons (j_rval (j_var hT.symm 0)) (ja_cons (j_rval (j_var hT.symm 1)) (ja_cons (j_rval (j_var hT.symm 2)) (ja_nil hT.symm))))))) (js_one (jRaise x_BadNumber b.hr b.tk (ja_cons (j_rval (j_var hT.symm 0)) (ja_nil hT.symm)))) (js_nil hT.symm))
  (js_one (j_ret (j_var hT.symm 0))))
abbrev s_want_minutes : Stmt := (top 20)
theorem sc_want_minutes : FnScope ["minutes"] ["minutes"] (defScope s_want_minutes) := C8.fnScope_by (by decide +kernel)
def b_want_minutes (F_want_number : FV) : SF :=
  (sRet (eCall F_want_number [] (aCons (rVal (eVar 0)) (aCons (rVal (eC (.int 0))) (aCons (rVal (eC (.int 9999))) aNil)))))
def F_want_minutes : FV := fnV 0 (b_want_minutes F_want_number)
theorem cal_want_minutes {P : Program} {w : World} {K : PySem.W.Frag} {mg : Str → Option Value} {base : Heap} {T : Tab} (hT : T.K = K) (B : NoB mg) {f : Addr} {fd : FuncData} (F : Fun K "want_minutes" "want_minutes" s_want_minutes f fd) (hm : mg "want_minutes" = some (.ref f)) (c_want_number : CalV P w K mg base T 3 "want_number" 3 F_want_number) : CalV P w K mg base T 4 "want_minutes" 1 F_want_minutes :=
  calV F sc_want_minutes hm (F.binds (ps := ["minutes"]) fun _ _ _ _ _ _ us hl => match us, hl with | [_], _ => rfl) fun cdv A outer s H E b => have hu := Room.u b.hr;
  (js_one (j_ret (jc c_want_number b.hr b.tk (ja_cons (j_rval (j_var hT.symm 0)) (ja_cons (j_rval (j_int hT.symm)) (ja_cons (j_rval (j_int hT.symm)) (ja_nil hT.symm)))))))
def subsets_s1 : SF :=
  (sParC [1, 2, 3] [(true, (eSeq .lst (aCons (rVal (eSeq .tup aNil)) aNil))), (false, (eSeq .lst (aCons (rVal (eSeq .tup aNil)) aNil))), (false, (eCallB (on1 lstD) (aCons (rVar 0) aNil)))])
def subsets_e1 : EF :=
  (f2 addD (rVar 5) (rVal (eSeq .tup (aCons (rVal (eVar 7)) aNil))))
def subsets_b1 : SF :=
  (sCons (sSet 6 (eIf (tB (f2 gtD (rVal (eCallB (on1 lenD) (aCons (rVar 5) aNil))) (rVal (eC (.int 0))))) (f2 addD (rVal (eMethR isLst indexD (eVar 3) (f2 ixD (rVar 5) (rVal (f1 negD (rVal (eC (.int 1)))))))) (rVal (eC (.int 1)))) (eC (.int 0))))
  (sExpr (eMeth 4 extD (aCons (rVal (eLc (iSeq (eCut (rVar 3) (pSome (eVar 6)) pNo)) (bName 7) [7] tYesJ subsets_e1)) aNil))))
def subsets_w1 : TF :=
  (tB (f2 gtD (rVal (eCallB (on1 lenD) (aCons (rVar 2) aNil))) (rVal (eC (.int 0)))))
def subsets_b2 : SF :=
  (sCons (sSetO 4 (eSeq .lst aNil))
  (sCons (sFor (iSeq (eVar 2)) (bName 5)
  subsets_b1)
  (sCons (sExpr (eMeth 1 extD (aCons (rVal (eVar 4)) aNil)))
  (sSet 2 (eVar 4)))))
def subsets_s2 : SF :=
  (whileS subsets_w1 subsets_b2 bigN)
def subsets_s3 : SF :=
  (sRet (eVar 1))
abbrev s_subsets : Stmt := (top 19)
theorem sc_subsets : FnScope ["numbers", "found", "rows", "names", "longer", "row", "begin", "name"] ["numbers"] (defScope s_subsets) := C8.fnScope_by (by decide +kernel)
def b_subsets : SF :=
  (sCons subsets_s1
  (sCons subsets_s2
  subsets_s3))
def F_subsets : FV := fnV 7 b_subsets
theorem cal_subsets {P : Program} {w : World} {K : PySem.W.Frag} {mg : Str → Option Value} {base : Heap} {T : Tab} (hT : T.K = K) (B : NoB mg) {f : Addr} {fd : FuncData} (F : Fun K "subsets" "subsets" s_subsets f fd) (hm : mg "subsets" = some (.ref f)) : CalV P w K mg base T 1 "subsets" 1 F_subsets :=
  calV F sc_subsets hm (F.binds (ps := ["numbers"]) fun _ _ _ _ _ _ us hl => match us, hl with | [_], _ => rfl) fun cdv A outer s H E b => have hu := Room.u b.hr;
  (js_cons (j_parC3 (i := 1) (j := 2) (l := 3) rfl sc_subsets.nd (jC_o (j_lstO (ja_cons (j_rval (j_tup (ja_nil hT.symm))) (ja_nil hT.symm))) (jC_v (j_frz (j_lstO (ja_cons (j_rval (j_tup (ja_nil hT.symm))) (ja_nil hT.symm)))) (jC_v (j_frz (jListO (ja_cons (j_rvar hT.symm 0) (ja_nil hT.symm)) B)) (jC_nil hT.symm)))))
  (js_cons (j_while bigN b.hp (jtGt (j_rval (jLen (ja_cons (j_rvar hT.symm 2) (ja_nil hT.symm)) B)) (j_rval (j_int hT.symm))) (js_cons (j_setO (i := 4) sc_subsets.nd (j_lstO (ja_nil hT.symm)))
  (js_cons (j_for b.hp rfl (ji_seq (j_var hT.symm 2)) (jg_name (i := 5) sc_subsets.nd)
  (js_cons (j_set (i := 6) sc_subsets.nd (j_if (jtGt (j_rval (jLen (ja_cons (j_rvar hT.symm 5) (ja_nil hT.symm)) B)) (j_rval (j_int hT.symm))) (j_add (j_rval (j_index hu (j_var hT.symm 3) (j_ix (j_rvar hT.symm 5) (j_rval (j_neg (j_rval (j_int hT.symm))))))) (j_rval (j_int hT.symm))) (j_int hT.symm)))
  (js_one (j_expr (j_meth (i := 4) extend_J PySem.F.slot_list_extend PySem.F.type_list_extend (ja_cons (j_rval (j_frz (j_lcO (own := [("name", 7)]) rfl sc_subsets.nd (ji_seq (j_slice (j_rvar hT.symm 3) (jp_some (j_var hT.symm 6)) jp_no)) (blkOk_by (by kernel_rfl)) (by decide) (fun s H C cl fp => (jg_name (i := 7) sc_subsets.nd)) (fun s H C cl fp => jts_nil) (fun s H C cl fp => (j_add (j_rvar hT.symm 5) (j_rval (j_tup (ja_cons (j_rval (j_var hT.symm 7)) (ja_nil hT.symm))))))))) (ja_nil hT.symm)) rfl)))))
  (js_cons (j_expr (j_meth (i := 1) extend_J PySem.F.slot_list_extend PySem.F.type_list_extend (ja_cons (j_rval (j_var hT.symm 4)) (ja_nil hT.symm)) rfl))
  (js_one (j_set (i := 2) sc_subsets.nd (j_var hT.symm 4)))))))
  (js_one (j_ret (j_var hT.symm 1)))))
def Ride_with_change_s1 (F_is_number : FV) : SF :=
  (sIf (tNotJ (tB (eCall F_is_number [] (aCons (rVal (eVar 1)) (aCons (rVal (eC (.int 0))) (aCons (rVal (f2 subD (rVal (eCallB (on1 lenD) (aCons (rVal (eFld 5 okF_stages (rVar 0))) aNil))) (rVal (eC (.int 1))))) aNil)))))) (sRaise 1 [1] (aCons (rVal (eVar 1)) aNil)) sNil)
def Ride_with_change_s2 : SF :=
  (sSet 3 (f2 addD (rVal (f2 addD (rVal (eCut (rVal (eFld 5 okF_stages (rVar 0))) pNo (pSome (eVar 1)))) (rVal (eSeq .tup (aCons (rVal (eSeq .tup (aCons (rVal (f2 ixD (rVal (f2 ixD (rVal (eFld 5 okF_stages (rVar 0))) (rVar 1))) (rVal (eC (.int 0))))) (aCons (rVal (eVar 2)) aNil)))) aNil))))) (rVal (eCut (rVal (eFld 5 okF_stages (rVar 0))) (pSome (f2 addD (rVar 1) (rVal (eC (.int 1))))) pNo))))
def Ride_with_change_s3 (F_Ride_init : FV) : SF :=
  (sRet (eCall F_Ride_init [] (aCons (rVal (eVar 3)) (aCons (rVal (eFld 6 okF_paces (rVar 0))) aNil))))
abbrev s_Ride_with_change : Stmt := (inClass (top 18) 12)
theorem sc_Ride_with_change : FnScope ["self", "index", "minutes", "rows"] ["self", "index", "minutes"] (defScope s_Ride_with_change) := C8.fnScope_by (by decide +kernel)
def b_Ride_with_change (F_is_number : FV) (F_Ride_init : FV) : SF :=
  (sCons (Ride_with_change_s1 F_is_number)
  (sCons Ride_with_change_s2
  (Ride_with_change_s3 F_Ride_init)))
def F_Ride_with_change : FV := fnV 1 (b_Ride_with_change F_is_number F_Ride_init)
theorem cal_Ride_with_change {P : Program} {w : World} {K : PySem.W.Frag} {mg : Str → Option Value} {base : Heap} {T : Tab} (hT : T.K = K) (B : NoB mg) {f : Addr} {fd : FuncData} (F : Fun K "with_change" "Ride.with_change" s_Ride_with_change f fd) (C : Cls K (T.cls 0)) (M : Meth K (T.cls 0) "with_change" f) (nf : ∀ i, T.fnm i ≠ "with_change") (c_is_number : CalV P w K mg base T 2 "is_number" 3 F_is_number) (k_Ride : CalK P w K mg base T 9 0 "Ride" 2 F_Ride_init []) (fd_stages : FldT K T 5 "stages" okF_stages) (fd_paces : FldT K T 6 "paces" okF_paces) (x_BadItem : ExT P w K mg base T 1 "BadItem" 1 [1] 1) : CalM P w K mg base T 11 0 "with_change" 3 F_Ride_with_change :=
  calM F sc_Ride_with_change C M nf (F.binds (ps := ["self", "index", "minutes"]) fun _ _ _ _ _ _ us hl => match us, hl with | [_, _, _], _ => rfl) fun cdv A outer s H E b => have hu := Room.u b.hr;
  (js_cons (j_ifs (j_not (j_test (jc c_is_number b.hr b.tk (ja_cons (j_rval (j_var hT.symm 1)) (ja_cons (j_rval (j_int hT.symm)) (ja_cons (j_rval (j_sub (j_rval (jLen (ja_cons (j_rval (j_fld fd_stages (j_rvar hT.symm 0))) (ja_nil hT.symm)) B)) (j_rval (j_int hT.symm)))) (ja_nil hT.symm))))))) (js_one (jRaise x_BadItem b.hr b.tk (ja_cons (j_rval (j_var hT.symm 1)) (ja_nil hT.symm)))) (js_nil hT.symm))
  (js_cons (j_set (i := 3) sc_Ride_with_change.nd (j_add (j_rval (j_add (j_rval (j_slice (j_rval (j_fld fd_stages (j_rvar hT.symm 0))) jp_no (jp_some (j_var hT.symm 1)))) (j_rval (j_tup (ja_cons (j_rval (j_tup (ja_cons (j_rval (j_ix (j_rval (j_ix (j_rval (j_fld fd_stages (j_rvar hT.symm 0))) (j_rvar hT.symm 1))) (j_rval (j_int hT.symm)))) (ja_cons (j_rval (j_var hT.symm 2)) (ja_nil hT.symm))))) (ja_nil hT.symm)))))) (j_rval (j_slice (j_rval (j_fld fd_stages (j_rvar hT.symm 0))) (jp_some (j_add (j_rvar hT.symm 1) (j_rval (j_int hT.symm)))) jp_no))))
  (js_one (j_ret (j_frz (jk k_Ride b.hr b.tk (ja_cons (j_rval (j_var hT.symm 3)) (ja_cons (j_rval (j_fld fd_paces (j_rvar hT.symm 0))) (ja_nil hT.symm)))))))))
def Ride_best_s1 : SF :=
  (sSet 1 (eDisp [((eC (.int 0)), (eSeq .tup (aCons (rVal (eC (.int 0))) (aCons (rVal (eC (.int 0))) (aCons (rVal (eSeq .tup aNil)) aNil)))))]))
def Ride_best_b1 : SF :=
  (sCons (sIf (tB (f2 ltD (rVar 9) (rVal (eCallB (on1 lenD) (aCons (rVal (eFld 6 okF_paces (rVar 0))) aNil))))) (sCons (sSet 11 (eSeq .tup (aCons (rVal (f2 addD (rVal (f2 ixD (rVar 10) (rVal (eC (.int 0))))) (rVal (f2 mulD (rVar 7) (rVal (f2 ixD (rVal (eFld 6 okF_paces (rVar 0))) (rVar 9))))))) (aCons (rVal (f2 ixD (rVar 10) (rVal (eC (.int 1))))) (aCons (rVal (f2 ixD (rVar 10) (rVal (eC (.int 2))))) aNil)))))
  (sPutD 3 (eCallB (on2 min2X) (aCons (rVal (eGet2 (rVar 3) (f2 addD (rVar 9) (rVal (eC (.int 1)))) (eVar 11))) (aCons (rVar 11) aNil))) (f2 addD (rVar 9) (rVal (eC (.int 1)))))) sNil)
  (sIf (tB (f2 gtD (rVar 2) (rVal (eC (.int 0))))) (sCons (sSet 11 (eSeq .tup (aCons (rVal (f2 addD (rVal (f2 addD (rVal (f2 ixD (rVar 10) (rVal (eC (.int 0))))) (rVar 8))) (rVal (f2 mulD (rVar 7) (rVal (f2 ixD (rVal (eFld 6 okF_paces (rVar 0))) (rVal (eC (.int 0))))))))) (aCons (rVal (f2 addD (rVal (f2 ixD (rVar 10) (rVal (eC (.int 1))))) (rVal (eC (.int 1))))) (aCons (rVal (f2 addD (rVal (f2 ixD (rVar 10) (rVal (eC (.int 2))))) (rVal (eSeq .tup (aCons (rVal (eVar 2)) aNil))))) aNil)))))
  (sPutD 3 (eCallB (on2 min2X) (aCons (rVal (eGet2 (rVar 3) (eC (.int 1)) (eVar 11))) (aCons (rVar 11) aNil))) (eC (.int 1)))) sNil))
def Ride_best_b2 : SF :=
  (sCons (sSetO 3 eNewD)
  (sCons (sFor (iItemsJ (eVar 1)) (bTup 2 (bCons (bName 9) (bCons (bName 10) bNil)))
  Ride_best_b1)
  (sSet 1 (eVar 3))))
def Ride_best_s2 : SF :=
  (sFor (iEnum (eFld 5 okF_stages (rVar 0))) (bTup 2 (bCons (bName 2) (bCons (bTup 2 (bCons (bName 7) (bCons (bName 8) bNil))) bNil)))
  Ride_best_b2)
def Ride_best_s3 : SF :=
  (sAsg (eCallB (on1 minX) (aCons (rVal (eListD dvalsD (rVar 1))) aNil)) (bTup 3 (bCons (bName 4) (bCons (bName 5) (bCons (bName 6) bNil)))))
def Ride_best_s4 : SF :=
  (sRet (eSeq .tup (aCons (rVal (eVar 4)) (aCons (rVal (eVar 6)) aNil))))
abbrev s_Ride_best : Stmt := (inClass (top 18) 6)
theorem sc_Ride_best : FnScope ["self", "table", "index", "fresh", "minutes", "many", "changes", "miles", "change", "ridden", "told", "row"] ["self"] (defScope s_Ride_best) := C8.fnScope_by (by decide +kernel)
def b_Ride_best : SF :=
  (sCons Ride_best_s1
  (sCons Ride_best_s2
  (sCons Ride_best_s3
  Ride_best_s4)))
def F_Ride_best : FV := fnV 11 b_Ride_best
theorem cal_Ride_best {P : Program} {w : World} {K : PySem.W.Frag} {mg : Str → Option Value} {base : Heap} {T : Tab} (hT : T.K = K) (B : NoB mg) {f : Addr} {fd : FuncData} (F : Fun K "best" "Ride.best" s_Ride_best f fd) (C : Cls K (T.cls 0)) (M : Meth K (T.cls 0) "best" f) (nf : ∀ i, T.fnm i ≠ "best") (fd_paces : FldT K T 6 "paces" okF_paces) (fd_stages : FldT K T 5 "stages" okF_stages) : CalM P w K mg base T 1 0 "best" 1 F_Ride_best :=
  calM F sc_Ride_best C M nf (F.binds (ps := ["self"]) fun _ _ _ _ _ _ us hl => match us, hl with | [_], _ => rfl) fun cdv A outer s H E b => have hu := Room.u b.hr;
  (js_cons (j_set (i := 1) sc_Ride_best.nd (j_frz (j_disp hT.symm (jps_cons (j_int hT.symm) (j_tup (ja_cons (j_rval (j_int hT.symm)) (ja_cons (j_rval (j_int hT.symm)) (ja_cons (j_rval (j_tup (ja_nil hT.symm))) (ja_nil hT.symm))))) jps_nil))))
  (js_cons (j_for b.hp rfl (ji_enum (j_fld fd_stages (j_rvar hT.symm 0)) B.enumerate) (jg_tup rfl hT.symm (jgs_cons (jg_name (i := 2) sc_Ride_best.nd) (jgs_cons (jg_tup rfl hT.symm (jgs_cons (jg_name (i := 7) sc_Ride_best.nd) (jgs_cons (jg_name (i := 8) sc_Ride_best.nd) jgs_nil))) jgs_nil)))
  (js_cons (j_setO (i := 3) sc_Ride_best.nd (j_newD hT.symm))
  (js_cons (j_for b.hp rfl (ji_items (j_var hT.symm 1)) (jg_tup rfl hT.symm (jgs_cons (jg_name (i := 9) sc_Ride_best.nd) (jgs_cons (jg_name (i := 10) sc_Ride_best.nd) jgs_nil)))
  (js_cons (j_ifs (jtLt (j_rvar hT.symm 9) (j_rval (jLen (ja_cons (j_rval (j_fld fd_paces (j_rvar hT.symm 0))) (ja_nil hT.symm)) B))) (js_cons (j_set (i := 11) sc_Ride_best.nd (j_tup (ja_cons (j_rval (j_add (j_rval (j_ix (j_rvar hT.symm 10) (j_rval (j_int hT.symm)))) (j_rval (j_mul (j_rvar hT.symm 7) (j_rval (j_ix (j_rval (j_fld fd_paces (j_rvar hT.symm 0))) (j_rvar hT.symm 9))))))) (ja_cons (j_rval (j_ix (j_rvar hT.symm 10) (j_rval (j_int hT.symm)))) (ja_cons (j_rval (j_ix (j_rvar hT.symm 10) (j_rval (j_int hT.symm)))) (ja_nil hT.symm))))))
  (js_one (j_putD (i := 3) (u1 hu) (jMin2X rfl hu (ja_cons (j_rval (jGet2 (u1 hu) (j_rvar hT.symm 3) (j_add (j_rvar hT.symm 9) (j_rval (j_int hT.symm))) (j_var hT.symm 11))) (ja_cons (j_rvar hT.symm 11) (ja_nil hT.symm))) B) (j_add (j_rvar hT.symm 9) (j_rval (j_int hT.symm)))))) (js_nil hT.symm))
  (js_one (j_ifs (jtGt (j_rvar hT.symm 2) (j_rval (j_int hT.symm))) (js_cons (j_set (i := 11) sc_Ride_best.nd (j_tup (ja_cons (j_rval (j_add (j_rval (j_add (j_rval (j_ix (j_rvar hT.symm 10) (j_rval (j_int hT.symm)))) (j_rvar hT.symm 8))) (j_rval (j_mul (j_rvar hT.symm 7) (j_rval (j_ix (j_rval (j_fld fd_paces (j_rvar hT.symm 0))) (j_rval (j_int hT.symm)))))))) (ja_cons (j_rval (j_add (j_rval (j_ix (j_rvar hT.symm 10) (j_rval (j_int hT.symm)))) (j_rval (j_int hT.symm)))) (ja_cons (j_rval (j_add (j_rval (j_ix (j_rvar hT.symm 10) (j_rval (j_int hT.symm)))) (j_rval (j_tup (ja_cons (j_rval (j_var hT.symm 2)) (ja_nil hT.symm)))))) (ja_nil hT.symm))))))
  (js_one (j_putD (i := 3) (u1 hu) (jMin2X rfl hu (ja_cons (j_rval (jGet2 (u1 hu) (j_rvar hT.symm 3) (j_int hT.symm) (j_var hT.symm 11))) (ja_cons (j_rvar hT.symm 11) (ja_nil hT.symm))) B) (j_int hT.symm)))) (js_nil hT.symm)))))
  (js_one (j_set (i := 1) sc_Ride_best.nd (j_var hT.symm 3))))))
  (js_cons (j_asg (jMinX rfl hu (ja_cons (j_rval (j_frz (jListV rfl (j_rvar hT.symm 1) B))) (ja_nil hT.symm)) B) (jg_tup rfl hT.symm (jgs_cons (jg_name (i := 4) sc_Ride_best.nd) (jgs_cons (jg_name (i := 5) sc_Ride_best.nd) (jgs_cons (jg_name (i := 6) sc_Ride_best.nd) jgs_nil)))))
  (js_one (j_ret (j_tup (ja_cons (j_rval (j_var hT.symm 4)) (ja_cons (j_rval (j_var hT.symm 6)) (ja_nil hT.symm)))))))))
def Ride_most_change_s1 : SF :=
  (sSet 2 (eC .non))
def Ride_most_change_b1 (F_Ride_best : FV) (F_Ride_with_change : FV) : SF :=
  (sIf (tB (f2 (inX false) (rVar 1) (rVal (f2 ixD (rVal (eCallM 0 F_Ride_best (eCallM 0 F_Ride_with_change (eVar 0) (aCons (rVal (eVar 1)) (aCons (rVal (eVar 3)) aNil))) aNil)) (rVal (eC (.int 1))))))) (sSet 2 (eVar 3)) sNil)
def Ride_most_change_s2 (F_Ride_best : FV) (F_Ride_with_change : FV) : SF :=
  (sFor (iRng rng1 (aCons (rVal (eC (.int 100))) aNil)) (bName 3)
  (Ride_most_change_b1 F_Ride_best F_Ride_with_change))
def Ride_most_change_s3 : SF :=
  (sRet (eVar 2))
abbrev s_Ride_most_change : Stmt := (inClass (top 18) 13)
theorem sc_Ride_most_change : FnScope ["self", "index", "found", "minutes"] ["self", "index"] (defScope s_Ride_most_change) := C8.fnScope_by (by decide +kernel)
def b_Ride_most_change (F_Ride_best : FV) (F_Ride_with_change : FV) : SF :=
  (sCons Ride_most_change_s1
  (sCons (Ride_most_change_s2 F_Ride_best F_Ride_with_change)
  Ride_most_change_s3))
def F_Ride_most_change : FV := fnV 2 (b_Ride_most_change F_Ride_best F_Ride_with_change)
theorem cal_Ride_most_change {P : Program} {w : World} {K : PySem.W.Frag} {mg : Str → Option Value} {base : Heap} {T : Tab} (hT : T.K = K) (B : NoB mg) {f : Addr} {fd : FuncData} (F : Fun K "most_change" "Ride.most_change" s_Ride_most_change f fd) (C : Cls K (T.cls 0)) (M : Meth K (T.cls 0) "most_change" f) (nf : ∀ i, T.fnm i ≠ "most_change") (c_Ride_best : CalM P w K mg base T 1 0 "best" 1 F_Ride_best) (c_Ride_with_change : CalM P w K mg base T 11 0 "with_change" 3 F_Ride_with_change) : CalM P w K mg base T 12 0 "most_change" 2 F_Ride_most_change :=
  calM F sc_Ride_most_change C M nf (F.binds (ps := ["self", "index"]) fun _ _ _ _ _ _ us hl => match us, hl with | [_, _], _ => rfl) fun cdv A outer s H E b => have hu := Room.u b.hr;
  (js_cons (j_set (i := 2) sc_Ride_most_change.nd (j_non hT.symm))
  (js_cons (j_for b.hp rfl (ji_range1 (ja_cons (j_rval (j_int hT.symm)) (ja_nil hT.symm)) B.range) (jg_name (i := 3) sc_Ride_most_change.nd)
  (js_one (j_ifs (jtInX hu (j_rvar hT.symm 1) (j_rval (j_ix (j_rval (jm0 c_Ride_best b.hr b.tk (jm c_Ride_with_change b.hr b.tk (j_var hT.symm 0) (ja_cons (j_rval (j_var hT.symm 1)) (ja_cons (j_rval (j_var hT.symm 3)) (ja_nil hT.symm)))))) (j_rval (j_int hT.symm))))) (js_one (j_set (i := 2) sc_Ride_most_change.nd (j_var hT.symm 3))) (js_nil hT.symm))))
  (js_one (j_ret (j_var hT.symm 2)))))
abbrev s__law_whole : Stmt := (top 29)
theorem sc__law_whole : FnScope ["value"] ["value"] (defScope s__law_whole) := C8.fnScope_by (by decide +kernel)
def b__law_whole : SF :=
  (sRet (eAndJ (eIsT "int" (rVar 0)) (eNotJ (eIsT "bool" (rVar 0)))))
def F__law_whole : FV := fnV 0 b__law_whole
theorem cal__law_whole {P : Program} {w : World} {K : PySem.W.Frag} {mg : Str → Option Value} {base : Heap} {T : Tab} (hT : T.K = K) (B : NoB mg) {f : Addr} {fd : FuncData} (F : Fun K "_law_whole" "_law_whole" s__law_whole f fd) (hm : mg "_law_whole" = some (.ref f)) : CalV P w K mg base T 1 "_law_whole" 1 F__law_whole :=
  calV F sc__law_whole hm (F.binds (ps := ["value"]) fun _ _ _ _ _ _ us hl => match us, hl with | [_], _ => rfl) fun cdv A outer s H E b => have hu := Room.u b.hr;
  (js_one (j_ret (j_vand (j_isT (j_rvar hT.symm 0) (ty1 B.int (by decide +kernel)) B.isi) (j_one (j_vnot (j_isT (j_rvar hT.symm 0) (ty1 B.bool (by decide +kernel)) B.isi))))))
abbrev s__law_refused_row : Stmt := (top 28)
theorem sc__law_refused_row : FnScope ["call", "due"] ["call", "due"] (defScope s__law_refused_row) := C8.fnScope_by (by decide +kernel)
def b__law_refused_row (F__law_whole : FV) : SF :=
  (sRet (eAndJ (f2 eqD (rVar 0) (rVar 1)) (f2 eqD (rVal (eCall F__law_whole [] (aCons (rVal (f2 ixD (rVar 0) (rVal (eC (.int 1))))) aNil))) (rVal (eCall F__law_whole [] (aCons (rVal (f2 ixD (rVar 1) (rVal (eC (.int 1))))) aNil))))))
def F__law_refused_row : FV := fnV 0 (b__law_refused_row F__law_whole)
theorem cal__law_refused_row {P : Program} {w : World} {K : PySem.W.Frag} {mg : Str → Option Value} {base : Heap} {T : Tab} (hT : T.K = K) (B : NoB mg) {f : Addr} {fd : FuncData} (F : Fun K "_law_refused_row" "_law_refused_row" s__law_refused_row f fd) (hm : mg "_law_refused_row" = some (.ref f)) (c__law_whole : CalV P w K mg base T 1 "_law_whole" 1 F__law_whole) : CalV P w K mg base T 2 "_law_refused_row" 2 F__law_refused_row :=
  calV F sc__law_refused_row hm (F.binds (ps := ["call", "due"]) fun _ _ _ _ _ _ us hl => match us, hl with | [_, _], _ => rfl) fun cdv A outer s H E b => have hu := Room.u b.hr;
  (js_one (j_ret (j_vand (jeEq hu (j_rvar hT.symm 0) (j_rvar hT.symm 1)) (j_one (jeEq hu (j_rval (jc c__law_whole b.hr b.tk (ja_cons (j_rval (j_ix (j_rvar hT.symm 0) (j_rval (j_int hT.symm)))) (ja_nil hT.symm)))) (j_rval (jc c__law_whole b.hr b.tk (ja_cons (j_rval (j_ix (j_rvar hT.symm 1) (j_rval (j_int hT.symm)))) (ja_nil hT.symm)))))))))
def _law_raised_y1 (F_Ride_init : FV) : SF :=
  (sExpr (eCall F_Ride_init [] (aCons (rVal (eVar 0)) (aCons (rVal (eVar 1)) aNil))))
def _law_raised_x1 : SF :=
  (sRet (eSeq .tup (aCons (rVal (eC (.str "many"))) (aCons (rVal (eXf 2 2 okX_limit)) aNil))))
def _law_raised_x2 : SF :=
  (sRet (eSeq .tup (aCons (rVal (eC (.str "item"))) (aCons (rVal (eXf 2 1 okX_index)) aNil))))
abbrev s__law_raised : Stmt := (top 31)
theorem sc__law_raised : FnScope ["stages", "paces", "e"] ["stages", "paces"] (defScope s__law_raised) := C8.fnScope_by (by decide +kernel)
def b__law_raised (F_Ride_init : FV) : SF :=
  (sCons (sTryMany [(2, hd_BadItem, _law_raised_x2), (2, hd_TooMany, _law_raised_x1)] (_law_raised_y1 F_Ride_init))
  (sRet (eC .non)))
def F__law_raised : FV := fnV 1 (b__law_raised F_Ride_init)
theorem cal__law_raised {P : Program} {w : World} {K : PySem.W.Frag} {mg : Str → Option Value} {base : Heap} {T : Tab} (hT : T.K = K) (B : NoB mg) {f : Addr} {fd : FuncData} (F : Fun K "_law_raised" "_law_raised" s__law_raised f fd) (hm : mg "_law_raised" = some (.ref f)) (k_Ride : CalK P w K mg base T 9 0 "Ride" 2 F_Ride_init []) (h_TooMany : HdT K mg T "TooMany" hd_TooMany) (h_BadItem : HdT K mg T "BadItem" hd_BadItem) (xf_limit : XfT K T 2 "limit" okX_limit) (xf_index : XfT K T 1 "index" okX_index) (hinj : ∀ a b, T.fnm a = T.fnm b → a = b) : CalV P w K mg base T 11 "_law_raised" 2 F__law_raised :=
  calV F sc__law_raised hm (F.binds (ps := ["stages", "paces"]) fun _ _ _ _ _ _ us hl => match us, hl with | [_, _], _ => rfl) fun cdv A outer s H E b => have hu := Room.u b.hr;
  (js_cons (j_try_many hT.symm sc__law_raised.nd b.tk (fun W pn xe tk hp => (js_one (j_expr (j_frz (jk k_Ride b.hr tk (ja_cons (j_rval (j_var hT.symm 0)) (ja_cons (j_rval (j_var hT.symm 1)) (ja_nil hT.symm)))))))) (hds_cons (i := 2) h_BadItem (fun a oe cls d pn z v => (js_one (j_ret (j_tup (ja_cons (j_rval (j_str hT.symm)) (ja_cons (j_rval (jXf hT.symm hinj xf_index z v)) (ja_nil hT.symm))))))) (hds_cons (i := 2) h_TooMany (fun a oe cls d pn z v => (js_one (j_ret (j_tup (ja_cons (j_rval (j_str hT.symm)) (ja_cons (j_rval (jXf hT.symm hinj xf_limit z v)) (ja_nil hT.symm))))))) HdsJ.nil)))
  (js_one (j_ret (j_non hT.symm))))
def _law_refused_y1 (F_Ride_minutes : FV) : SF :=
  (sCons (sExpr (eCallM 0 F_Ride_minutes (eVar 1) (aCons (rVal (eVar 4)) aNil)))
  (sRet (eC (.bl false))))
def _law_refused_x1 : SF :=
  (sIf (tB (f2 neD (rVal (eXf 8 1 okX_index)) (rVar 7))) (sRet (eC (.bl false))) sNil)
def _law_refused_b1 (F_Ride_minutes : FV) : SF :=
  (sTryAs 8 hd_BadItem (_law_refused_y1 F_Ride_minutes) _law_refused_x1)
def _law_refused_s1 (F_Ride_minutes : FV) : SF :=
  (sFor (iSeq (eSeq .lst (aCons (rVal (eSeq .tup (aCons (rVal (eSeq .tup (aCons (rVal (eC (.int 0))) aNil))) (aCons (rVal (eC (.int 0))) aNil)))) (aCons (rVal (eSeq .tup (aCons (rVal (eSeq .tup (aCons (rVal (eCallB (on1 lenD) (aCons (rVar 2) aNil))) aNil))) (aCons (rVal (eC (.int 0))) aNil)))) (aCons (rVal (eSeq .tup (aCons (rVal (eSeq .tup (aCons (rVal (eC (.int 1))) (aCons (rVal (eC (.int 1))) aNil)))) (aCons (rVal (f2 ixD (rVal (eSeq .lst (aCons (rVal (eC (.int 1))) (aCons (rVal (eC (.int 0))) aNil)))) (rVal (eCallB (on1 intD) (aCons (rVal (f2 ltD (rVal (eCallB (on1 lenD) (aCons (rVar 2) aNil))) (rVal (eC (.int 2))))) aNil))))) aNil)))) (aCons (rVal (eSeq .tup (aCons (rVal (eSeq .tup (aCons (rVal (eC (.bl true))) aNil))) (aCons (rVal (eC (.int 0))) aNil)))) (aCons (rVal (eSeq .tup (aCons (rVal (eSeq .tup (aCons (rVal (eC .non)) aNil))) (aCons (rVal (eC (.int 0))) aNil)))) aNil))))))) (bTup 2 (bCons (bName 4) (bCons (bName 7) bNil)))
  (_law_refused_b1 F_Ride_minutes))
def _law_refused_y2 (F_Ride_with_change : FV) (F_Ride_most_change : FV) : SF :=
  (sCons (sIf (tB (f2 eqD (rVar 9) (rVal (eC (.int 0))))) (sExpr (eCallM 0 F_Ride_with_change (eVar 1) (aCons (rVal (eVar 4)) (aCons (rVal (eC (.int 1))) aNil)))) (sExpr (eCallM 0 F_Ride_most_change (eVar 1) (aCons (rVal (eVar 4)) aNil))))
  (sRet (eC (.bl false))))
def _law_refused_x2 : SF :=
  (sIf (tReprNe (eXf 8 1 okX_index) (eVar 4)) (sRet (eC (.bl false))) sNil)
def _law_refused_b2 (F_Ride_with_change : FV) (F_Ride_most_change : FV) : SF :=
  (sTryAs 8 hd_BadItem (_law_refused_y2 F_Ride_with_change F_Ride_most_change) _law_refused_x2)
def _law_refused_b3 (F_Ride_with_change : FV) (F_Ride_most_change : FV) : SF :=
  (sFor (iRng rng1 (aCons (rVal (eC (.int 2))) aNil)) (bName 9)
  (_law_refused_b2 F_Ride_with_change F_Ride_most_change))
def _law_refused_s2 (F_Ride_with_change : FV) (F_Ride_most_change : FV) : SF :=
  (sFor (iSeq (eSeq .lst (aCons (rVal (f1 negD (rVal (eC (.int 1))))) (aCons (rVal (eCallB (on1 lenD) (aCons (rVar 2) aNil))) (aCons (rVal (eC (.bl true))) (aCons (rVal (eC .non)) aNil)))))) (bName 4)
  (_law_refused_b3 F_Ride_with_change F_Ride_most_change))
def _law_refused_y3 (F_want_minutes : FV) : SF :=
  (sCons (sExpr (eCall F_want_minutes [] (aCons (rVal (eVar 5)) aNil)))
  (sRet (eC (.bl false))))
def _law_refused_x3 : SF :=
  (sIf (tReprNe (eXf 8 0 okX_value) (eVar 5)) (sRet (eC (.bl false))) sNil)
def _law_refused_b4 (F_want_minutes : FV) : SF :=
  (sTryAs 8 hd_BadNumber (_law_refused_y3 F_want_minutes) _law_refused_x3)
def _law_refused_s3 (F_want_minutes : FV) : SF :=
  (sFor (iSeq (eSeq .lst (aCons (rVal (f1 negD (rVal (eC (.int 1))))) (aCons (rVal (eC (.int 10000))) (aCons (rVal (eC (.bl true))) (aCons (rVal (eC .non)) aNil)))))) (bName 5)
  (_law_refused_b4 F_want_minutes))
def _law_refused_s4 (F__law_pick : FL) : SF :=
  (sPar 10 11 (aCons (rVal (eCallL F__law_pick (aCons (rVar 0) (aCons (rVal (eSeq .lst (aCons (rVal (eSeq .tup (aCons (rVal (eC (.int 0))) (aCons (rVal (eC (.int 1))) aNil)))) (aCons (rVal (eSeq .tup (aCons (rVal (eC (.int 100))) (aCons (rVal (eC (.int 1))) aNil)))) (aCons (rVal (eSeq .tup (aCons (rVal (eC (.int 1))) (aCons (rVal (eC (.int 100))) aNil)))) (aCons (rVal (eSeq .tup (aCons (rVal (eC (.int 1))) aNil))) (aCons (rVal (eC .non)) (aCons (rVal (eSeq .tup (aCons (rVal (eC (.bl true))) (aCons (rVal (eC (.int 1))) aNil)))) aNil)))))))) aNil)))) (aCons (rVal (eCallL F__law_pick (aCons (rVar 0) (aCons (rVal (eSeq .lst (aCons (rVal (eC (.int 0))) (aCons (rVal (eC (.int 61))) (aCons (rVal (eC (.bl true))) (aCons (rVal (eC .non)) aNil)))))) aNil)))) aNil)))
def _law_refused_s5 : SF :=
  (sSet 6 (eSeq .lst (aCons (rVal (eSeq .tup (aCons (rVal (eSeq .tup (aCons (rVal (f2 addD (rVar 2) (rVal (eSeq .tup (aCons (rVal (eVar 10)) aNil))))) (aCons (rVal (eC .non)) aNil)))) (aCons (rVal (eSeq .tup (aCons (rVal (eC (.str "item"))) (aCons (rVal (eCallB (on1 lenD) (aCons (rVar 2) aNil))) aNil)))) aNil)))) (aCons (rVal (eSeq .tup (aCons (rVal (eSeq .tup (aCons (rVal (eC .non)) (aCons (rVal (eC .non)) aNil)))) (aCons (rVal (eSeq .tup (aCons (rVal (eC (.str "item"))) (aCons (rVal (eC .non)) aNil)))) aNil)))) (aCons (rVal (eSeq .tup (aCons (rVal (eSeq .tup (aCons (rVal (f2 mulX (rVal (eSeq .tup (aCons (rVal (eSeq .tup (aCons (rVal (eC (.int 1))) (aCons (rVal (eC (.int 1))) aNil)))) aNil))) (rVal (eC (.int 9))))) (aCons (rVal (eC .non)) aNil)))) (aCons (rVal (eSeq .tup (aCons (rVal (eC (.str "many"))) (aCons (rVal (eC (.int 8))) aNil)))) aNil)))) (aCons (rVal (eSeq .tup (aCons (rVal (eSeq .tup (aCons (rVal (eVar 2)) (aCons (rVal (eSeq .tup (aCons (rVal (eC (.int 1))) (aCons (rVal (eVar 11)) aNil)))) aNil)))) (aCons (rVal (eSeq .tup (aCons (rVal (eC (.str "item"))) (aCons (rVal (eC (.int 1))) aNil)))) aNil)))) aNil))))))
def _law_refused_s6 : SF :=
  (sSet 6 (f2 addD (rVar 6) (rVal (eSeq .lst (aCons (rVal (eSeq .tup (aCons (rVal (eSeq .tup (aCons (rVal (eVar 2)) (aCons (rVal (eSeq .tup aNil)) aNil)))) (aCons (rVal (eSeq .tup (aCons (rVal (eC (.str "item"))) (aCons (rVal (eC .non)) aNil)))) aNil)))) (aCons (rVal (eSeq .tup (aCons (rVal (eSeq .tup (aCons (rVal (eVar 2)) (aCons (rVal (eC .non)) aNil)))) (aCons (rVal (eSeq .tup (aCons (rVal (eC (.str "item"))) (aCons (rVal (eC .non)) aNil)))) aNil)))) (aCons (rVal (eSeq .tup (aCons (rVal (eSeq .tup (aCons (rVal (eVar 2)) (aCons (rVal (f2 mulX (rVal (eSeq .tup (aCons (rVal (eC (.int 1))) aNil))) (rVal (eC (.int 5))))) aNil)))) (aCons (rVal (eSeq .tup (aCons (rVal (eC (.str "many"))) (aCons (rVal (eC (.int 4))) aNil)))) aNil)))) aNil)))))))
def _law_refused_e1 : EF :=
  (eVar 12)
def _law_refused_t1 (F__law_refused_row : FV) (F__law_raised : FV) : TF :=
  (tNotJ (tB (eCall F__law_refused_row [] (aCons (rVal (eCall F__law_raised [] (aCons (rVal (f2 ixD (rVal (f2 ixD (rVar 12) (rVal (eC (.int 0))))) (rVal (eC (.int 0))))) (aCons (rVal (f2 ixD (rVal (f2 ixD (rVar 12) (rVal (eC (.int 0))))) (rVal (eC (.int 1))))) aNil)))) (aCons (rVal (f2 ixD (rVar 12) (rVal (eC (.int 1))))) aNil)))))
def _law_refused_s7 (F__law_refused_row : FV) (F__law_raised : FV) (F_subsets : FV) (F_want_minutes : FV) : SF :=
  (sRet (eAndJ (f2 eqD (rVal (eLc (iSeq (eVar 6)) (bName 12) [12] (_law_refused_t1 F__law_refused_row F__law_raised) _law_refused_e1)) (rVal (eSeq .lst aNil))) (eAndJ (f2 eqD (rVal (eCall F_subsets [] (aCons (rVal (eSeq .lst (aCons (rVal (eC (.int 1))) (aCons (rVal (eC (.int 2))) aNil)))) aNil))) (rVal (eSeq .lst (aCons (rVal (eSeq .tup aNil)) (aCons (rVal (eSeq .tup (aCons (rVal (eC (.int 1))) aNil))) (aCons (rVal (eSeq .tup (aCons (rVal (eC (.int 2))) aNil))) (aCons (rVal (eSeq .tup (aCons (rVal (eC (.int 1))) (aCons (rVal (eC (.int 2))) aNil)))) aNil))))))) (f2 eqD (rVal (eCall F_want_minutes [] (aCons (rVal (eC (.int 9999))) aNil))) (rVal (eC (.int 9999)))))))
abbrev s__law_refused : Stmt := (top 35)
theorem sc__law_refused : FnScope ["row", "made", "stages", "paces", "value", "number", "checks", "due", "e", "turn", "bad", "worse", "one"] ["row", "made", "stages", "paces"] (defScope s__law_refused) := C8.fnScope_by (by decide +kernel)
def b__law_refused (F_Ride_minutes : FV) (F_Ride_with_change : FV) (F_Ride_most_change : FV) (F_want_minutes : FV) (F__law_pick : FL) (F__law_refused_row : FV) (F__law_raised : FV) (F_subsets : FV) : SF :=
  (sCons (_law_refused_s1 F_Ride_minutes)
  (sCons (_law_refused_s2 F_Ride_with_change F_Ride_most_change)
  (sCons (_law_refused_s3 F_want_minutes)
  (sCons (_law_refused_s4 F__law_pick)
  (sCons _law_refused_s5
  (sCons _law_refused_s6
  (_law_refused_s7 F__law_refused_row F__law_raised F_subsets F_want_minutes)))))))
def F__law_refused : FL := fnL 9 (b__law_refused F_Ride_minutes F_Ride_with_change F_Ride_most_change F_want_minutes F__law_pick F__law_refused_row F__law_raised F_subsets)
theorem cal__law_refused {P : Program} {w : World} {K : PySem.W.Frag} {mg : Str → Option Value} {base : Heap} {T : Tab} (hT : T.K = K) (B : NoB mg) {f : Addr} {fd : FuncData} (F : Fun K "_law_refused" "_law_refused" s__law_refused f fd) (hm : mg "_law_refused" = some (.ref f)) (c_want_minutes : CalV P w K mg base T 4 "want_minutes" 1 F_want_minutes) (c__law_pick : CalL P w K mg base T 2 "_law_pick" 1 F__law_pick) (c__law_refused_row : CalV P w K mg base T 2 "_law_refused_row" 2 F__law_refused_row) (c__law_raised : CalV P w K mg base T 11 "_law_raised" 2 F__law_raised) (c_subsets : CalV P w K mg base T 1 "subsets" 1 F_subsets) (c_Ride_minutes : CalM P w K mg base T 3 0 "minutes" 2 F_Ride_minutes) (c_Ride_with_change : CalM P w K mg base T 11 0 "with_change" 3 F_Ride_with_change) (c_Ride_most_change : CalM P w K mg base T 12 0 "most_change" 2 F_Ride_most_change) (h_BadItem : HdT K mg T "BadItem" hd_BadItem) (h_BadNumber : HdT K mg T "BadNumber" hd_BadNumber) (xf_index : XfT K T 1 "index" okX_index) (xf_value : XfT K T 0 "value" okX_value) (hinj : ∀ a b, T.fnm a = T.fnm b → a = b) : CalLG P w K mg base T 13 "_law_refused" 3 F__law_refused :=
  calLG F sc__law_refused hm (F.binds (ps := ["row", "made", "stages", "paces"]) fun _ _ _ _ _ _ us hl => match us, hl with | [_, _, _, _], _ => rfl) fun cdv A outer s H E gd b => have hu := Room.u b.hr;
  (js_cons (j_for b.hp rfl (ji_seq (j_frz (j_lstO (ja_cons (j_rval (j_tup (ja_cons (j_rval (j_tup (ja_cons (j_rval (j_int hT.symm)) (ja_nil hT.symm)))) (ja_cons (j_rval (j_int hT.symm)) (ja_nil hT.symm))))) (ja_cons (j_rval (j_tup (ja_cons (j_rval (j_tup (ja_cons (j_rval (jLen (ja_cons (j_rvar hT.symm 2) (ja_nil hT.symm)) B)) (ja_nil hT.symm)))) (ja_cons (j_rval (j_int hT.symm)) (ja_nil hT.symm))))) (ja_cons (j_rval (j_tup (ja_cons (j_rval (j_tup (ja_cons (j_rval (j_int hT.symm)) (ja_cons (j_rval (j_int hT.symm)) (ja_nil hT.symm))))) (ja_cons (j_rval (j_ix (j_rval (j_frz (j_lstO (ja_cons (j_rval (j_int hT.symm)) (ja_cons (j_rval (j_int hT.symm)) (ja_nil hT.symm)))))) (j_rval (jInt (ja_cons (j_rval (jeLt (j_rval (jLen (ja_cons (j_rvar hT.symm 2) (ja_nil hT.symm)) B)) (j_rval (j_int hT.symm)))) (ja_nil hT.symm)) B)))) (ja_nil hT.symm))))) (ja_cons (j_rval (j_tup (ja_cons (j_rval (j_tup (ja_cons (j_rval (j_bl hT.symm)) (ja_nil hT.symm)))) (ja_cons (j_rval (j_int hT.symm)) (ja_nil hT.symm))))) (ja_cons (j_rval (j_tup (ja_cons (j_rval (j_tup (ja_cons (j_rval (j_non hT.symm)) (ja_nil hT.symm)))) (ja_cons (j_rval (j_int hT.symm)) (ja_nil hT.symm))))) (ja_nil hT.symm))))))))) (jg_tup rfl hT.symm (jgs_cons (jg_name (i := 4) sc__law_refused.nd) (jgs_cons (jg_name (i := 7) sc__law_refused.nd) jgs_nil)))
  (js_one (jTryAs (i := 8) hT.symm sc__law_refused.nd h_BadItem b.tk (fun W pn xe tk hp => (js_cons (j_expr (jm c_Ride_minutes b.hr tk (j_var hT.symm 1) (ja_cons (j_rval (j_var hT.symm 4)) (ja_nil hT.symm))))
  (js_one (j_ret (j_bl hT.symm))))) (fun a oe cls d pn z v => (js_one (j_ifs (jtNe hu (j_rval (jXf hT.symm hinj xf_index z v)) (j_rvar hT.symm 7)) (js_one (j_ret (j_bl hT.symm))) (js_nil hT.symm)))))))
  (js_cons (j_for b.hp rfl (ji_seq (j_frz (j_lstO (ja_cons (j_rval (j_neg (j_rval (j_int hT.symm)))) (ja_cons (j_rval (jLen (ja_cons (j_rvar hT.symm 2) (ja_nil hT.symm)) B)) (ja_cons (j_rval (j_bl hT.symm)) (ja_cons (j_rval (j_non hT.symm)) (ja_nil hT.symm)))))))) (jg_name (i := 4) sc__law_refused.nd)
  (js_one (j_for b.hp rfl (ji_range1 (ja_cons (j_rval (j_int hT.symm)) (ja_nil hT.symm)) B.range) (jg_name (i := 9) sc__law_refused.nd)
  (js_one (jTryAs (i := 8) hT.symm sc__law_refused.nd h_BadItem b.tk (fun W pn xe tk hp => (js_cons (j_ifs (jtEq hu (j_rvar hT.symm 9) (j_rval (j_int hT.symm))) (js_one (j_expr (jm c_Ride_with_change b.hr tk (j_var hT.symm 1) (ja_cons (j_rval (j_var hT.symm 4)) (ja_cons (j_rval (j_int hT.symm)) (ja_nil hT.symm)))))) (js_one (j_expr (jm c_Ride_most_change b.hr tk (j_var hT.symm 1) (ja_cons (j_rval (j_var hT.symm 4)) (ja_nil hT.symm))))))
  (js_one (j_ret (j_bl hT.symm))))) (fun a oe cls d pn z v => (js_one (j_ifs (jReprNe gd hu (jXf hT.symm hinj xf_index z v) (j_var hT.symm 4) B) (js_one (j_ret (j_bl hT.symm))) (js_nil hT.symm)))))))))
  (js_cons (j_for b.hp rfl (ji_seq (j_frz (j_lstO (ja_cons (j_rval (j_neg (j_rval (j_int hT.symm)))) (ja_cons (j_rval (j_int hT.symm)) (ja_cons (j_rval (j_bl hT.symm)) (ja_cons (j_rval (j_non hT.symm)) (ja_nil hT.symm)))))))) (jg_name (i := 5) sc__law_refused.nd)
  (js_one (jTryAs (i := 8) hT.symm sc__law_refused.nd h_BadNumber b.tk (fun W pn xe tk hp => (js_cons (j_expr (jc c_want_minutes b.hr tk (ja_cons (j_rval (j_var hT.symm 5)) (ja_nil hT.symm))))
  (js_one (j_ret (j_bl hT.symm))))) (fun a oe cls d pn z v => (js_one (j_ifs (jReprNe gd hu (jXf hT.symm hinj xf_value z v) (j_var hT.symm 5) B) (js_one (j_ret (j_bl hT.symm))) (js_nil hT.symm)))))))
  (js_cons (j_par (i := 10) (j := 11) rfl sc__law_refused.nd (ja_cons (j_rval (jcl c__law_pick b.hr b.tk (ja_cons (j_rvar hT.symm 0) (ja_cons (j_rval (j_frz (j_lstO (ja_cons (j_rval (j_tup (ja_cons (j_rval (j_int hT.symm)) (ja_cons (j_rval (j_int hT.symm)) (ja_nil hT.symm))))) (ja_cons (j_rval (j_tup (ja_cons (j_rval (j_int hT.symm)) (ja_cons (j_rval (j_int hT.symm)) (ja_nil hT.symm))))) (ja_cons (j_rval (j_tup (ja_cons (j_rval (j_int hT.symm)) (ja_cons (j_rval (j_int hT.symm)) (ja_nil hT.symm))))) (ja_cons (j_rval (j_tup (ja_cons (j_rval (j_int hT.symm)) (ja_nil hT.symm)))) (ja_cons (j_rval (j_non hT.symm)) (ja_cons (j_rval (j_tup (ja_cons (j_rval (j_bl hT.symm)) (ja_cons (j_rval (j_int hT.symm)) (ja_nil hT.symm))))) (ja_nil hT.symm)))))))))) (ja_nil hT.symm))))) (ja_cons (j_rval (jcl c__law_pick b.hr b.tk (ja_cons (j_rvar hT.symm 0) (ja_cons (j_rval (j_frz (j_lstO (ja_cons (j_rval (j_int hT.symm)) (ja_cons (j_rval (j_int hT.symm)) (ja_cons (j_rval (j_bl hT.symm)) (ja_cons (j_rval (j_non hT.symm)) (ja_nil hT.symm)))))))) (ja_nil hT.symm))))) (ja_nil hT.symm))))
  (js_cons (j_set (i := 6) sc__law_refused.nd (j_frz (j_lstO (ja_cons (j_rval (j_tup (ja_cons (j_rval (j_tup (ja_cons (j_rval (j_add (j_rvar hT.symm 2) (j_rval (j_tup (ja_cons (j_rval (j_var hT.symm 10)) (ja_nil hT.symm)))))) (ja_cons (j_rval (j_non hT.symm)) (ja_nil hT.symm))))) (ja_cons (j_rval (j_tup (ja_cons (j_rval (j_str hT.symm)) (ja_cons (j_rval (jLen (ja_cons (j_rvar hT.symm 2) (ja_nil hT.symm)) B)) (ja_nil hT.symm))))) (ja_nil hT.symm))))) (ja_cons (j_rval (j_tup (ja_cons (j_rval (j_tup (ja_cons (j_rval (j_non hT.symm)) (ja_cons (j_rval (j_non hT.symm)) (ja_nil hT.symm))))) (ja_cons (j_rval (j_tup (ja_cons (j_rval (j_str hT.symm)) (ja_cons (j_rval (j_non hT.symm)) (ja_nil hT.symm))))) (ja_nil hT.symm))))) (ja_cons (j_rval (j_tup (ja_cons (j_rval (j_tup (ja_cons (j_rval (j_mulX (j_rval (j_tup (ja_cons (j_rval (j_tup (ja_cons (j_rval (j_int hT.symm)) (ja_cons (j_rval (j_int hT.symm)) (ja_nil hT.symm))))) (ja_nil hT.symm)))) (j_rval (j_int hT.symm)))) (ja_cons (j_rval (j_non hT.symm)) (ja_nil hT.symm))))) (ja_cons (j_rval (j_tup (ja_cons (j_rval (j_str hT.symm)) (ja_cons (j_rval (j_int hT.symm)) (ja_nil hT.symm))))) (ja_nil hT.symm))))) (ja_cons (j_rval (j_tup (ja_cons (j_rval (j_tup (ja_cons (j_rval (j_var hT.symm 2)) (ja_cons (j_rval (j_tup (ja_cons (j_rval (j_int hT.symm)) (ja_cons (j_rval (j_var hT.symm 11)) (ja_nil hT.symm))))) (ja_nil hT.symm))))) (ja_cons (j_rval (j_tup (ja_cons (j_rval (j_str hT.symm)) (ja_cons (j_rval (j_int hT.symm)) (ja_nil hT.symm))))) (ja_nil hT.symm))))) (ja_nil hT.symm))))))))
  (js_cons (j_set (i := 6) sc__law_refused.nd (j_add (j_rvar hT.symm 6) (j_rval (j_frz (j_lstO (ja_cons (j_rval (j_tup (ja_cons (j_rval (j_tup (ja_cons (j_rval (j_var hT.symm 2)) (ja_cons (j_rval (j_tup (ja_nil hT.symm))) (ja_nil hT.symm))))) (ja_cons (j_rval (j_tup (ja_cons (j_rval (j_str hT.symm)) (ja_cons (j_rval (j_non hT.symm)) (ja_nil hT.symm))))) (ja_nil hT.symm))))) (ja_cons (j_rval (j_tup (ja_cons (j_rval (j_tup (ja_cons (j_rval (j_var hT.symm 2)) (ja_cons (j_rval (j_non hT.symm)) (ja_nil hT.symm))))) (ja_cons (j_rval (j_tup (ja_cons (j_rval (j_str hT.symm)) (ja_cons (j_rval (j_non hT.symm)) (ja_nil hT.symm))))) (ja_nil hT.symm))))) (ja_cons (j_rval (j_tup (ja_cons (j_rval (j_tup (ja_cons (j_rval (j_var hT.symm 2)) (ja_cons (j_rval (j_mulX (j_rval (j_tup (ja_cons (j_rval (j_int hT.symm)) (ja_nil hT.symm)))) (j_rval (j_int hT.symm)))) (ja_nil hT.symm))))) (ja_cons (j_rval (j_tup (ja_cons (j_rval (j_str hT.symm)) (ja_cons (j_rval (j_int hT.symm)) (ja_nil hT.symm))))) (ja_nil hT.symm))))) (ja_nil hT.symm)))))))))
  (js_one (j_ret (j_vand (jeEq hu (j_rval (j_frz (j_lcO (own := [("one", 12)]) rfl sc__law_refused.nd (ji_seq (j_var hT.symm 6)) (blkOk_by (by kernel_rfl)) (by decide) (fun s H C cl fp => (jg_name (i := 12) sc__law_refused.nd)) (fun s H C cl fp => (jts_one (j_not (j_test (jc c__law_refused_row b.hr takes0 (ja_cons (j_rval (jc c__law_raised b.hr takes0 (ja_cons (j_rval (j_ix (j_rval (j_ix (j_rvar hT.symm 12) (j_rval (j_int hT.symm)))) (j_rval (j_int hT.symm)))) (ja_cons (j_rval (j_ix (j_rval (j_ix (j_rvar hT.symm 12) (j_rval (j_int hT.symm)))) (j_rval (j_int hT.symm)))) (ja_nil hT.symm))))) (ja_cons (j_rval (j_ix (j_rvar hT.symm 12) (j_rval (j_int hT.symm)))) (ja_nil hT.symm)))))))) (fun s H C cl fp => (j_var hT.symm 12))))) (j_rval (j_frz (j_lstO (ja_nil hT.symm))))) (j_vand (jeEq hu (j_rval (jc c_subsets b.hr b.tk (ja_cons (j_rval (j_frz (j_lstO (ja_cons (j_rval (j_int hT.symm)) (ja_cons (j_rval (j_int hT.symm)) (ja_nil hT.symm)))))) (ja_nil hT.symm)))) (j_rval (j_frz (j_lstO (ja_cons (j_rval (j_tup (ja_nil hT.symm))) (ja_cons (j_rval (j_tup (ja_cons (j_rval (j_int hT.symm)) (ja_nil hT.symm)))) (ja_cons (j_rval (j_tup (ja_cons (j_rval (j_int hT.symm)) (ja_nil hT.symm)))) (ja_cons (j_rval (j_tup (ja_cons (j_rval (j_int hT.symm)) (ja_cons (j_rval (j_int hT.symm)) (ja_nil hT.symm))))) (ja_nil hT.symm))))))))) (j_one (jeEq hu (j_rval (jc c_want_minutes b.hr b.tk (ja_cons (j_rval (j_int hT.symm)) (ja_nil hT.symm)))) (j_rval (j_int hT.symm))))))))))))))
abbrev s__law_mixed : Stmt := (top 25)
theorem sc__law_mixed : FnScope ["row", "value"] ["row", "value"] (defScope s__law_mixed) := C8.fnScope_by (by decide +kernel)
def b__law_mixed (F__law_taken : FL) : SF :=
  (sCons (sIf (tB (f2 eqD (rVal (eCallL F__law_taken (aCons (rVar 0) (aCons (rVal (eC (.int 2))) aNil)))) (rVal (eC (.int 0))))) (sRet (eCallB (on1 lstD) (aCons (rVar 1) aNil))) sNil)
  (sRet (eCallB (on1 tupD) (aCons (rVar 1) aNil))))
def F__law_mixed : FL := fnL 0 (b__law_mixed F__law_taken)
theorem cal__law_mixed {P : Program} {w : World} {K : PySem.W.Frag} {mg : Str → Option Value} {base : Heap} {T : Tab} (hT : T.K = K) (B : NoB mg) {f : Addr} {fd : FuncData} (F : Fun K "_law_mixed" "_law_mixed" s__law_mixed f fd) (hm : mg "_law_mixed" = some (.ref f)) (c__law_taken : CalL P w K mg base T 1 "_law_taken" 1 F__law_taken) : CalL P w K mg base T 2 "_law_mixed" 1 F__law_mixed :=
  calL F sc__law_mixed hm (F.binds (ps := ["row", "value"]) fun _ _ _ _ _ _ us hl => match us, hl with | [_, _], _ => rfl) fun cdv A outer s H E b => have hu := Room.u b.hr;
  (js_cons (j_ifs (jtEq hu (j_rval (jcl c__law_taken b.hr b.tk (ja_cons (j_rvar hT.symm 0) (ja_cons (j_rval (j_int hT.symm)) (ja_nil hT.symm))))) (j_rval (j_int hT.symm))) (js_one (j_ret (j_frz (jListO (ja_cons (j_rvar hT.symm 1) (ja_nil hT.symm)) B)))) (js_nil hT.symm))
  (js_one (j_ret (jTuple (ja_cons (j_rvar hT.symm 1) (ja_nil hT.symm)) B))))
abbrev s__law_alike : Stmt := (top 24)
theorem sc__law_alike : FnScope ["found", "due", "k"] ["found", "due"] (defScope s__law_alike) := C8.fnScope_by (by decide +kernel)
def b__law_alike (rec : FV) : SF :=
  (sCons (sIf (tB (eIsTs ["tuple", "list"] (rVar 1))) (sCons (sIf (tOrJ (tNotJ (tB (eIsTs ["tuple", "list"] (rVar 0)))) (tB (f2 neD (rVal (eIsT "list" (rVar 0))) (rVal (eIsT "list" (rVar 1)))))) (sRet (eC (.bl false))) sNil)
  (sCons (sIf (tB (f2 neD (rVal (eCallB (on1 lenD) (aCons (rVar 0) aNil))) (rVal (eCallB (on1 lenD) (aCons (rVar 1) aNil))))) (sRet (eC (.bl false))) sNil)
  (sRet (f2 eqD (rVal (eLc (iRng rng1 (aCons (rVal (eCallB (on1 lenD) (aCons (rVar 1) aNil))) aNil)) (bName 2) [2] (tNotJ (tB (eCall rec [] (aCons (rVal (f2 ixD (rVar 0) (rVar 2))) (aCons (rVal (f2 ixD (rVar 1) (rVar 2))) aNil))))) (eVar 2))) (rVal (eSeq .lst aNil)))))) sNil)
  (sCons (sIf (tOrJ (tB (f2 isNonD (rVar 1) (rVal (eC .non)))) (tB (eIsT "str" (rVar 1)))) (sRet (eAndJ (f2 eqD (rVar 0) (rVar 1)) (f2 eqD (rVal (eIsT "str" (rVar 0))) (rVal (eIsT "str" (rVar 1)))))) sNil)
  (sRet (eAndJ (eIsT "int" (rVar 0)) (eAndJ (f2 eqD (rVal (eIsT "bool" (rVar 0))) (rVal (eIsT "bool" (rVar 1)))) (f2 eqD (rVar 0) (rVar 1)))))))
def F__law_alike : Nat → FV
  | 0 => fun _ => .bad
  | n + 1 => fnV 1 (b__law_alike (F__law_alike n))
theorem cal__law_alike {P : Program} {w : World} {K : PySem.W.Frag} {mg : Str → Option Value} {base : Heap} {T : Tab} (hT : T.K = K) (B : NoB mg) {f : Addr} {fd : FuncData} (F : Fun K "_law_alike" "_law_alike" s__law_alike f fd) (hm : mg "_law_alike" = some (.ref f)) : ∀ n : Nat, CalV P w K mg base T (0 + 1 + n) "_law_alike" 2 (F__law_alike n)
  | 0 => calBad F hm (F.binds (ps := ["found", "due"]) fun _ _ _ _ _ _ us hl => match us, hl with | [_, _], _ => rfl)
  | n + 1 => by
    have ih := cal__law_alike (P := P) (w := w) (base := base) hT B F hm   n
    exact calV F sc__law_alike hm (F.binds (ps := ["found", "due"]) fun _ _ _ _ _ _ us hl => match us, hl with | [_, _], _ => rfl) fun cdv A outer s H E b => have hu := Room.u b.hr;
  (js_cons (j_ifs (j_test (j_isTs (ts := ["tuple", "list"]) (j_rvar hT.symm 1) (ty2 (ty1 B.tuple (by decide +kernel)) (ty1 B.list (by decide +kernel))) B.isi)) (js_cons (j_ifs (JW.jt (j_or (j_not (j_test (j_isTs (ts := ["tuple", "list"]) (j_rvar hT.symm 0) (ty2 (ty1 B.tuple (by decide +kernel)) (ty1 B.list (by decide +kernel))) B.isi))) (j_or1 (jtNe hu (j_rval (j_isT (j_rvar hT.symm 0) (ty1 B.list (by decide +kernel)) B.isi)) (j_rval (j_isT (j_rvar hT.symm 1) (ty1 B.list (by decide +kernel)) B.isi)))))) (js_one (j_ret (j_bl hT.symm))) (js_nil hT.symm))
  (js_cons (j_ifs (jtNe hu (j_rval (jLen (ja_cons (j_rvar hT.symm 0) (ja_nil hT.symm)) B)) (j_rval (jLen (ja_cons (j_rvar hT.symm 1) (ja_nil hT.symm)) B))) (js_one (j_ret (j_bl hT.symm))) (js_nil hT.symm))
  (js_one (j_ret (jeEq hu (j_rval (j_frz (j_lcO (own := [("k", 2)]) rfl sc__law_alike.nd (ji_range1 (ja_cons (j_rval (jLen (ja_cons (j_rvar hT.symm 1) (ja_nil hT.symm)) B)) (ja_nil hT.symm)) B.range) (blkOk_by (by kernel_rfl)) (by decide) (fun s H C cl fp => (jg_name (i := 2) sc__law_alike.nd)) (fun s H C cl fp => (jts_one (j_not (j_test (jc ih b.hr takes0 (ja_cons (j_rval (j_ix (j_rvar hT.symm 0) (j_rvar hT.symm 2))) (ja_cons (j_rval (j_ix (j_rvar hT.symm 1) (j_rvar hT.symm 2))) (ja_nil hT.symm))) (Nat.le_refl _)))))) (fun s H C cl fp => (j_var hT.symm 2))))) (j_rval (j_frz (j_lstO (ja_nil hT.symm))))))))) (js_nil hT.symm))
  (js_cons (j_ifs (JW.jt (j_or (jtIsN (j_rvar hT.symm 1) (j_rval (j_non hT.symm))) (j_or1 (j_test (j_isT (j_rvar hT.symm 1) (ty1 B.str (by decide +kernel)) B.isi))))) (js_one (j_ret (j_vand (jeEq hu (j_rvar hT.symm 0) (j_rvar hT.symm 1)) (j_one (jeEq hu (j_rval (j_isT (j_rvar hT.symm 0) (ty1 B.str (by decide +kernel)) B.isi)) (j_rval (j_isT (j_rvar hT.symm 1) (ty1 B.str (by decide +kernel)) B.isi))))))) (js_nil hT.symm))
  (js_one (j_ret (j_vand (j_isT (j_rvar hT.symm 0) (ty1 B.int (by decide +kernel)) B.isi) (j_vand (jeEq hu (j_rval (j_isT (j_rvar hT.symm 0) (ty1 B.bool (by decide +kernel)) B.isi)) (j_rval (j_isT (j_rvar hT.symm 1) (ty1 B.bool (by decide +kernel)) B.isi))) (j_one (jeEq hu (j_rvar hT.symm 0) (j_rvar hT.symm 1)))))))))
def Ride_turned_s1 : SF :=
  (sSetO 1 (eSeq .lst aNil))
def Ride_turned_b1 : SF :=
  (sCons (sSet 3 (eIf (tB (f2 ltD (rVal (f2 addD (rVar 2) (rVal (eC (.int 1))))) (rVal (eCallB (on1 lenD) (aCons (rVal (eFld 5 okF_stages (rVar 0))) aNil))))) (f2 ixD (rVal (f2 ixD (rVal (eFld 5 okF_stages (rVar 0))) (rVal (f2 addD (rVar 2) (rVal (eC (.int 1))))))) (rVal (eC (.int 1)))) (eC (.int 0))))
  (sExpr (eMeth 1 appD (aCons (rVal (eSeq .tup (aCons (rVal (f2 ixD (rVal (f2 ixD (rVal (eFld 5 okF_stages (rVar 0))) (rVar 2))) (rVal (eC (.int 0))))) (aCons (rVal (eVar 3)) aNil)))) aNil))))
def Ride_turned_s2 : SF :=
  (sFor (iRng rng3 (aCons (rVal (f2 subD (rVal (eCallB (on1 lenD) (aCons (rVal (eFld 5 okF_stages (rVar 0))) aNil))) (rVal (eC (.int 1))))) (aCons (rVal (f1 negD (rVal (eC (.int 1))))) (aCons (rVal (f1 negD (rVal (eC (.int 1))))) aNil)))) (bName 2)
  Ride_turned_b1)
def Ride_turned_s3 (F_Ride_init : FV) : SF :=
  (sRet (eCall F_Ride_init [] (aCons (rVal (eVar 1)) (aCons (rVal (eFld 6 okF_paces (rVar 0))) aNil))))
abbrev s_Ride_turned : Stmt := (inClass (top 18) 11)
theorem sc_Ride_turned : FnScope ["self", "rows", "index", "change"] ["self"] (defScope s_Ride_turned) := C8.fnScope_by (by decide +kernel)
def b_Ride_turned (F_Ride_init : FV) : SF :=
  (sCons Ride_turned_s1
  (sCons Ride_turned_s2
  (Ride_turned_s3 F_Ride_init)))
def F_Ride_turned : FV := fnV 3 (b_Ride_turned F_Ride_init)
theorem cal_Ride_turned {P : Program} {w : World} {K : PySem.W.Frag} {mg : Str → Option Value} {base : Heap} {T : Tab} (hT : T.K = K) (B : NoB mg) {f : Addr} {fd : FuncData} (F : Fun K "turned" "Ride.turned" s_Ride_turned f fd) (C : Cls K (T.cls 0)) (M : Meth K (T.cls 0) "turned" f) (nf : ∀ i, T.fnm i ≠ "turned") (k_Ride : CalK P w K mg base T 9 0 "Ride" 2 F_Ride_init []) (fd_stages : FldT K T 5 "stages" okF_stages) (fd_paces : FldT K T 6 "paces" okF_paces) : CalM P w K mg base T 11 0 "turned" 1 F_Ride_turned :=
  calM F sc_Ride_turned C M nf (F.binds (ps := ["self"]) fun _ _ _ _ _ _ us hl => match us, hl with | [_], _ => rfl) fun cdv A outer s H E b => have hu := Room.u b.hr;
  (js_cons (j_setO (i := 1) sc_Ride_turned.nd (j_lstO (ja_nil hT.symm)))
  (js_cons (j_for b.hp rfl (ji_range3 (ja_cons (j_rval (j_sub (j_rval (jLen (ja_cons (j_rval (j_fld fd_stages (j_rvar hT.symm 0))) (ja_nil hT.symm)) B)) (j_rval (j_int hT.symm)))) (ja_cons (j_rval (j_neg (j_rval (j_int hT.symm)))) (ja_cons (j_rval (j_neg (j_rval (j_int hT.symm)))) (ja_nil hT.symm)))) B.range) (jg_name (i := 2) sc_Ride_turned.nd)
  (js_cons (j_set (i := 3) sc_Ride_turned.nd (j_if (jtLt (j_rval (j_add (j_rvar hT.symm 2) (j_rval (j_int hT.symm)))) (j_rval (jLen (ja_cons (j_rval (j_fld fd_stages (j_rvar hT.symm 0))) (ja_nil hT.symm)) B))) (j_ix (j_rval (j_ix (j_rval (j_fld fd_stages (j_rvar hT.symm 0))) (j_rval (j_add (j_rvar hT.symm 2) (j_rval (j_int hT.symm)))))) (j_rval (j_int hT.symm))) (j_int hT.symm)))
  (js_one (j_expr (j_meth (i := 1) append_J PySem.F.slot_list_append PySem.F.type_list_append (ja_cons (j_rval (j_tup (ja_cons (j_rval (j_ix (j_rval (j_ix (j_rval (j_fld fd_stages (j_rvar hT.symm 0))) (j_rvar hT.symm 2))) (j_rval (j_int hT.symm)))) (ja_cons (j_rval (j_var hT.symm 3)) (ja_nil hT.symm))))) (ja_nil hT.symm)) rfl)))))
  (js_one (j_ret (j_frz (jk k_Ride b.hr b.tk (ja_cons (j_rval (j_var hT.symm 1)) (ja_cons (j_rval (j_fld fd_paces (j_rvar hT.symm 0))) (ja_nil hT.symm)))))))))
def Ride_can_be_e1 : EF :=
  (f2 leD (rVal (f2 subD (rVal (f2 ixD (rVar 2) (rVal (f2 addD (rVar 3) (rVal (eC (.int 1))))))) (rVal (f2 ixD (rVar 2) (rVar 3))))) (rVal (eCallB (on1 lenD) (aCons (rVal (eFld 6 okF_paces (rVar 0))) aNil))))
abbrev s_Ride_can_be : Stmt := (inClass (top 18) 5)
theorem sc_Ride_can_be : FnScope ["self", "changes", "bounds", "at"] ["self", "changes"] (defScope s_Ride_can_be) := C8.fnScope_by (by decide +kernel)
def b_Ride_can_be : SF :=
  (sCons (sSet 2 (f2 addD (rVal (f2 addD (rVal (eSeq .lst (aCons (rVal (eC (.int 0))) aNil))) (rVal (eCallB (on1 lstD) (aCons (rVar 1) aNil))))) (rVal (eSeq .lst (aCons (rVal (eCallB (on1 lenD) (aCons (rVal (eFld 5 okF_stages (rVar 0))) aNil))) aNil)))))
  (sRet (eCallB (on1 allD) (aCons (rVal (eLc (iRng rng1 (aCons (rVal (f2 subD (rVal (eCallB (on1 lenD) (aCons (rVar 2) aNil))) (rVal (eC (.int 1))))) aNil)) (bName 3) [3] tYesJ Ride_can_be_e1)) aNil))))
def F_Ride_can_be : FV := fnV 2 b_Ride_can_be
theorem cal_Ride_can_be {P : Program} {w : World} {K : PySem.W.Frag} {mg : Str → Option Value} {base : Heap} {T : Tab} (hT : T.K = K) (B : NoB mg) {f : Addr} {fd : FuncData} (F : Fun K "can_be" "Ride.can_be" s_Ride_can_be f fd) (C : Cls K (T.cls 0)) (M : Meth K (T.cls 0) "can_be" f) (nf : ∀ i, T.fnm i ≠ "can_be") (fd_stages : FldT K T 5 "stages" okF_stages) (fd_paces : FldT K T 6 "paces" okF_paces) : CalM P w K mg base T 1 0 "can_be" 2 F_Ride_can_be :=
  calM F sc_Ride_can_be C M nf (F.binds (ps := ["self", "changes"]) fun _ _ _ _ _ _ us hl => match us, hl with | [_, _], _ => rfl) fun cdv A outer s H E b => have hu := Room.u b.hr;
  (js_cons (j_set (i := 2) sc_Ride_can_be.nd (j_add (j_rval (j_add (j_rval (j_frz (j_lstO (ja_cons (j_rval (j_int hT.symm)) (ja_nil hT.symm))))) (j_rval (j_frz (jListO (ja_cons (j_rvar hT.symm 1) (ja_nil hT.symm)) B))))) (j_rval (j_frz (j_lstO (ja_cons (j_rval (jLen (ja_cons (j_rval (j_fld fd_stages (j_rvar hT.symm 0))) (ja_nil hT.symm)) B)) (ja_nil hT.symm)))))))
  (js_one (j_ret (jAll rfl (ja_cons (j_rval (j_frz (j_lcO (own := [("at", 3)]) rfl sc_Ride_can_be.nd (ji_range1 (ja_cons (j_rval (j_sub (j_rval (jLen (ja_cons (j_rvar hT.symm 2) (ja_nil hT.symm)) B)) (j_rval (j_int hT.symm)))) (ja_nil hT.symm)) B.range) (blkOk_by (by kernel_rfl)) (by decide) (fun s H C cl fp => (jg_name (i := 3) sc_Ride_can_be.nd)) (fun s H C cl fp => jts_nil) (fun s H C cl fp => (jeLe (j_rval (j_sub (j_rval (j_ix (j_rvar hT.symm 2) (j_rval (j_add (j_rvar hT.symm 3) (j_rval (j_int hT.symm)))))) (j_rval (j_ix (j_rvar hT.symm 2) (j_rvar hT.symm 3))))) (j_rval (jLen (ja_cons (j_rval (j_fld fd_paces (j_rvar hT.symm 0))) (ja_nil hT.symm)) B))))))) (ja_nil hT.symm)) B))))
def Ride_rows_s1 : SF :=
  (sSetO 1 (eSeq .lst aNil))
def Ride_rows_b1 (F_Ride_can_be : FV) : SF :=
  (sIf (tB (eCallM 0 F_Ride_can_be (eVar 0) (aCons (rVal (eVar 2)) aNil))) (sExpr (eMeth 1 appD (aCons (rVal (eVar 2)) aNil))) sNil)
def Ride_rows_s2 (F_subsets : FV) (F_Ride_can_be : FV) : SF :=
  (sFor (iSeq (eCall F_subsets [] (aCons (rVal (f2 rgD (rVal (eC (.int 1))) (rVal (eCallB (on1 lenD) (aCons (rVal (eFld 5 okF_stages (rVar 0))) aNil))))) aNil))) (bName 2)
  (Ride_rows_b1 F_Ride_can_be))
def Ride_rows_s3 : SF :=
  (sRet (eCallB (on1 tupD) (aCons (rVar 1) aNil)))
abbrev s_Ride_rows : Stmt := (inClass (top 18) 4)
theorem sc_Ride_rows : FnScope ["self", "found", "row"] ["self"] (defScope s_Ride_rows) := C8.fnScope_by (by decide +kernel)
def b_Ride_rows (F_subsets : FV) (F_Ride_can_be : FV) : SF :=
  (sCons Ride_rows_s1
  (sCons (Ride_rows_s2 F_subsets F_Ride_can_be)
  Ride_rows_s3))
def F_Ride_rows : FV := fnV 2 (b_Ride_rows F_subsets F_Ride_can_be)
theorem cal_Ride_rows {P : Program} {w : World} {K : PySem.W.Frag} {mg : Str → Option Value} {base : Heap} {T : Tab} (hT : T.K = K) (B : NoB mg) {f : Addr} {fd : FuncData} (F : Fun K "rows" "Ride.rows" s_Ride_rows f fd) (C : Cls K (T.cls 0)) (M : Meth K (T.cls 0) "rows" f) (nf : ∀ i, T.fnm i ≠ "rows") (c_subsets : CalV P w K mg base T 1 "subsets" 1 F_subsets) (c_Ride_can_be : CalM P w K mg base T 1 0 "can_be" 2 F_Ride_can_be) (fd_stages : FldT K T 5 "stages" okF_stages) : CalM P w K mg base T 2 0 "rows" 1 F_Ride_rows :=
  calM F sc_Ride_rows C M nf (F.binds (ps := ["self"]) fun _ _ _ _ _ _ us hl => match us, hl with | [_], _ => rfl) fun cdv A outer s H E b => have hu := Room.u b.hr;
  (js_cons (j_setO (i := 1) sc_Ride_rows.nd (j_lstO (ja_nil hT.symm)))
  (js_cons (j_for b.hp rfl (ji_seq (jc c_subsets b.hr b.tk (ja_cons (j_rval (j_frz (jListRg2 rfl (j_rval (j_int hT.symm)) (j_rval (jLen (ja_cons (j_rval (j_fld fd_stages (j_rvar hT.symm 0))) (ja_nil hT.symm)) B)) B))) (ja_nil hT.symm)))) (jg_name (i := 2) sc_Ride_rows.nd)
  (js_one (j_ifs (j_test (jm c_Ride_can_be b.hr b.tk (j_var hT.symm 0) (ja_cons (j_rval (j_var hT.symm 2)) (ja_nil hT.symm)))) (js_one (j_expr (j_meth (i := 1) append_J PySem.F.slot_list_append PySem.F.type_list_append (ja_cons (j_rval (j_var hT.symm 2)) (ja_nil hT.symm)) rfl))) (js_nil hT.symm))))
  (js_one (j_ret (jTuple (ja_cons (j_rvar hT.symm 1) (ja_nil hT.symm)) B)))))
abbrev s__law_truth : Stmt := (top 27)
theorem sc__law_truth : FnScope ["found", "due"] ["found", "due"] (defScope s__law_truth) := C8.fnScope_by (by decide +kernel)
def b__law_truth : SF :=
  (sRet (eAndJ (eIsT "bool" (rVar 0)) (f2 eqD (rVar 0) (rVar 1))))
def F__law_truth : FV := fnV 0 b__law_truth
theorem cal__law_truth {P : Program} {w : World} {K : PySem.W.Frag} {mg : Str → Option Value} {base : Heap} {T : Tab} (hT : T.K = K) (B : NoB mg) {f : Addr} {fd : FuncData} (F : Fun K "_law_truth" "_law_truth" s__law_truth f fd) (hm : mg "_law_truth" = some (.ref f)) : CalV P w K mg base T 1 "_law_truth" 2 F__law_truth :=
  calV F sc__law_truth hm (F.binds (ps := ["found", "due"]) fun _ _ _ _ _ _ us hl => match us, hl with | [_, _], _ => rfl) fun cdv A outer s H E b => have hu := Room.u b.hr;
  (js_one (j_ret (j_vand (j_isT (j_rvar hT.symm 0) (ty1 B.bool (by decide +kernel)) B.isi) (j_one (jeEq hu (j_rvar hT.symm 0) (j_rvar hT.symm 1))))))
abbrev s_Ride_fewest : Stmt := (inClass (top 18) 8)
theorem sc_Ride_fewest : FnScope ["self"] ["self"] (defScope s_Ride_fewest) := C8.fnScope_by (by decide +kernel)
def b_Ride_fewest : SF :=
  (sRet (eCallB (on2 max2D) (aCons (rVal (eC (.int 0))) (aCons (rVal (f2 subD (rVal (f1 negD (rVal (f2 fdivD (rVal (f1 negD (rVal (eCallB (on1 lenD) (aCons (rVal (eFld 5 okF_stages (rVar 0))) aNil))))) (rVal (eCallB (on1 lenD) (aCons (rVal (eFld 6 okF_paces (rVar 0))) aNil))))))) (rVal (eC (.int 1))))) aNil))))
def F_Ride_fewest : FV := fnV 0 b_Ride_fewest
theorem cal_Ride_fewest {P : Program} {w : World} {K : PySem.W.Frag} {mg : Str → Option Value} {base : Heap} {T : Tab} (hT : T.K = K) (B : NoB mg) {f : Addr} {fd : FuncData} (F : Fun K "fewest" "Ride.fewest" s_Ride_fewest f fd) (C : Cls K (T.cls 0)) (M : Meth K (T.cls 0) "fewest" f) (nf : ∀ i, T.fnm i ≠ "fewest") (fd_stages : FldT K T 5 "stages" okF_stages) (fd_paces : FldT K T 6 "paces" okF_paces) : CalM P w K mg base T 1 0 "fewest" 1 F_Ride_fewest :=
  calM F sc_Ride_fewest C M nf (F.binds (ps := ["self"]) fun _ _ _ _ _ _ us hl => match us, hl with | [_], _ => rfl) fun cdv A outer s H E b => have hu := Room.u b.hr;
  (js_one (j_ret (jMax2 rfl (ja_cons (j_rval (j_int hT.symm)) (ja_cons (j_rval (j_sub (j_rval (j_neg (j_rval (j_fdiv (j_rval (j_neg (j_rval (jLen (ja_cons (j_rval (j_fld fd_stages (j_rvar hT.symm 0))) (ja_nil hT.symm)) B)))) (j_rval (jLen (ja_cons (j_rval (j_fld fd_paces (j_rvar hT.symm 0))) (ja_nil hT.symm)) B)))))) (j_rval (j_int hT.symm)))) (ja_nil hT.symm))) B)))
def Ride_best_with_s1 : SF :=
  (sSet 2 (eC .non))
def Ride_best_with_b1 (F_Ride_minutes : FV) : SF :=
  (sIf (tB (f2 leD (rVal (eCallB (on1 lenD) (aCons (rVar 3) aNil))) (rVar 1))) (sCons (sSet 4 (eCallM 0 F_Ride_minutes (eVar 0) (aCons (rVal (eVar 3)) aNil)))
  (sIf (tOrJ (tB (f2 isNonD (rVar 2) (rVal (eC .non)))) (tB (f2 ltD (rVar 4) (rVal (f2 ixD (rVar 2) (rVal (eC (.int 0)))))))) (sSet 2 (eSeq .tup (aCons (rVal (eVar 4)) (aCons (rVal (eVar 3)) aNil)))) sNil)) sNil)
def Ride_best_with_s2 (F_Ride_rows : FV) (F_Ride_minutes : FV) : SF :=
  (sFor (iSeq (eCallM 0 F_Ride_rows (eVar 0) aNil)) (bName 3)
  (Ride_best_with_b1 F_Ride_minutes))
def Ride_best_with_s3 : SF :=
  (sRet (eVar 2))
abbrev s_Ride_best_with : Stmt := (inClass (top 18) 7)
theorem sc_Ride_best_with : FnScope ["self", "most", "best", "row", "told"] ["self", "most"] (defScope s_Ride_best_with) := C8.fnScope_by (by decide +kernel)
def b_Ride_best_with (F_Ride_rows : FV) (F_Ride_minutes : FV) : SF :=
  (sCons Ride_best_with_s1
  (sCons (Ride_best_with_s2 F_Ride_rows F_Ride_minutes)
  Ride_best_with_s3))
def F_Ride_best_with : FV := fnV 3 (b_Ride_best_with F_Ride_rows F_Ride_minutes)
theorem cal_Ride_best_with {P : Program} {w : World} {K : PySem.W.Frag} {mg : Str → Option Value} {base : Heap} {T : Tab} (hT : T.K = K) (B : NoB mg) {f : Addr} {fd : FuncData} (F : Fun K "best_with" "Ride.best_with" s_Ride_best_with f fd) (C : Cls K (T.cls 0)) (M : Meth K (T.cls 0) "best_with" f) (nf : ∀ i, T.fnm i ≠ "best_with") (c_Ride_minutes : CalM P w K mg base T 3 0 "minutes" 2 F_Ride_minutes) (c_Ride_rows : CalM P w K mg base T 2 0 "rows" 1 F_Ride_rows) : CalM P w K mg base T 4 0 "best_with" 2 F_Ride_best_with :=
  calM F sc_Ride_best_with C M nf (F.binds (ps := ["self", "most"]) fun _ _ _ _ _ _ us hl => match us, hl with | [_, _], _ => rfl) fun cdv A outer s H E b => have hu := Room.u b.hr;
  (js_cons (j_set (i := 2) sc_Ride_best_with.nd (j_non hT.symm))
  (js_cons (j_for b.hp rfl (ji_seq (jm0 c_Ride_rows b.hr b.tk (j_var hT.symm 0))) (jg_name (i := 3) sc_Ride_best_with.nd)
  (js_one (j_ifs (jtLe (j_rval (jLen (ja_cons (j_rvar hT.symm 3) (ja_nil hT.symm)) B)) (j_rvar hT.symm 1)) (js_cons (j_set (i := 4) sc_Ride_best_with.nd (jm c_Ride_minutes b.hr b.tk (j_var hT.symm 0) (ja_cons (j_rval (j_var hT.symm 3)) (ja_nil hT.symm))))
  (js_one (j_ifs (JW.jt (j_or (jtIsN (j_rvar hT.symm 2) (j_rval (j_non hT.symm))) (j_or1 (jtLt (j_rvar hT.symm 4) (j_rval (j_ix (j_rvar hT.symm 2) (j_rval (j_int hT.symm)))))))) (js_one (j_set (i := 2) sc_Ride_best_with.nd (j_tup (ja_cons (j_rval (j_var hT.symm 4)) (ja_cons (j_rval (j_var hT.symm 3)) (ja_nil hT.symm)))))) (js_nil hT.symm)))) (js_nil hT.symm))))
  (js_one (j_ret (j_var hT.symm 2)))))
abbrev s_Ride_saved : Stmt := (inClass (top 18) 9)
theorem sc_Ride_saved : FnScope ["self", "most", "told"] ["self", "most"] (defScope s_Ride_saved) := C8.fnScope_by (by decide +kernel)
def b_Ride_saved (F_Ride_best_with : FV) (F_Ride_best : FV) : SF :=
  (sCons (sSet 2 (eCallM 0 F_Ride_best_with (eVar 0) (aCons (rVal (eVar 1)) aNil)))
  (sRet (eIf (tB (f2 isNonD (rVar 2) (rVal (eC .non)))) (eC .non) (f2 subD (rVal (f2 ixD (rVar 2) (rVal (eC (.int 0))))) (rVal (f2 ixD (rVal (eCallM 0 F_Ride_best (eVar 0) aNil)) (rVal (eC (.int 0)))))))))
def F_Ride_saved : FV := fnV 1 (b_Ride_saved F_Ride_best_with F_Ride_best)
theorem cal_Ride_saved {P : Program} {w : World} {K : PySem.W.Frag} {mg : Str → Option Value} {base : Heap} {T : Tab} (hT : T.K = K) (B : NoB mg) {f : Addr} {fd : FuncData} (F : Fun K "saved" "Ride.saved" s_Ride_saved f fd) (C : Cls K (T.cls 0)) (M : Meth K (T.cls 0) "saved" f) (nf : ∀ i, T.fnm i ≠ "saved") (c_Ride_best_with : CalM P w K mg base T 4 0 "best_with" 2 F_Ride_best_with) (c_Ride_best : CalM P w K mg base T 1 0 "best" 1 F_Ride_best) : CalM P w K mg base T 5 0 "saved" 2 F_Ride_saved :=
  calM F sc_Ride_saved C M nf (F.binds (ps := ["self", "most"]) fun _ _ _ _ _ _ us hl => match us, hl with | [_, _], _ => rfl) fun cdv A outer s H E b => have hu := Room.u b.hr;
  (js_cons (j_set (i := 2) sc_Ride_saved.nd (jm c_Ride_best_with b.hr b.tk (j_var hT.symm 0) (ja_cons (j_rval (j_var hT.symm 1)) (ja_nil hT.symm))))
  (js_one (j_ret (j_if (jtIsN (j_rvar hT.symm 2) (j_rval (j_non hT.symm))) (j_non hT.symm) (j_sub (j_rval (j_ix (j_rvar hT.symm 2) (j_rval (j_int hT.symm)))) (j_rval (j_ix (j_rval (jm0 c_Ride_best b.hr b.tk (j_var hT.symm 0))) (j_rval (j_int hT.symm)))))))))
def Ride_miles_e1 : EF :=
  (f2 ixD (rVar 1) (rVal (eC (.int 0))))
abbrev s_Ride_miles : Stmt := (inClass (top 18) 2)
theorem sc_Ride_miles : FnScope ["self", "stage"] ["self"] (defScope s_Ride_miles) := C8.fnScope_by (by decide +kernel)
def b_Ride_miles : SF :=
  (sRet (eCallB (on1 sumD) (aCons (rVal (eLc (iSeq (eFld 5 okF_stages (rVar 0))) (bName 1) [1] tYesJ Ride_miles_e1)) aNil)))
def F_Ride_miles : FV := fnV 1 b_Ride_miles
theorem cal_Ride_miles {P : Program} {w : World} {K : PySem.W.Frag} {mg : Str → Option Value} {base : Heap} {T : Tab} (hT : T.K = K) (B : NoB mg) {f : Addr} {fd : FuncData} (F : Fun K "miles" "Ride.miles" s_Ride_miles f fd) (C : Cls K (T.cls 0)) (M : Meth K (T.cls 0) "miles" f) (nf : ∀ i, T.fnm i ≠ "miles") (fd_stages : FldT K T 5 "stages" okF_stages) : CalM P w K mg base T 1 0 "miles" 1 F_Ride_miles :=
  calM F sc_Ride_miles C M nf (F.binds (ps := ["self"]) fun _ _ _ _ _ _ us hl => match us, hl with | [_], _ => rfl) fun cdv A outer s H E b => have hu := Room.u b.hr;
  (js_one (j_ret (jSum rfl (ja_cons (j_rval (j_frz (j_lcO (own := [("stage", 1)]) rfl sc_Ride_miles.nd (ji_seq (j_fld fd_stages (j_rvar hT.symm 0))) (blkOk_by (by kernel_rfl)) (by decide) (fun s H C cl fp => (jg_name (i := 1) sc_Ride_miles.nd)) (fun s H C cl fp => jts_nil) (fun s H C cl fp => (j_ix (j_rvar hT.symm 1) (j_rval (j_int hT.symm))))))) (ja_nil hT.symm)) B)))
def Ride_horses_s1 (F_Ride_minutes : FV) : SF :=
  (sExpr (eCallM 0 F_Ride_minutes (eVar 0) (aCons (rVal (eVar 1)) aNil)))
def Ride_horses_s2 : SF :=
  (sSet 2 (f2 addD (rVal (f2 addD (rVal (eSeq .lst (aCons (rVal (eC (.int 0))) aNil))) (rVal (eCallB (on1 lstD) (aCons (rVar 1) aNil))))) (rVal (eSeq .lst (aCons (rVal (eCallB (on1 lenD) (aCons (rVal (eFld 5 okF_stages (rVar 0))) aNil))) aNil)))))
def Ride_horses_e1 : EF :=
  (f2 subD (rVal (f2 ixD (rVar 2) (rVal (f2 addD (rVar 3) (rVal (eC (.int 1))))))) (rVal (f2 ixD (rVar 2) (rVar 3))))
def Ride_horses_s3 : SF :=
  (sRet (eCallB (on1 tupD) (aCons (rVal (eLc (iRng rng1 (aCons (rVal (f2 subD (rVal (eCallB (on1 lenD) (aCons (rVar 2) aNil))) (rVal (eC (.int 1))))) aNil)) (bName 3) [3] tYesJ Ride_horses_e1)) aNil)))
abbrev s_Ride_horses : Stmt := (inClass (top 18) 10)
theorem sc_Ride_horses : FnScope ["self", "changes", "bounds", "at"] ["self", "changes"] (defScope s_Ride_horses) := C8.fnScope_by (by decide +kernel)
def b_Ride_horses (F_Ride_minutes : FV) : SF :=
  (sCons (Ride_horses_s1 F_Ride_minutes)
  (sCons Ride_horses_s2
  Ride_horses_s3))
def F_Ride_horses : FV := fnV 2 (b_Ride_horses F_Ride_minutes)
theorem cal_Ride_horses {P : Program} {w : World} {K : PySem.W.Frag} {mg : Str → Option Value} {base : Heap} {T : Tab} (hT : T.K = K) (B : NoB mg) {f : Addr} {fd : FuncData} (F : Fun K "horses" "Ride.horses" s_Ride_horses f fd) (C : Cls K (T.cls 0)) (M : Meth K (T.cls 0) "horses" f) (nf : ∀ i, T.fnm i ≠ "horses") (c_Ride_minutes : CalM P w K mg base T 3 0 "minutes" 2 F_Ride_minutes) (fd_stages : FldT K T 5 "stages" okF_stages) : CalM P w K mg base T 4 0 "horses" 2 F_Ride_horses :=
  calM F sc_Ride_horses C M nf (F.binds (ps := ["self", "changes"]) fun _ _ _ _ _ _ us hl => match us, hl with | [_, _], _ => rfl) fun cdv A outer s H E b => have hu := Room.u b.hr;
  (js_cons (j_expr (jm c_Ride_minutes b.hr b.tk (j_var hT.symm 0) (ja_cons (j_rval (j_var hT.symm 1)) (ja_nil hT.symm))))
  (js_cons (j_set (i := 2) sc_Ride_horses.nd (j_add (j_rval (j_add (j_rval (j_frz (j_lstO (ja_cons (j_rval (j_int hT.symm)) (ja_nil hT.symm))))) (j_rval (j_frz (jListO (ja_cons (j_rvar hT.symm 1) (ja_nil hT.symm)) B))))) (j_rval (j_frz (j_lstO (ja_cons (j_rval (jLen (ja_cons (j_rval (j_fld fd_stages (j_rvar hT.symm 0))) (ja_nil hT.symm)) B)) (ja_nil hT.symm)))))))
  (js_one (j_ret (jTuple (ja_cons (j_rval (j_frz (j_lcO (own := [("at", 3)]) rfl sc_Ride_horses.nd (ji_range1 (ja_cons (j_rval (j_sub (j_rval (jLen (ja_cons (j_rvar hT.symm 2) (ja_nil hT.symm)) B)) (j_rval (j_int hT.symm)))) (ja_nil hT.symm)) B.range) (blkOk_by (by kernel_rfl)) (by decide) (fun s H C cl fp => (jg_name (i := 3) sc_Ride_horses.nd)) (fun s H C cl fp => jts_nil) (fun s H C cl fp => (j_sub (j_rval (j_ix (j_rvar hT.symm 2) (j_rval (j_add (j_rvar hT.symm 3) (j_rval (j_int hT.symm)))))) (j_rval (j_ix (j_rvar hT.symm 2) (j_rvar hT.symm 3)))))))) (ja_nil hT.symm)) B)))))
def law_s1 : SF :=
  (sSetO 1 (eSeq .lst (aCons (rVal (eVar 0)) (aCons (rVal (eC (.int 0))) (aCons (rVal (eC (.int 61))) (aCons (rVal (eC (.int 0))) aNil))))))
def law_e1 (F__law_taken : FL) : EF :=
  (eSeq .tup (aCons (rVal (f2 addD (rVal (eC (.int 1))) (rVal (eCallL F__law_taken (aCons (rVar 1) (aCons (rVal (eC (.int 12))) aNil)))))) (aCons (rVal (eCallL F__law_taken (aCons (rVar 1) (aCons (rVal (eC (.int 15))) aNil)))) aNil)))
def law_s2 (F__law_taken : FL) : SF :=
  (sSet 2 (eCallB (on1 tupD) (aCons (rVal (eLc (iRng rng1 (aCons (rVal (eCallL F__law_taken (aCons (rVar 1) (aCons (rVal (eC (.int 7))) aNil)))) aNil)) (bName 11) [11] tYesJ (law_e1 F__law_taken))) aNil)))
def law_s3 (F__law_taken : FL) : SF :=
  (sSet 3 (f2 addD (rVal (eC (.int 1))) (rVal (eCallL F__law_taken (aCons (rVar 1) (aCons (rVal (eC (.int 5))) aNil))))))
def law_e2 (F__law_taken : FL) : EF :=
  (f2 addD (rVar 3) (rVal (f2 mulD (rVal (eCallL F__law_taken (aCons (rVar 1) (aCons (rVal (eC (.int 6))) aNil)))) (rVal (eCallB (on1 intD) (aCons (rVal (f2 gtD (rVar 11) (rVal (eC (.int 0))))) aNil))))))
def law_s4 (F__law_taken : FL) : SF :=
  (sSet 4 (eCallB (on1 tupD) (aCons (rVal (eLc (iRng rng1 (aCons (rVal (f2 addD (rVal (eC (.int 1))) (rVal (eCallL F__law_taken (aCons (rVar 1) (aCons (rVal (eC (.int 3))) aNil)))))) aNil)) (bName 11) [11] tYesJ (law_e2 F__law_taken))) aNil)))
def law_e3 (F__law_mixed : FL) : EF :=
  (eCallL F__law_mixed (aCons (rVar 1) (aCons (rVal (eVar 19)) aNil)))
def law_s5 (F_Ride_init : FV) (F__law_mixed : FL) : SF :=
  (sSet 5 (eCall F_Ride_init [] (aCons (rVal (eCallL F__law_mixed (aCons (rVar 1) (aCons (rVal (eLc (iSeq (eVar 2)) (bName 19) [19] tYesJ (law_e3 F__law_mixed))) aNil)))) (aCons (rVal (eCallL F__law_mixed (aCons (rVar 1) (aCons (rVal (eCallB (on1 lstD) (aCons (rVar 4) aNil))) aNil)))) aNil))))
def law_e4 : EF :=
  (f2 ixD (rVar 19) (rVal (eC (.int 0))))
def law_s6 (F__law_alike : Nat → FV) (F_Ride_miles : FV) (F_Ride_eq : FV) (F_Ride_init : FV) : SF :=
  (sIf (tOrJ (tNotJ (tB (eCall (F__law_alike 6) [] (aCons (rVal (eSeq .tup (aCons (rVal (eFld 5 okF_stages (rVar 5))) (aCons (rVal (eFld 6 okF_paces (rVar 5))) (aCons (rVal (eCallM 0 F_Ride_miles (eVar 5) aNil)) aNil))))) (aCons (rVal (eSeq .tup (aCons (rVal (eVar 2)) (aCons (rVal (eVar 4)) (aCons (rVal (eCallB (on1 sumD) (aCons (rVal (eLc (iSeq (eVar 2)) (bName 19) [19] tYesJ law_e4)) aNil))) aNil))))) aNil))))) (tOrJ (tB (eOwnEq true 0 F_Ride_eq (eVar 5) (eCall F_Ride_init [] (aCons (rVal (eVar 2)) (aCons (rVal (eVar 4)) aNil))))) (tB (eOwnEq false 0 F_Ride_eq (eVar 5) (eVar 2))))) (sRet (eC (.bl false))) sNil)
def law_s7 (F__law_rows : FV) : SF :=
  (sSet 6 (eCall F__law_rows [] (aCons (rVal (eVar 2)) (aCons (rVal (eVar 4)) aNil))))
def law_e5 : EF :=
  (f2 ixD (rVar 21) (rVal (eC (.int 0))))
def law_s8 (F__law_alike : Nat → FV) (F_Ride_rows : FV) : SF :=
  (sIf (tNotJ (tB (eCall (F__law_alike 6) [] (aCons (rVal (eCallM 0 F_Ride_rows (eVar 5) aNil)) (aCons (rVal (eCallB (on1 tupD) (aCons (rVal (eLc (iSeq (eVar 6)) (bName 21) [21] tYesJ law_e5)) aNil))) aNil))))) (sRet (eC (.bl false))) sNil)
def law_e6 : EF :=
  (f2 subD (rVal (f2 ixD (rVar 17) (rVal (f2 addD (rVar 11) (rVal (eC (.int 1))))))) (rVal (f2 ixD (rVar 17) (rVar 11))))
def law_y1 (F__law_alike : Nat → FV) (F_Ride_minutes : FV) (F_Ride_horses : FV) : SF :=
  (sCons (sSet 17 (f2 addD (rVal (f2 addD (rVal (eSeq .lst (aCons (rVal (eC (.int 0))) aNil))) (rVal (eCallB (on1 lstD) (aCons (rVar 7) aNil))))) (rVal (eSeq .lst (aCons (rVal (eCallB (on1 lenD) (aCons (rVar 2) aNil))) aNil)))))
  (sIf (tNotJ (tB (eCall (F__law_alike 6) [] (aCons (rVal (eSeq .tup (aCons (rVal (eCallM 0 F_Ride_minutes (eVar 5) (aCons (rVal (eVar 7)) aNil))) (aCons (rVal (eCallM 0 F_Ride_horses (eVar 5) (aCons (rVal (eVar 7)) aNil))) aNil)))) (aCons (rVal (eSeq .tup (aCons (rVal (eVar 12)) (aCons (rVal (eCallB (on1 tupD) (aCons (rVal (eLc (iRng rng1 (aCons (rVal (f2 subD (rVal (eCallB (on1 lenD) (aCons (rVar 17) aNil))) (rVal (eC (.int 1))))) aNil)) (bName 11) [11] tYesJ law_e6)) aNil))) aNil)))) aNil))))) (sRet (eC (.bl false))) sNil))
def law_x1 : SF :=
  (sIf (tOrJ (tB (f2 notNonD (rVar 12) (rVal (eC .non)))) (tOrJ (tB (f2 neD (rVal (eXf 13 3 okX_reason)) (rVal (eC (.str "tired"))))) (tB (f2 neD (rVal (eXf 13 4 okX_names)) (rVal (eSeq .tup aNil)))))) (sRet (eC (.bl false))) sNil)
def law_b1 (F__law_minutes : FV) (F__law_truth : FV) (F_Ride_can_be : FV) (F__law_alike : Nat → FV) (F_Ride_minutes : FV) (F_Ride_horses : FV) : SF :=
  (sCons (sSet 12 (eCall F__law_minutes [] (aCons (rVal (eVar 2)) (aCons (rVal (eVar 4)) (aCons (rVal (eVar 7)) aNil)))))
  (sCons (sIf (tNotJ (tB (eCall F__law_truth [] (aCons (rVal (eCallM 0 F_Ride_can_be (eVar 5) (aCons (rVal (eVar 7)) aNil))) (aCons (rVal (f2 notNonD (rVar 12) (rVal (eC .non)))) aNil))))) (sRet (eC (.bl false))) sNil)
  (sTryAs 13 hd_Refused (law_y1 F__law_alike F_Ride_minutes F_Ride_horses) law_x1)))
def law_e7 : EF :=
  (f2 addD (rVar 20) (rVal (eC (.int 1))))
def law_e8 : EF :=
  (eCallB (on1 tupD) (aCons (rVal (eLc (iSeq (eVar 16)) (bName 20) [20] tYesJ law_e7)) aNil))
def law_s9 (F__law_sized : FV) (F__law_minutes : FV) (F__law_truth : FV) (F_Ride_can_be : FV) (F__law_alike : Nat → FV) (F_Ride_minutes : FV) (F_Ride_horses : FV) : SF :=
  (sFor (iSeq (eLc (iSeq (eCall F__law_sized [] (aCons (rVal (eCallB (on2 max2D) (aCons (rVal (eC (.int 0))) (aCons (rVal (f2 subD (rVal (eCallB (on1 lenD) (aCons (rVar 2) aNil))) (rVal (eC (.int 1))))) aNil)))) aNil))) (bName 16) [16] tYesJ law_e8)) (bName 7)
  (law_b1 F__law_minutes F__law_truth F_Ride_can_be F__law_alike F_Ride_minutes F_Ride_horses))
def law_s10 (F__law_best : FV) : SF :=
  (sSet 8 (eCall F__law_best [] (aCons (rVal (eVar 2)) (aCons (rVal (eVar 4)) (aCons (rVal (eC (.int 9))) aNil)))))
def law_e9 : EF :=
  (eCallB (on1 lenD) (aCons (rVal (f2 ixD (rVar 21) (rVal (eC (.int 0))))) aNil))
def law_s11 (F__law_alike : Nat → FV) (F_Ride_best : FV) (F_Ride_fewest : FV) : SF :=
  (sIf (tOrJ (tNotJ (tB (eCall (F__law_alike 6) [] (aCons (rVal (eCallM 0 F_Ride_best (eVar 5) aNil)) (aCons (rVal (eVar 8)) aNil))))) (tNotJ (tB (eCall (F__law_alike 6) [] (aCons (rVal (eCallM 0 F_Ride_fewest (eVar 5) aNil)) (aCons (rVal (eCallB (on1 minX) (aCons (rVal (eLc (iSeq (eVar 6)) (bName 21) [21] tYesJ law_e9)) aNil))) aNil)))))) (sRet (eC (.bl false))) sNil)
def law_e10 : EF :=
  (f2 subD (rVal (f2 ixD (rVar 16) (rVal (eC (.int 0))))) (rVal (f2 ixD (rVar 8) (rVal (eC (.int 0))))))
def law_t1 : TF :=
  (tB (f2 notNonD (rVar 16) (rVal (eC .non))))
def law_b2 (F__law_best : FV) (F_Ride_best_with : FV) (F_Ride_saved : FV) : SF :=
  (sCons (sSet 12 (eCall F__law_best [] (aCons (rVal (eVar 2)) (aCons (rVal (eVar 4)) (aCons (rVal (eVar 9)) aNil)))))
  (sCons (sSet 14 (f2 ixD (rVal (f2 addD (rVal (eLc (iSeq (eSeq .lst (aCons (rVal (eVar 12)) aNil))) (bName 16) [16] law_t1 law_e10)) (rVal (eSeq .lst (aCons (rVal (eC .non)) aNil))))) (rVal (eC (.int 0)))))
  (sIf (tOrJ (tB (f2 neD (rVal (eCallM 0 F_Ride_best_with (eVar 5) (aCons (rVal (eVar 9)) aNil))) (rVar 12))) (tB (f2 neD (rVal (eCallM 0 F_Ride_saved (eVar 5) (aCons (rVal (eVar 9)) aNil))) (rVar 14)))) (sRet (eC (.bl false))) sNil)))
def law_s12 (F__law_best : FV) (F_Ride_best_with : FV) (F_Ride_saved : FV) : SF :=
  (sFor (iRng rng1 (aCons (rVal (eC (.int 4))) aNil)) (bName 9)
  (law_b2 F__law_best F_Ride_best_with F_Ride_saved))
def law_e11 : EF :=
  (f2 ixD (rVar 19) (rVal (eC (.int 1))))
def law_e12 : EF :=
  (eSeq .tup (aCons (rVal (f2 ixD (rVal (f2 ixD (rVar 2) (rVar 11))) (rVal (eC (.int 0))))) (aCons (rVal (f2 mulD (rVal (f2 ixD (rVal (f2 addD (rVal (eLc (iSeq (eVar 2)) (bName 19) [19] tYesJ law_e11)) (rVal (eSeq .lst (aCons (rVal (eC (.int 0))) aNil))))) (rVal (f2 addD (rVar 11) (rVal (eC (.int 1))))))) (rVal (eCallB (on1 intD) (aCons (rVal (f2 ltD (rVal (f2 addD (rVar 11) (rVal (eC (.int 1))))) (rVal (eCallB (on1 lenD) (aCons (rVar 2) aNil))))) aNil))))) aNil)))
def law_s13 : SF :=
  (sSet 10 (eCallB (on1 tupD) (aCons (rVal (eLc (iRng rng3 (aCons (rVal (f2 subD (rVal (eCallB (on1 lenD) (aCons (rVar 2) aNil))) (rVal (eC (.int 1))))) (aCons (rVal (f1 negD (rVal (eC (.int 1))))) (aCons (rVal (f1 negD (rVal (eC (.int 1))))) aNil)))) (bName 11) [11] tYesJ law_e12)) aNil)))
def law_s14 (F_Ride_eq : FV) (F_Ride_turned : FV) (F_Ride_init : FV) : SF :=
  (sIf (tB (eOwnEq true 0 F_Ride_eq (eCallM 0 F_Ride_turned (eVar 5) aNil) (eCall F_Ride_init [] (aCons (rVal (eVar 10)) (aCons (rVal (eVar 4)) aNil))))) (sRet (eC (.bl false))) sNil)
def law_e13 : EF :=
  (eVar 18)
def law_t2 (F__law_best : FV) : TF :=
  (tB (f2 (inX false) (rVar 11) (rVal (f2 ixD (rVal (eCall F__law_best [] (aCons (rVal (f2 addD (rVal (f2 addD (rVal (eCut (rVar 2) pNo (pSome (eVar 11)))) (rVal (eSeq .tup (aCons (rVal (eSeq .tup (aCons (rVal (f2 ixD (rVal (f2 ixD (rVar 2) (rVar 11))) (rVal (eC (.int 0))))) (aCons (rVal (eVar 18)) aNil)))) aNil))))) (rVal (eCut (rVar 2) (pSome (f2 addD (rVar 11) (rVal (eC (.int 1))))) pNo)))) (aCons (rVal (eVar 4)) (aCons (rVal (eC (.int 9))) aNil))))) (rVal (eC (.int 1)))))))
def law_b3 (F__law_best : FV) (F_Ride_eq : FV) (F_Ride_with_change : FV) (F_Ride_init : FV) (F_Ride_most_change : FV) : SF :=
  (sCons (sSetO 15 (eLc (iRng rng1 (aCons (rVal (eC (.int 100))) aNil)) (bName 18) [18] (law_t2 F__law_best) law_e13))
  (sIf (tOrJ (tB (eOwnEq true 0 F_Ride_eq (eCallM 0 F_Ride_with_change (eVar 5) (aCons (rVal (eVar 11)) (aCons (rVal (eC (.int 7))) aNil))) (eCall F_Ride_init [] (aCons (rVal (f2 addD (rVal (f2 addD (rVal (eCut (rVar 2) pNo (pSome (eVar 11)))) (rVal (eSeq .tup (aCons (rVal (eSeq .tup (aCons (rVal (f2 ixD (rVal (f2 ixD (rVar 2) (rVar 11))) (rVal (eC (.int 0))))) (aCons (rVal (eC (.int 7))) aNil)))) aNil))))) (rVal (eCut (rVar 2) (pSome (f2 addD (rVar 11) (rVal (eC (.int 1))))) pNo)))) (aCons (rVal (eVar 4)) aNil))))) (tB (f2 neD (rVal (eCallM 0 F_Ride_most_change (eVar 5) (aCons (rVal (eVar 11)) aNil))) (rVal (f2 ixD (rVal (f2 addD (rVal (eSeq .lst (aCons (rVal (eC .non)) aNil))) (rVar 15))) (rVal (f1 negD (rVal (eC (.int 1)))))))))) (sRet (eC (.bl false))) sNil))
def law_s15 (F__law_best : FV) (F_Ride_eq : FV) (F_Ride_with_change : FV) (F_Ride_init : FV) (F_Ride_most_change : FV) : SF :=
  (sFor (iRng rng1 (aCons (rVal (eCallB (on1 lenD) (aCons (rVar 2) aNil))) aNil)) (bName 11)
  (law_b3 F__law_best F_Ride_eq F_Ride_with_change F_Ride_init F_Ride_most_change))
def law_s16 (F__law_refused : FL) : SF :=
  (sRet (eCallL F__law_refused (aCons (rVar 1) (aCons (rVal (eVar 5)) (aCons (rVal (eVar 2)) (aCons (rVal (eVar 4)) aNil))))))
abbrev s_law : Stmt := (top 36)
theorem sc_law : FnScope ["script", "row", "stages", "first", "paces", "made", "rows", "some", "best", "most", "turned", "k", "told", "e", "saved", "good", "one", "bounds", "minutes", "stage", "at", "pair"] ["script"] (defScope s_law) := C8.fnScope_by (by decide +kernel)
def b_law (F__law_taken : FL) (F_Ride_init : FV) (F__law_mixed : FL) (F__law_alike : Nat → FV) (F_Ride_miles : FV) (F_Ride_eq : FV) (F__law_rows : FV) (F_Ride_rows : FV) (F__law_sized : FV) (F__law_minutes : FV) (F__law_truth : FV) (F_Ride_can_be : FV) (F_Ride_minutes : FV) (F_Ride_horses : FV) (F__law_best : FV) (F_Ride_best : FV) (F_Ride_fewest : FV) (F_Ride_best_with : FV) (F_Ride_saved : FV) (F_Ride_turned : FV) (F_Ride_with_change : FV) (F_Ride_most_change : FV) (F__law_refused : FL) : SF :=
  (sCons law_s1
  (sCons (law_s2 F__law_taken)
  (sCons (law_s3 F__law_taken)
  (sCons (law_s4 F__law_taken)
  (sCons (law_s5 F_Ride_init F__law_mixed)
  (sCons (law_s6 F__law_alike F_Ride_miles F_Ride_eq F_Ride_init)
  (sCons (law_s7 F__law_rows)
  (sCons (law_s8 F__law_alike F_Ride_rows)
  (sCons (law_s9 F__law_sized F__law_minutes F__law_truth F_Ride_can_be F__law_alike F_Ride_minutes F_Ride_horses)
  (sCons (law_s10 F__law_best)
  (sCons (law_s11 F__law_alike F_Ride_best F_Ride_fewest)
  (sCons (law_s12 F__law_best F_Ride_best_with F_Ride_saved)
  (sCons law_s13
  (sCons (law_s14 F_Ride_eq F_Ride_turned F_Ride_init)
  (sCons (law_s15 F__law_best F_Ride_eq F_Ride_with_change F_Ride_init F_Ride_most_change)
  (law_s16 F__law_refused))))))))))))))))
def F_law : FV := fnV 21 (b_law F__law_taken F_Ride_init F__law_mixed F__law_alike F_Ride_miles F_Ride_eq F__law_rows F_Ride_rows F__law_sized F__law_minutes F__law_truth F_Ride_can_be F_Ride_minutes F_Ride_horses F__law_best F_Ride_best F_Ride_fewest F_Ride_best_with F_Ride_saved F_Ride_turned F_Ride_with_change F_Ride_most_change F__law_refused)
theorem ok_law {P : Program} {w : World} {K : PySem.W.Frag} {mg : Str → Option Value} {base : Heap} {T : Tab} (hT : T.K = K) (B : NoB mg) {f : Addr} {fd : FuncData} (F : Fun K "law" "law" s_law f fd) (hm : mg "law" = some (.ref f)) (c__law_taken : CalL P w K mg base T 1 "_law_taken" 1 F__law_taken) (c__law_mixed : CalL P w K mg base T 2 "_law_mixed" 1 F__law_mixed) (c__law_alike : CalV P w K mg base T 7 "_law_alike" 2 (F__law_alike 6)) (c__law_rows : CalV P w K mg base T 3 "_law_rows" 2 F__law_rows) (c__law_minutes : CalV P w K mg base T 1 "_law_minutes" 3 F__law_minutes) (c__law_truth : CalV P w K mg base T 1 "_law_truth" 2 F__law_truth) (c__law_sized : CalV P w K mg base T 2 "_law_sized" 1 F__law_sized) (c__law_best : CalV P w K mg base T 4 "_law_best" 3 F__law_best) (c__law_refused : CalLG P w K mg base T 13 "_law_refused" 3 F__law_refused) (c_Ride_miles : CalM P w K mg base T 1 0 "miles" 1 F_Ride_miles) (c_Ride_rows : CalM P w K mg base T 2 0 "rows" 1 F_Ride_rows) (c_Ride_can_be : CalM P w K mg base T 1 0 "can_be" 2 F_Ride_can_be) (c_Ride_minutes : CalM P w K mg base T 3 0 "minutes" 2 F_Ride_minutes) (c_Ride_horses : CalM P w K mg base T 4 0 "horses" 2 F_Ride_horses) (c_Ride_best : CalM P w K mg base T 1 0 "best" 1 F_Ride_best) (c_Ride_fewest : CalM P w K mg base T 1 0 "fewest" 1 F_Ride_fewest) (c_Ride_best_with : CalM P w K mg base T 4 0 "best_with" 2 F_Ride_best_with) (c_Ride_saved : CalM P w K mg base T 5 0 "saved" 2 F_Ride_saved) (c_Ride_turned : CalM P w K mg base T 11 0 "turned" 1 F_Ride_turned) (c_Ride_with_change : CalM P w K mg base T 11 0 "with_change" 3 F_Ride_with_change) (c_Ride_most_change : CalM P w K mg base T 12 0 "most_change" 2 F_Ride_most_change) (k_Ride : CalK P w K mg base T 9 0 "Ride" 2 F_Ride_init []) (q_Ride : EqC P w K mg base T 1 0 F_Ride_eq) (fd_stages : FldT K T 5 "stages" okF_stages) (fd_paces : FldT K T 6 "paces" okF_paces) (h_Refused : HdT K mg T "Refused" hd_Refused) (xf_reason : XfT K T 3 "reason" okX_reason) (xf_names : XfT K T 4 "names" okX_names) (hinj : ∀ a b, T.fnm a = T.fnm b → a = b) : FnG P w K mg base (L2.CX P w) 14 f fd ["script"] (spV T 1 F_law) :=
  fnG_V F sc_law rfl fun cdv A outer s H E gd b => have hu := Room.u b.hr;
  (js_cons (j_setO (i := 1) sc_law.nd (j_lstO (ja_cons (j_rval (j_var hT.symm 0)) (ja_cons (j_rval (j_int hT.symm)) (ja_cons (j_rval (j_int hT.symm)) (ja_cons (j_rval (j_int hT.symm)) (ja_nil hT.symm)))))))
  (js_cons (j_set (i := 2) sc_law.nd (jTuple (ja_cons (j_rval (j_frz (j_lcO (own := [("k", 11)]) rfl sc_law.nd (ji_range1 (ja_cons (j_rval (jcl c__law_taken b.hr b.tk (ja_cons (j_rvar hT.symm 1) (ja_cons (j_rval (j_int hT.symm)) (ja_nil hT.symm))))) (ja_nil hT.symm)) B.range) (blkOk_by (by kernel_rfl)) (by decide) (fun s H C cl fp => (jg_name (i := 11) sc_law.nd)) (fun s H C cl fp => jts_nil) (fun s H C cl fp => (j_tup (ja_cons (j_rval (j_add (j_rval (j_int hT.symm)) (j_rval (jcl c__law_taken b.hr takes0 (ja_cons (j_rvar hT.symm 1) (ja_cons (j_rval (j_int hT.symm)) (ja_nil hT.symm))))))) (ja_cons (j_rval (jcl c__law_taken b.hr takes0 (ja_cons (j_rvar hT.symm 1) (ja_cons (j_rval (j_int hT.symm)) (ja_nil hT.symm))))) (ja_nil hT.symm)))))))) (ja_nil hT.symm)) B))
  (js_cons (j_set (i := 3) sc_law.nd (j_add (j_rval (j_int hT.symm)) (j_rval (jcl c__law_taken b.hr b.tk (ja_cons (j_rvar hT.symm 1) (ja_cons (j_rval (j_int hT.symm)) (ja_nil hT.symm)))))))
  (js_cons (j_set (i := 4) sc_law.nd (jTuple (ja_cons (j_rval (j_frz (j_lcO (own := [("k", 11)]) rfl sc_law.nd (ji_range1 (ja_cons (j_rval (j_add (j_rval (j_int hT.symm)) (j_rval (jcl c__law_taken b.hr b.tk (ja_cons (j_rvar hT.symm 1) (ja_cons (j_rval (j_int hT.symm)) (ja_nil hT.symm))))))) (ja_nil hT.symm)) B.range) (blkOk_by (by kernel_rfl)) (by decide) (fun s H C cl fp => (jg_name (i := 11) sc_law.nd)) (fun s H C cl fp => jts_nil) (fun s H C cl fp => (j_add (j_rvar hT.symm 3) (j_rval (j_mul (j_rval (jcl c__law_taken b.hr takes0 (ja_cons (j_rvar hT.symm 1) (ja_cons (j_rval (j_int hT.symm)) (ja_nil hT.symm))))) (j_rval (jInt (ja_cons (j_rval (jeGt (j_rvar hT.symm 11) (j_rval (j_int hT.symm)))) (ja_nil hT.symm)) B))))))))) (ja_nil hT.symm)) B))
  (js_cons (j_set (i := 5) sc_law.nd (j_frz (jk k_Ride b.hr b.tk (ja_cons (j_rval (jcl c__law_mixed b.hr b.tk (ja_cons (j_rvar hT.symm 1) (ja_cons (j_rval (j_frz (j_lcO (own := [("stage", 19)]) rfl sc_law.nd (ji_seq (j_var hT.symm 2)) (blkOk_by (by kernel_rfl)) (by decide) (fun s H C cl fp => (jg_name (i := 19) sc_law.nd)) (fun s H C cl fp => jts_nil) (fun s H C cl fp => (jcl c__law_mixed b.hr takes0 (ja_cons (j_rvar hT.symm 1) (ja_cons (j_rval (j_var hT.symm 19)) (ja_nil hT.symm)))))))) (ja_nil hT.symm))))) (ja_cons (j_rval (jcl c__law_mixed b.hr b.tk (ja_cons (j_rvar hT.symm 1) (ja_cons (j_rval (j_frz (jListO (ja_cons (j_rvar hT.symm 4) (ja_nil hT.symm)) B))) (ja_nil hT.symm))))) (ja_nil hT.symm))))))
  (js_cons (j_ifs (JW.jt (j_or (j_not (j_test (jc c__law_alike b.hr b.tk (ja_cons (j_rval (j_tup (ja_cons (j_rval (j_fld fd_stages (j_rvar hT.symm 5))) (ja_cons (j_rval (j_fld fd_paces (j_rvar hT.symm 5))) (ja_cons (j_rval (jm0 c_Ride_miles b.hr b.tk (j_var hT.symm 5))) (ja_nil hT.symm)))))) (ja_cons (j_rval (j_tup (ja_cons (j_rval (j_var hT.symm 2)) (ja_cons (j_rval (j_var hT.symm 4)) (ja_cons (j_rval (jSum rfl (ja_cons (j_rval (j_frz (j_lcO (own := [("stage", 19)]) rfl sc_law.nd (ji_seq (j_var hT.symm 2)) (blkOk_by (by kernel_rfl)) (by decide) (fun s H C cl fp => (jg_name (i := 19) sc_law.nd)) (fun s H C cl fp => jts_nil) (fun s H C cl fp => (j_ix (j_rvar hT.symm 19) (j_rval (j_int hT.symm))))))) (ja_nil hT.symm)) B)) (ja_nil hT.symm)))))) (ja_nil hT.symm)))))) (j_or (jtOwnNe q_Ride b.hr (j_var hT.symm 5) (j_frz (jk k_Ride b.hr b.tk (ja_cons (j_rval (j_var hT.symm 2)) (ja_cons (j_rval (j_var hT.symm 4)) (ja_nil hT.symm)))))) (j_or1 (jtOwnEq q_Ride b.hr (j_var hT.symm 5) (j_var hT.symm 2)))))) (js_one (j_ret (j_bl hT.symm))) (js_nil hT.symm))
  (js_cons (j_set (i := 6) sc_law.nd (jc c__law_rows b.hr b.tk (ja_cons (j_rval (j_var hT.symm 2)) (ja_cons (j_rval (j_var hT.symm 4)) (ja_nil hT.symm)))))
  (js_cons (j_ifs (j_not (j_test (jc c__law_alike b.hr b.tk (ja_cons (j_rval (jm0 c_Ride_rows b.hr b.tk (j_var hT.symm 5))) (ja_cons (j_rval (jTuple (ja_cons (j_rval (j_frz (j_lcO (own := [("pair", 21)]) rfl sc_law.nd (ji_seq (j_var hT.symm 6)) (blkOk_by (by kernel_rfl)) (by decide) (fun s H C cl fp => (jg_name (i := 21) sc_law.nd)) (fun s H C cl fp => jts_nil) (fun s H C cl fp => (j_ix (j_rvar hT.symm 21) (j_rval (j_int hT.symm))))))) (ja_nil hT.symm)) B)) (ja_nil hT.symm)))))) (js_one (j_ret (j_bl hT.symm))) (js_nil hT.symm))
  (js_cons (j_for b.hp rfl (ji_seq (j_frz (j_lcO (own := [("one", 16)]) rfl sc_law.nd (ji_seq (jc c__law_sized b.hr b.tk (ja_cons (j_rval (jMax2 rfl (ja_cons (j_rval (j_int hT.symm)) (ja_cons (j_rval (j_sub (j_rval (jLen (ja_cons (j_rvar hT.symm 2) (ja_nil hT.symm)) B)) (j_rval (j_int hT.symm)))) (ja_nil hT.symm))) B)) (ja_nil hT.symm)))) (blkOk_by (by kernel_rfl)) (by decide) (fun s H C cl fp => (jg_name (i := 16) sc_law.nd)) (fun s H C cl fp => jts_nil) (fun s H C cl fp => (jTuple (ja_cons (j_rval (j_frz (j_lcO (own := [("at", 20)]) rfl sc_law.nd (ji_seq (j_var hT.symm 16)) (blkOk_by (by kernel_rfl)) (by decide) (fun s H C cl fp => (jg_name (i := 20) sc_law.nd)) (fun s H C cl fp => jts_nil) (fun s H C cl fp => (j_add (j_rvar hT.symm 20) (j_rval (j_int hT.symm))))))) (ja_nil hT.symm)) B))))) (jg_name (i := 7) sc_law.nd)
  (js_cons (j_set (i := 12) sc_law.nd (jc c__law_minutes b.hr b.tk (ja_cons (j_rval (j_var hT.symm 2)) (ja_cons (j_rval (j_var hT.symm 4)) (ja_cons (j_rval (j_var hT.symm 7)) (ja_nil hT.symm))))))
  (js_cons (j_ifs (j_not (j_test (jc c__law_truth b.hr b.tk (ja_cons (j_rval (jm c_Ride_can_be b.hr b.tk (j_var hT.symm 5) (ja_cons (j_rval (j_var hT.symm 7)) (ja_nil hT.symm)))) (ja_cons (j_rval (jeNotN (j_rvar hT.symm 12) (j_rval (j_non hT.symm)))) (ja_nil hT.symm)))))) (js_one (j_ret (j_bl hT.symm))) (js_nil hT.symm))
  (js_one (jTryAs (i := 13) hT.symm sc_law.nd h_Refused b.tk (fun W pn xe tk hp => (js_cons (j_set (i := 17) sc_law.nd (j_add (j_rval (j_add (j_rval (j_frz (j_lstO (ja_cons (j_rval (j_int hT.symm)) (ja_nil hT.symm))))) (j_rval (j_frz (jListO (ja_cons (j_rvar hT.symm 7) (ja_nil hT.symm)) B))))) (j_rval (j_frz (j_lstO (ja_cons (j_rval (jLen (ja_cons (j_rvar hT.symm 2) (ja_nil hT.symm)) B)) (ja_nil hT.symm)))))))
  (js_one (j_ifs (j_not (j_test (jc c__law_alike b.hr tk (ja_cons (j_rval (j_tup (ja_cons (j_rval (jm c_Ride_minutes b.hr tk (j_var hT.symm 5) (ja_cons (j_rval (j_var hT.symm 7)) (ja_nil hT.symm)))) (ja_cons (j_rval (jm c_Ride_horses b.hr tk (j_var hT.symm 5) (ja_cons (j_rval (j_var hT.symm 7)) (ja_nil hT.symm)))) (ja_nil hT.symm))))) (ja_cons (j_rval (j_tup (ja_cons (j_rval (j_var hT.symm 12)) (ja_cons (j_rval (jTuple (ja_cons (j_rval (j_frz (j_lcO (own := [("k", 11)]) rfl sc_law.nd (ji_range1 (ja_cons (j_rval (j_sub (j_rval (jLen (ja_cons (j_rvar hT.symm 17) (ja_nil hT.symm)) B)) (j_rval (j_int hT.symm)))) (ja_nil hT.symm)) B.range) (blkOk_by (by kernel_rfl)) (by decide) (fun s H C cl fp => (jg_name (i := 11) sc_law.nd)) (fun s H C cl fp => jts_nil) (fun s H C cl fp => (j_sub (j_rval (j_ix (j_rvar hT.symm 17) (j_rval (j_add (j_rvar hT.symm 11) (j_rval (j_int hT.symm)))))) (j_rval (j_ix (j_rvar hT.symm 17) (j_rvar hT.symm 11)))))))) (ja_nil hT.symm)) B)) (ja_nil hT.symm))))) (ja_nil hT.symm)))))) (js_one (j_ret (j_bl hT.symm))) (js_nil hT.symm))))) (fun a oe cls d pn z v => (js_one (j_ifs (JW.jt (j_or (jtNotN (j_rvar hT.symm 12) (j_rval (j_non hT.symm))) (j_or (jtNe hu (j_rval (jXf hT.symm hinj xf_reason z v)) (j_rval (j_str hT.symm))) (j_or1 (jtNe hu (j_rval (jXf hT.symm hinj xf_names z v)) (j_rval (j_tup (ja_nil hT.symm)))))))) (js_one (j_ret (j_bl hT.symm))) (js_nil hT.symm)))))))))
  (js_cons (j_set (i := 8) sc_law.nd (jc c__law_best b.hr b.tk (ja_cons (j_rval (j_var hT.symm 2)) (ja_cons (j_rval (j_var hT.symm 4)) (ja_cons (j_rval (j_int hT.symm)) (ja_nil hT.symm))))))
  (js_cons (j_ifs (JW.jt (j_or (j_not (j_test (jc c__law_alike b.hr b.tk (ja_cons (j_rval (jm0 c_Ride_best b.hr b.tk (j_var hT.symm 5))) (ja_cons (j_rval (j_var hT.symm 8)) (ja_nil hT.symm)))))) (j_or1 (j_not (j_test (jc c__law_alike b.hr b.tk (ja_cons (j_rval (jm0 c_Ride_fewest b.hr b.tk (j_var hT.symm 5))) (ja_cons (j_rval (jMinX rfl hu (ja_cons (j_rval (j_frz (j_lcO (own := [("pair", 21)]) rfl sc_law.nd (ji_seq (j_var hT.symm 6)) (blkOk_by (by kernel_rfl)) (by decide) (fun s H C cl fp => (jg_name (i := 21) sc_law.nd)) (fun s H C cl fp => jts_nil) (fun s H C cl fp => (jLen (ja_cons (j_rval (j_ix (j_rvar hT.symm 21) (j_rval (j_int hT.symm)))) (ja_nil hT.symm)) B))))) (ja_nil hT.symm)) B)) (ja_nil hT.symm))))))))) (js_one (j_ret (j_bl hT.symm))) (js_nil hT.symm))
  (js_cons (j_for b.hp rfl (ji_range1 (ja_cons (j_rval (j_int hT.symm)) (ja_nil hT.symm)) B.range) (jg_name (i := 9) sc_law.nd)
  (js_cons (j_set (i := 12) sc_law.nd (jc c__law_best b.hr b.tk (ja_cons (j_rval (j_var hT.symm 2)) (ja_cons (j_rval (j_var hT.symm 4)) (ja_cons (j_rval (j_var hT.symm 9)) (ja_nil hT.symm))))))
  (js_cons (j_set (i := 14) sc_law.nd (j_ix (j_rval (j_add (j_rval (j_frz (j_lcO (own := [("one", 16)]) rfl sc_law.nd (ji_seq (j_frz (j_lstO (ja_cons (j_rval (j_var hT.symm 12)) (ja_nil hT.symm))))) (blkOk_by (by kernel_rfl)) (by decide) (fun s H C cl fp => (jg_name (i := 16) sc_law.nd)) (fun s H C cl fp => (jts_one (jtNotN (j_rvar hT.symm 16) (j_rval (j_non hT.symm))))) (fun s H C cl fp => (j_sub (j_rval (j_ix (j_rvar hT.symm 16) (j_rval (j_int hT.symm)))) (j_rval (j_ix (j_rvar hT.symm 8) (j_rval (j_int hT.symm))))))))) (j_rval (j_frz (j_lstO (ja_cons (j_rval (j_non hT.symm)) (ja_nil hT.symm))))))) (j_rval (j_int hT.symm))))
  (js_one (j_ifs (JW.jt (j_or (jtNe hu (j_rval (jm c_Ride_best_with b.hr b.tk (j_var hT.symm 5) (ja_cons (j_rval (j_var hT.symm 9)) (ja_nil hT.symm)))) (j_rvar hT.symm 12)) (j_or1 (jtNe hu (j_rval (jm c_Ride_saved b.hr b.tk (j_var hT.symm 5) (ja_cons (j_rval (j_var hT.symm 9)) (ja_nil hT.symm)))) (j_rvar hT.symm 14))))) (js_one (j_ret (j_bl hT.symm))) (js_nil hT.symm))))))
  (js_cons (j_set (i := 10) sc_law.nd (jTuple (ja_cons (j_rval (j_frz (j_lcO (own := [("k", 11)]) rfl sc_law.nd (ji_range3 (ja_cons (j_rval (j_sub (j_rval (jLen (ja_cons (j_rvar hT.symm 2) (ja_nil hT.symm)) B)) (j_rval (j_int hT.symm)))) (ja_cons (j_rval (j_neg (j_rval (j_int hT.symm)))) (ja_cons (j_rval (j_neg (j_rval (j_int hT.symm)))) (ja_nil hT.symm)))) B.range) (blkOk_by (by kernel_rfl)) (by decide) (fun s H C cl fp => (jg_name (i := 11) sc_law.nd)) (fun s H C cl fp => jts_nil) (fun s H C cl fp => (j_tup (ja_cons (j_rval (j_ix (j_rval (j_ix (j_rvar hT.symm 2) (j_rvar hT.symm 11))) (j_rval (j_int hT.symm)))) (ja_cons (j_rval (j_mul (j_rval (j_ix (j_rval (j_add (j_rval (j_frz (j_lcO (own := [("stage", 19)]) rfl sc_law.nd (ji_seq (j_var hT.symm 2)) (blkOk_by (by kernel_rfl)) (by decide) (fun s H C cl fp => (jg_name (i := 19) sc_law.nd)) (fun s H C cl fp => jts_nil) (fun s H C cl fp => (j_ix (j_rvar hT.symm 19) (j_rval (j_int hT.symm))))))) (j_rval (j_frz (j_lstO (ja_cons (j_rval (j_int hT.symm)) (ja_nil hT.symm))))))) (j_rval (j_add (j_rvar hT.symm 11) (j_rval (j_int hT.symm)))))) (j_rval (jInt (ja_cons (j_rval (jeLt (j_rval (j_add (j_rvar hT.symm 11) (j_rval (j_int hT.symm)))) (j_rval (jLen (ja_cons (j_rvar hT.symm 2) (ja_nil hT.symm)) B)))) (ja_nil hT.symm)) B)))) (ja_nil hT.symm)))))))) (ja_nil hT.symm)) B))
  (js_cons (j_ifs (jtOwnNe q_Ride b.hr (jm0 c_Ride_turned b.hr b.tk (j_var hT.symm 5)) (j_frz (jk k_Ride b.hr b.tk (ja_cons (j_rval (j_var hT.symm 10)) (ja_cons (j_rval (j_var hT.symm 4)) (ja_nil hT.symm)))))) (js_one (j_ret (j_bl hT.symm))) (js_nil hT.symm))
  (js_cons (j_for b.hp rfl (ji_range1 (ja_cons (j_rval (jLen (ja_cons (j_rvar hT.symm 2) (ja_nil hT.symm)) B)) (ja_nil hT.symm)) B.range) (jg_name (i := 11) sc_law.nd)
  (js_cons (j_setLc (i := 15) (own := [("minutes", 18)]) rfl sc_law.nd (ji_range1 (ja_cons (j_rval (j_int hT.symm)) (ja_nil hT.symm)) B.range) (blkOk_by (by kernel_rfl)) (by decide) (fun s H C cl fp => (jg_name (i := 18) sc_law.nd)) (fun s H C cl fp => (jts_one (jtInX hu (j_rvar hT.symm 11) (j_rval (j_ix (j_rval (jc c__law_best b.hr takes0 (ja_cons (j_rval (j_add (j_rval (j_add (j_rval (j_slice (j_rvar hT.symm 2) jp_no (jp_some (j_var hT.symm 11)))) (j_rval (j_tup (ja_cons (j_rval (j_tup (ja_cons (j_rval (j_ix (j_rval (j_ix (j_rvar hT.symm 2) (j_rvar hT.symm 11))) (j_rval (j_int hT.symm)))) (ja_cons (j_rval (j_var hT.symm 18)) (ja_nil hT.symm))))) (ja_nil hT.symm)))))) (j_rval (j_slice (j_rvar hT.symm 2) (jp_some (j_add (j_rvar hT.symm 11) (j_rval (j_int hT.symm)))) jp_no)))) (ja_cons (j_rval (j_var hT.symm 4)) (ja_cons (j_rval (j_int hT.symm)) (ja_nil hT.symm)))))) (j_rval (j_int hT.symm))))))) (fun s H C cl fp => (j_var hT.symm 18)) (by rfl))
  (js_one (j_ifs (JW.jt (j_or (jtOwnNe q_Ride b.hr (jm c_Ride_with_change b.hr b.tk (j_var hT.symm 5) (ja_cons (j_rval (j_var hT.symm 11)) (ja_cons (j_rval (j_int hT.symm)) (ja_nil hT.symm)))) (j_frz (jk k_Ride b.hr b.tk (ja_cons (j_rval (j_add (j_rval (j_add (j_rval (j_slice (j_rvar hT.symm 2) jp_no (jp_some (j_var hT.symm 11)))) (j_rval (j_tup (ja_cons (j_rval (j_tup (ja_cons (j_rval (j_ix (j_rval (j_ix (j_rvar hT.symm 2) (j_rvar hT.symm 11))) (j_rval (j_int hT.symm)))) (ja_cons (j_rval (j_int hT.symm)) (ja_nil hT.symm))))) (ja_nil hT.symm)))))) (j_rval (j_slice (j_rvar hT.symm 2) (jp_some (j_add (j_rvar hT.symm 11) (j_rval (j_int hT.symm)))) jp_no)))) (ja_cons (j_rval (j_var hT.symm 4)) (ja_nil hT.symm)))))) (j_or1 (jtNe hu (j_rval (jm c_Ride_most_change b.hr b.tk (j_var hT.symm 5) (ja_cons (j_rval (j_var hT.symm 11)) (ja_nil hT.symm)))) (j_rval (j_ix (j_rval (j_add (j_rval (j_frz (j_lstO (ja_cons (j_rval (j_non hT.symm)) (ja_nil hT.symm))))) (j_rvar hT.symm 15))) (j_rval (j_neg (j_rval (j_int hT.symm)))))))))) (js_one (j_ret (j_bl hT.symm))) (js_nil hT.symm)))))
  (js_one (j_ret (jclG c__law_refused gd b.hr b.tk (ja_cons (j_rvar hT.symm 1) (ja_cons (j_rval (j_var hT.symm 5)) (ja_cons (j_rval (j_var hT.symm 2)) (ja_cons (j_rval (j_var hT.symm 4)) (ja_nil hT.symm)))))))))))))))))))))))
end K20

set_option Elab.async false
set_option linter.all false
set_option maxRecDepth 100000
set_option maxHeartbeats 4000000
namespace K20
open PySem PySem.Spec PyProof.Rows L2 J
theorem e_taken : F__law_taken = takenF := rfl
theorem e_alike : ∀ n, F__law_alike n = alikeF n
  | 0 => rfl
  | n + 1 => by show fnV 1 (b__law_alike (F__law_alike n)) = fnV 1 (b_alike (alikeF n)); rw [e_alike n]; rfl
theorem e_frozen : ∀ n, F_frozen n = frozenF n
  | 0 => rfl
  | n + 1 => by show fnV 1 (b_frozen (F_frozen n)) = fnV 1 (b_frz (frozenF n)); rw [e_frozen n]; rfl
theorem e_whole : F_is_whole = isWholeF := rfl
theorem e_number : F_is_number = isNumberF := rfl
theorem e_row : F_is_row = isRowF := rfl
theorem e_want_row : F_want_row = wantRowF fnTbl 1 1 2 2 := by
  unfold F_want_row b_want_row want_row_s4
  rw [e_frozen]
  rfl
theorem e_want_number : F_want_number = wantNumberF 0 0 := rfl
theorem e_pick : F__law_pick = pickF := rfl
theorem e_mixed : F__law_mixed = mixedF := rfl
theorem e_sized : F__law_sized = sizedF := rfl
theorem e_truth : F__law_truth = truthF := rfl

abbrev Stg := Int × Int
def encSt (s : Stg) : D := .tup [.int s.1, .int s.2]
abbrev encSs (l : List Stg) : D := .tup (l.map encSt)
abbrev encPs (l : List Int) : D := .tup (l.map D.int)
def OkS (s : Stg) : Prop := 1 ≤ s.1 ∧ s.1 ≤ 99 ∧ 0 ≤ s.2 ∧ s.2 ≤ 99
def OkP (p : Int) : Prop := 1 ≤ p ∧ p ≤ 60
abbrev made (st : List Stg) (ps : List Int) : D := .obj 0 [5, 6] [encSs st, encPs ps]
def pl2 : D → Bool
  | .tup ds => ds.all plain
  | .lst ds => ds.all plain
  | d => plain d
def stageB : D → Bool
  | .tup [a, b] => numIn 1 99 a && numIn 0 99 b
  | .lst [a, b] => numIn 1 99 a && numIn 0 99 b
  | _ => false
theorem isStage_ok (d : D) (h : pl2 d = true) : F_is_stage [d] = .ok (.bl (stageB d)) := by
  have key : ∀ ds : List D, ds.all plain = true → ∀ X : D, X = .tup ds ∨ X = .lst ds → F_is_stage [X] = .ok (.bl (stageB X)) := by
    intro ds hds X hX
    have hr : isRowF [X] = .ok (.bl true) := by rcases hX with rfl | rfl <;> exact isRow_ok _ rfl
    match ds, hds, hX with
    | [], _, hX => rcases hX with rfl | rfl <;> simp [F_is_stage, b_is_stage, e_row, hr, eqD, eqv_ii, stageB]
    | [a], _, hX => rcases hX with rfl | rfl <;> simp [F_is_stage, b_is_stage, e_row, hr, eqD, eqv_ii, stageB]
    | [a, b], hds, hX =>
      simp only [List.all_cons, List.all_nil, Bool.and_true, Bool.and_eq_true] at hds
      have h1 := isNumber_ok a 1 99 hds.1
      have h2 := isNumber_ok b 0 99 hds.2
      rcases hX with rfl | rfl <;> cases hn : numIn 1 99 a <;> simp [F_is_stage, b_is_stage, e_row, e_number, hr, eqD, eqv_ii, stageB, h1, h2, hn]
    | a :: b :: c :: r, _, hX =>
      have hne : ¬ ((r.length : Int) + 1 + 1 + 1 = 2) := by omega
      rcases hX with rfl | rfl <;> simp [F_is_stage, b_is_stage, e_row, hr, eqD, eqv_ii, stageB, hne]
  cases d with
  | tup ds => exact key ds h _ (.inl rfl)
  | lst ds => exact key ds h _ (.inr rfl)
  | scr _ => cases h
  | obj _ _ _ => cases h
  | fn _ => cases h
  | non => have hr := isRow_ok .non rfl; simp [isSeq] at hr; simp [F_is_stage, b_is_stage, e_row, hr, stageB]
  | bl b => have hr := isRow_ok (.bl b) rfl; simp [isSeq] at hr; simp [F_is_stage, b_is_stage, e_row, hr, stageB]
  | int i => have hr := isRow_ok (.int i) rfl; simp [isSeq] at hr; simp [F_is_stage, b_is_stage, e_row, hr, stageB]
  | str s => have hr := isRow_ok (.str s) rfl; simp [isSeq] at hr; simp [F_is_stage, b_is_stage, e_row, hr, stageB]
  | dct k v => have hr := isRow_ok (.dct k v) rfl; simp [isSeq] at hr; simp [F_is_stage, b_is_stage, e_row, hr, stageB]
theorem isPace_ok (d : D) (h : plain d = true) : F_is_pace [d] = .ok (.bl (numIn 1 60 d)) := by
  have h1 := isNumber_ok d 1 60 h
  simp [F_is_pace, b_is_pace, e_number, h1]
/-- the rows that are given stand for stages, for paces -/
def RowS (X : D) (st : List Stg) : Prop := ∃ ds, Mx X ds ∧ ds.length = st.length ∧ ∀ (i : Nat) (d : D) (s : Stg), ds[i]? = some d → st[i]? = some s → Mx d [.int s.1, .int s.2]
theorem rows_split {st : List Stg} {ds : List D} (hl : ds.length = st.length) (h : ∀ (i : Nat) (d : D) (s : Stg), ds[i]? = some d → st[i]? = some s → Mx d [.int s.1, .int s.2]) : ∀ d ∈ ds, ∃ s ∈ st, Mx d [.int s.1, .int s.2] := fun d hd => by
  obtain ⟨i, hi⟩ := List.mem_iff_getElem?.mp hd
  have h1 := (List.getElem?_eq_some_iff.mp hi).1
  have h2 : st[i]? = some (st[i]'(by omega)) := List.getElem?_eq_getElem _
  exact ⟨_, List.mem_of_getElem? h2, h i d _ hi h2⟩
theorem stage_of {d : D} {s : Stg} (h : Mx d [.int s.1, .int s.2]) : pl2 d = true ∧ (OkS s → stageB d = true) ∧ fzOk 5 d = true ∧ fzD 5 d = encSt s := by
  rcases h with rfl | rfl
  all_goals
    refine ⟨rfl, fun ⟨a, b, c, e⟩ => ?_, rfl, rfl⟩
    simp [stageB, a, b, c, e]
theorem fz_rows {st : List Stg} {ds : List D} (hl : ds.length = st.length) (h : ∀ (i : Nat) (d : D) (s : Stg), ds[i]? = some d → st[i]? = some s → Mx d [.int s.1, .int s.2]) : ds.map (fzD 5) = st.map encSt := by
  refine List.ext_getElem? fun i => ?_
  rw [List.getElem?_map, List.getElem?_map]
  by_cases hi : i < ds.length
  · rw [List.getElem?_eq_getElem hi, List.getElem?_eq_getElem (by omega)]
    show some _ = some _
    rw [(stage_of (h i _ _ (List.getElem?_eq_getElem hi) (List.getElem?_eq_getElem (by omega)))).2.2.2]
  · rw [List.getElem?_eq_none (by omega), List.getElem?_eq_none (by omega)]
    rfl
theorem wantS_ok {X : D} {st : List Stg} (hX : RowS X st) (hs : ∀ s ∈ st, OkS s) (hl : st.length ≤ 8) : F_want_row [X, .fn 0, .int 8] = .ok (encSs st) := by
  obtain ⟨ds, hm, hlen, hd⟩ := hX
  have hsp := rows_split hlen hd
  have hall : ∀ d ∈ ds, stageB d = true := fun d hd => by
    obtain ⟨s, ms, h⟩ := hsp d hd
    exact (stage_of h).2.1 (hs s ms)
  have hfz : fzOk 6 X = true := by
    rcases hm with rfl | rfl <;> exact List.all_eq_true.mpr fun d hd => by obtain ⟨s, _, h⟩ := hsp d hd; exact (stage_of h).2.2.1
  have hpl : plain X = true := by rcases hm with rfl | rfl <;> rfl
  rw [e_want_row, wantRow_spec (F := F_is_stage) (ok := stageB) rfl X 8 hpl ds hm (fun d hd => isStage_ok d (by obtain ⟨s, _, h⟩ := hsp d hd; exact (stage_of h).1)) (fun _ _ => hfz), badAt_none hall]
  dsimp only
  rw [if_neg (by omega)]
  congr 1
  rcases hm with rfl | rfl <;> simp [fz_rows hlen hd]
theorem wantP_ok {X : D} {ps : List Int} (hX : Mx X (ps.map D.int)) (hs : ∀ p ∈ ps, OkP p) (hl : ps.length ≤ 4) : F_want_row [X, .fn 1, .int 4] = .ok (encPs ps) := by
  have hall : ∀ d ∈ ps.map D.int, numIn 1 60 d = true := fun d hd => by
    obtain ⟨p, mp, rfl⟩ := List.mem_map.mp hd
    have := hs p mp
    simp [this.1, this.2]
  have hpl : plain X = true := by rcases hX with rfl | rfl <;> rfl
  have hfz : fzOk 6 X = true := by
    rcases hX with rfl | rfl <;> simp [fzOk]
  rw [e_want_row, wantRow_spec (F := F_is_pace) (ok := numIn 1 60) rfl X 4 hpl (ps.map D.int) hX (fun d hd => isPace_ok d (by obtain ⟨p, _, rfl⟩ := List.mem_map.mp hd; rfl)) (fun _ _ => hfz), badAt_none hall]
  dsimp only
  rw [if_neg (by simp; omega)]
  congr 1
  rcases hX with rfl | rfl <;> simp
theorem init_ok {S P : D} {s p : List D} (hS : F_want_row [S, .fn 0, .int 8] = .ok (.tup s)) (hP : F_want_row [P, .fn 1, .int 4] = .ok (.tup p)) (hp : p ≠ []) : F_Ride_init [S, P] = .ok (.obj 0 [5, 6] [.tup s, .tup p]) := by
  have hne : ¬ ((p.length : Int) = 0) := by
    intro z
    exact hp (List.length_eq_zero_iff.mp (by omega))
  simp [F_Ride_init, b_Ride_init, Ride_init_s1, Ride_init_s2, Ride_init_s3, hS, hP, okF_stages, okF_paces, putNs, putVs, fget, eqD, eqv_ii, hne, hp]
theorem ride_ok {S P : D} {st : List Stg} {ps : List Int} (hS : RowS S st) (hP : Mx P (ps.map D.int)) (h1 : ∀ s ∈ st, OkS s) (h2 : st.length ≤ 8) (h3 : ∀ p ∈ ps, OkP p) (h4 : ps.length ≤ 4) (h5 : ps ≠ []) : F_Ride_init [S, P] = .ok (made st ps) :=
  init_ok (wantS_ok hS h1 h2) (wantP_ok hP h3 h4) (by simpa using h5)
theorem rowS_enc (st : List Stg) : RowS (encSs st) st := ⟨st.map encSt, .inr rfl, by simp, fun i d s h1 h2 => by
  rw [List.getElem?_map, h2] at h1
  cases h1
  exact .inr rfl⟩
end K20

set_option Elab.async false
set_option linter.all false
set_option maxRecDepth 100000
set_option maxHeartbeats 4000000
namespace K20
open PySem PySem.Spec PyProof.Rows L2 J
@[simp] theorem okE_encSt (n : Nat) (s : Stg) : okE (n + 1) (encSt s) = true := by simp [encSt]
@[simp] theorem okEs_encSs (n : Nat) (st : List Stg) : okEs (n + 1) (st.map encSt) = true := okEs_map (okE_encSt n) st
theorem eqv_encSt (a b : Stg) : eqv (encSt a) (encSt b) = decide (a = b) := by
  show (_ && (_ && true)) = _
  rw [eqv_ii, eqv_ii, Bool.eq_iff_iff]
  obtain ⟨a1, a2⟩ := a
  obtain ⟨b1, b2⟩ := b
  simp
theorem eqvs_encSs (a b : List Stg) : eqvs (a.map encSt) (b.map encSt) = decide (a = b) := eqvs_map eqv_encSt a b
theorem eq_ok (st st' : List Stg) (ps ps' : List Int) : F_Ride_eq [made st ps, made st' ps'] = .ok (.bl (decide (st = st') && decide (ps = ps'))) := by
  simp [F_Ride_eq, b_Ride_eq, okF_stages, okF_paces, fget, eqD, eqv_tt, eqvs_cc, eqvs_encSs, eqvs_ints]
  rw [show eqvs [] [] = true from rfl, Bool.and_true]
theorem eq_tup (st : List Stg) (ps : List Int) (ds : List D) : F_Ride_eq [made st ps, .tup ds] = .ok (.bl false) := by
  simp [F_Ride_eq, b_Ride_eq]
theorem miles_ok (st : List Stg) (ps : List Int) : F_Ride_miles [made st ps] = .ok (.int (st.map (·.1)).sum) := by
  have e : lcS (bName 1) [1] tYesJ Ride_miles_e1 (st.map encSt) [] [.sh (made st ps), .no] = .ok (.lst (st.map fun s => D.int s.1)) [.sh (made st ps), .no] := lcS_map _ fun s _ => by
    simp [lcS, wipeE, rst, Ride_miles_e1, encSt]
  have e2 : st.map (fun s => D.int s.1) = (st.map (·.1)).map D.int := by rw [List.map_map]; rfl
  rw [e2] at e
  simp [F_Ride_miles, b_Ride_miles, okF_stages, fget, noOw, e, sumD_ints, -List.map_map]
theorem cms {a b : Int} (h : -100000 ≤ b ∧ b ≤ 100000) : CMul a b := .inr ⟨by omega, by omega⟩

/-! ### minutes -/
def runM (ps cs : List Int) : List Stg → Nat → Int → Nat → Option (Int × Nat)
  | [], _, t, r => some (t, r)
  | s :: l, i, t, r =>
    if (i : Int) ∈ cs then (match ps[0]? with
      | some p => runM ps cs l (i + 1) (t + s.2 + s.1 * p) 1
      | none => none)
    else (match ps[r]? with
      | some p => runM ps cs l (i + 1) (t + s.1 * p) (r + 1)
      | none => none)
abbrev MB : BF := bTup 2 (bCons (bName 3) (bCons (bTup 2 (bCons (bName 6) (bCons (bName 7) bNil))) bNil))
def encE (p : Stg × Nat) : D := .tup [.int (p.2 : Nat), encSt p.1]
theorem enum_st (l : List Stg) : enumL (l.map encSt) = (l.zipIdx 0).map encE := enumL_map encSt l
theorem min_loop (st : List Stg) (ps cs : List Int) (hps : ∀ p ∈ ps, OkP p) : ∀ (l : List Stg) (i : Nat) (t : Int) (r : Nat) (x2 x3 x6 x7 : Sl), match runM ps cs l i t r with
    | some (t', r') => ∃ a b c, forS MB Ride_minutes_b2 ((l.zipIdx i).map encE) [.sh (made st ps), .sh (.tup (cs.map D.int)), x2, x3, .sh (.int t), .sh (.int r), x6, x7] = .ok .nx [.sh (made st ps), .sh (.tup (cs.map D.int)), x2, a, .sh (.int t'), .sh (.int (r' : Nat)), b, c]
    | none => ∃ ρ', forS MB Ride_minutes_b2 ((l.zipIdx i).map encE) [.sh (made st ps), .sh (.tup (cs.map D.int)), x2, x3, .sh (.int t), .sh (.int r), x6, x7] = .ex 3 [4, 3] [.tup [], .str "tired"] ρ'
  | [], i, t, r, x2, x3, x6, x7 => ⟨x3, x6, x7, rfl⟩
  | s :: l, i, t, r, x2, x3, x6, x7 => by
    rw [List.zipIdx_cons, List.map_cons, forS_cons, runM]
    have hin := inX_tints false cs i
    by_cases hc : (i : Int) ∈ cs
    · rw [if_pos hc]
      cases hp : ps[0]? with
      | none =>
        have hl : ps.length = 0 := by rw [List.getElem?_eq_none_iff] at hp; omega
        refine ⟨[.sh (made st ps), .sh (.tup (cs.map D.int)), x2, .sh (.int i), .sh (.int (t + s.2)), .sh (.int 0), .sh (.int s.1), .sh (.int s.2)], ?_⟩
        simp [encE, encSt, Ride_minutes_b2, hin, hc, okF_paces, fget, hl]
      | some p =>
        have hl : 0 < ps.length := (List.getElem?_eq_some_iff.mp hp).1
        have hok := hps p (List.mem_of_getElem? hp)
        have hm : CMul s.1 p := cms ⟨by have := hok.1; omega, by have := hok.2; omega⟩
        have hl2 : ¬ ((ps.length : Int) ≤ 0) := by omega
        have hne : ps ≠ [] := by rintro rfl; cases hp
        have ih := min_loop st ps cs hps l (i + 1) (t + s.2 + s.1 * p) 1 x2 (.sh (.int i)) (.sh (.int s.1)) (.sh (.int s.2))
        have e1 : Ride_minutes_b2 [.sh (made st ps), .sh (.tup (cs.map D.int)), x2, .sh (.int i), .sh (.int t), .sh (.int r), .sh (.int s.1), .sh (.int s.2)] = .ok .nx [.sh (made st ps), .sh (.tup (cs.map D.int)), x2, .sh (.int i), .sh (.int (t + s.2 + s.1 * p)), .sh (.int 1), .sh (.int s.1), .sh (.int s.2)] := by
          simp [Ride_minutes_b2, hin, hc, okF_paces, fget, hl2, hp, hm, hne]
        simp only [encE, encSt, e_bTup, e_bCons, e_bName, e_bNil, List.length_cons, List.length_nil, if_pos, Option.bind_some, List.set_cons_succ, List.set_cons_zero, e1, Rs.sq_nx]
        exact ih
    · rw [if_neg hc]
      cases hp : ps[r]? with
      | none =>
        have hl : ps.length ≤ r := by rwa [List.getElem?_eq_none_iff] at hp
        refine ⟨[.sh (made st ps), .sh (.tup (cs.map D.int)), x2, .sh (.int i), .sh (.int t), .sh (.int r), .sh (.int s.1), .sh (.int s.2)], ?_⟩
        simp [encE, encSt, Ride_minutes_b2, hin, hc, okF_paces, fget, hl]
      | some p =>
        have hl : r < ps.length := (List.getElem?_eq_some_iff.mp hp).1
        have hok := hps p (List.mem_of_getElem? hp)
        have hm : CMul s.1 p := cms ⟨by have := hok.1; omega, by have := hok.2; omega⟩
        have hl2 : ¬ (ps.length ≤ r) := by omega
        have ha : L2.atI (ps.map D.int) (r : Int) = some (.int p) := by rw [atI_nat', List.getElem?_map, hp]; rfl
        have ih := min_loop st ps cs hps l (i + 1) (t + s.1 * p) (r + 1) x2 (.sh (.int i)) (.sh (.int s.1)) (.sh (.int s.2))
        have e1 : Ride_minutes_b2 [.sh (made st ps), .sh (.tup (cs.map D.int)), x2, .sh (.int i), .sh (.int t), .sh (.int r), .sh (.int s.1), .sh (.int s.2)] = .ok .nx [.sh (made st ps), .sh (.tup (cs.map D.int)), x2, .sh (.int i), .sh (.int (t + s.1 * p)), .sh (.int (r + 1 : Nat)), .sh (.int s.1), .sh (.int s.2)] := by
          simp [Ride_minutes_b2, hin, hc, okF_paces, fget, hl2, ha, hm]
        simp only [encE, encSt, e_bTup, e_bCons, e_bName, e_bNil, List.length_cons, List.length_nil, if_pos, Option.bind_some, List.set_cons_succ, List.set_cons_zero, e1, Rs.sq_nx]
        exact ih
/-- changes that may be told -/
def ChOk (n : Nat) (cs : List Int) : Prop := (∀ c ∈ cs, 1 ≤ c ∧ c ≤ (n : Int) - 1) ∧ cs.Pairwise (· < ·)
theorem chk_loop (st : List Stg) (ps cs : List Int) (h : ChOk st.length cs) : ∀ (k : Nat) (l : List Int) (i : Nat) (x2 x3 x4 x5 x6 x7 : Sl), k = l.length → l = cs.drop i → ∃ a b, forS (bTup 2 (bCons (bName 2) (bCons (bName 3) bNil))) (Ride_minutes_b1 F_is_number) ((l.zipIdx i).map fun p => D.tup [.int (p.2 : Nat), .int p.1]) [.sh (made st ps), .sh (.tup (cs.map D.int)), x2, x3, x4, x5, x6, x7] = .ok .nx [.sh (made st ps), .sh (.tup (cs.map D.int)), a, b, x4, x5, x6, x7]
  | _, [], i, x2, x3, x4, x5, x6, x7, _, _ => ⟨x2, x3, rfl⟩
  | 0, _ :: _, _, _, _, _, _, _, _, hk, _ => by cases hk
  | k + 1, c :: l, i, x2, x3, x4, x5, x6, x7, hk, hd => by
    have hi : cs[i]? = some c := by
      have z : (cs.drop i)[0]? = some c := by rw [← hd]; rfl
      simpa using z
    have hl : l = cs.drop (i + 1) := by
      have z : l = (cs.drop i).drop 1 := by rw [← hd]; rfl
      simpa using z
    have hc := h.1 c (List.mem_of_getElem? hi)
    have hn := isNumber_ok (.int c) 1 ((st.length : Int) - 1) rfl
    simp [hc] at hn
    obtain ⟨a, b, e⟩ := chk_loop st ps cs h k l (i + 1) (.sh (.int i)) (.sh (.int c)) x4 x5 x6 x7 (by simpa using hk) hl
    rw [List.zipIdx_cons, List.map_cons, forS_cons]
    have e1 : Ride_minutes_b1 F_is_number [.sh (made st ps), .sh (.tup (cs.map D.int)), .sh (.int i), .sh (.int c), x4, x5, x6, x7] = .ok .nx [.sh (made st ps), .sh (.tup (cs.map D.int)), .sh (.int i), .sh (.int c), x4, x5, x6, x7] := by
      cases i with
      | zero => simp [Ride_minutes_b1, e_number, okF_stages, fget, hn]
      | succ j =>
        have hj : j < cs.length := by have := (List.getElem?_eq_some_iff.mp hi).1; omega
        have hlt : cs[j] < c := by
          have z := List.pairwise_iff_getElem.mp h.2 j (j + 1) hj (List.getElem?_eq_some_iff.mp hi).1 (by omega)
          rwa [(List.getElem?_eq_some_iff.mp hi).2] at z
        have ha : L2.atI (cs.map D.int) (j : Int) = some (.int cs[j]) := by rw [atI_nat', List.getElem?_map, List.getElem?_eq_getElem hj]; rfl
        have h0 : (0 : Int) < (j : Int) + 1 := by omega
        have h1 : ¬ (c ≤ cs[j]) := by omega
        simp [Ride_minutes_b1, e_number, okF_stages, fget, hn, h0, ha, h1, show ((j : Int) + 1 - 1) = j by omega]
    simp only [e_bTup, e_bCons, e_bName, e_bNil, List.length_cons, List.length_nil, if_pos, Option.bind_some, List.set_cons_succ, List.set_cons_zero, e1, Rs.sq_nx]
    exact ⟨a, b, e⟩
def minR (o : Option (Int × Nat)) : Rv := match o with
  | some (t, _) => .ok (.int t)
  | none => .ex 3 [4, 3] [.tup [], .str "tired"]
theorem minutes_ok (st : List Stg) (ps cs : List Int) (hps : ∀ p ∈ ps, OkP p) (h : ChOk st.length cs) : F_Ride_minutes [made st ps, .tup (cs.map D.int)] = minR (runM ps cs st 0 0 0) := by
  obtain ⟨a, b, e1⟩ := chk_loop st ps cs h _ cs 0 .no .no .no .no .no .no rfl rfl
  have e2 := min_loop st ps cs hps st 0 0 0 a b .no .no
  have en : enumL (cs.map D.int) = (cs.zipIdx 0).map fun p => D.tup [.int (p.2 : Nat), .int p.1] := enumL_map D.int cs
  cases hr : runM ps cs st 0 0 0 with
  | none =>
    rw [hr] at e2
    obtain ⟨ρ', e2⟩ := e2
    simp at e2
    simp [F_Ride_minutes, b_Ride_minutes, Ride_minutes_s1, Ride_minutes_s2, Ride_minutes_s3, Ride_minutes_s4, en, e1, okF_stages, fget, enum_st, e2, minR]
  | some q =>
    rw [hr] at e2
    obtain ⟨a, b, c, e2⟩ := e2
    simp at e2
    simp [F_Ride_minutes, b_Ride_minutes, Ride_minutes_s1, Ride_minutes_s2, Ride_minutes_s3, Ride_minutes_s4, en, e1, okF_stages, fget, enum_st, e2, minR]
abbrev LB : BF := bTup 2 (bCons (bName 5) (bCons (bTup 2 (bCons (bName 6) (bCons (bName 7) bNil))) bNil))
theorem law_loop (st : List Stg) (ps cs : List Int) (hps : ∀ p ∈ ps, OkP p) : ∀ (l : List Stg) (i : Nat) (t : Int) (r : Nat) (x5 x6 x7 : Sl), r ≤ i → match runM ps cs l i t r with
    | some (t', r') => ∃ g a b c, forS LB _law_minutes_b1 ((l.zipIdx i).map encE) [.sh (encSs st), .sh (encPs ps), .sh (.tup (cs.map D.int)), .sh (.int t), .sh (.int ((i - r : Nat) : Int)), x5, x6, x7] = .ok .nx [.sh (encSs st), .sh (encPs ps), .sh (.tup (cs.map D.int)), .sh (.int t'), g, a, b, c]
    | none => ∃ ρ', forS LB _law_minutes_b1 ((l.zipIdx i).map encE) [.sh (encSs st), .sh (encPs ps), .sh (.tup (cs.map D.int)), .sh (.int t), .sh (.int ((i - r : Nat) : Int)), x5, x6, x7] = .ok (.rt .non) ρ'
  | [], i, t, r, x5, x6, x7, _ => ⟨_, x5, x6, x7, rfl⟩
  | s :: l, i, t, r, x5, x6, x7, hri => by
    rw [List.zipIdx_cons, List.map_cons, forS_cons, runM]
    have hin := inX_tints false cs i
    by_cases hc : (i : Int) ∈ cs
    · rw [if_pos hc]
      cases hp : ps[0]? with
      | none =>
        have hl : ps = [] := by rw [List.getElem?_eq_none_iff] at hp; exact List.length_eq_zero_iff.mp (by omega)
        refine ⟨[.sh (encSs st), .sh (encPs ps), .sh (.tup (cs.map D.int)), .sh (.int t), .sh (.int i), .sh (.int i), .sh (.int s.1), .sh (.int s.2)], ?_⟩
        simp [encE, encSt, _law_minutes_b1, hin, hc, hl]
      | some p =>
        have hl : 0 < ps.length := (List.getElem?_eq_some_iff.mp hp).1
        have hok := hps p (List.mem_of_getElem? hp)
        have hm : CMul s.1 p := cms ⟨by have := hok.1; omega, by have := hok.2; omega⟩
        have hm2 : CMul s.2 1 := cms ⟨by omega, by omega⟩
        have hl2 : ¬ ((ps.length : Int) ≤ 0) := by omega
        have hne : ps ≠ [] := by rintro rfl; cases hp
        have ih := law_loop st ps cs hps l (i + 1) (t + s.2 + s.1 * p) 1 (.sh (.int i)) (.sh (.int s.1)) (.sh (.int s.2)) (by omega)
        rw [Nat.add_sub_cancel] at ih
        have e1 : _law_minutes_b1 [.sh (encSs st), .sh (encPs ps), .sh (.tup (cs.map D.int)), .sh (.int t), .sh (.int ((i - r : Nat) : Int)), .sh (.int i), .sh (.int s.1), .sh (.int s.2)] = .ok .nx [.sh (encSs st), .sh (encPs ps), .sh (.tup (cs.map D.int)), .sh (.int (t + s.2 + s.1 * p)), .sh (.int (i : Nat)), .sh (.int i), .sh (.int s.1), .sh (.int s.2)] := by
          simp [_law_minutes_b1, hin, hc, hl2, hp, hm, hm2, hne]
          omega
        simp only [encE, encSt, e_bTup, e_bCons, e_bName, e_bNil, List.length_cons, List.length_nil, if_pos, Option.bind_some, List.set_cons_succ, List.set_cons_zero, e1, Rs.sq_nx]
        exact ih
    · rw [if_neg hc]
      have hsub : (i : Int) - ((i - r : Nat) : Int) = (r : Nat) := by omega
      cases hp : ps[r]? with
      | none =>
        have hl : ps.length ≤ r := by rwa [List.getElem?_eq_none_iff] at hp
        refine ⟨[.sh (encSs st), .sh (encPs ps), .sh (.tup (cs.map D.int)), .sh (.int t), .sh (.int ((i - r : Nat) : Int)), .sh (.int i), .sh (.int s.1), .sh (.int s.2)], ?_⟩
        simp [encE, encSt, _law_minutes_b1, hin, hc, hl, hsub]
      | some p =>
        have hl : r < ps.length := (List.getElem?_eq_some_iff.mp hp).1
        have hok := hps p (List.mem_of_getElem? hp)
        have hm : CMul s.1 p := cms ⟨by have := hok.1; omega, by have := hok.2; omega⟩
        have hm2 : CMul s.2 0 := cms ⟨by omega, by omega⟩
        have hl2 : ¬ (ps.length ≤ r) := by omega
        have ha : L2.atI (ps.map D.int) (r : Int) = some (.int p) := by rw [atI_nat', List.getElem?_map, hp]; rfl
        have ih := law_loop st ps cs hps l (i + 1) (t + s.1 * p) (r + 1) (.sh (.int i)) (.sh (.int s.1)) (.sh (.int s.2)) (by omega)
        rw [show i + 1 - (r + 1) = i - r by omega] at ih
        have e1 : _law_minutes_b1 [.sh (encSs st), .sh (encPs ps), .sh (.tup (cs.map D.int)), .sh (.int t), .sh (.int ((i - r : Nat) : Int)), .sh (.int i), .sh (.int s.1), .sh (.int s.2)] = .ok .nx [.sh (encSs st), .sh (encPs ps), .sh (.tup (cs.map D.int)), .sh (.int (t + s.1 * p)), .sh (.int ((i - r : Nat) : Int)), .sh (.int i), .sh (.int s.1), .sh (.int s.2)] := by
          simp [_law_minutes_b1, hin, hc, hl2, ha, hm, hm2, hsub]
        simp only [encE, encSt, e_bTup, e_bCons, e_bName, e_bNil, List.length_cons, List.length_nil, if_pos, Option.bind_some, List.set_cons_succ, List.set_cons_zero, e1, Rs.sq_nx]
        exact ih
def minL' (o : Option (Int × Nat)) : D := match o with
  | some (t, _) => .int t
  | none => .non
theorem lmin_ok (st : List Stg) (ps cs : List Int) (hps : ∀ p ∈ ps, OkP p) : F__law_minutes [encSs st, encPs ps, .tup (cs.map D.int)] = .ok (minL' (runM ps cs st 0 0 0)) := by
  have e2 := law_loop st ps cs hps st 0 0 0 .no .no .no (Nat.le_refl _)
  cases hr : runM ps cs st 0 0 0 with
  | none =>
    rw [hr] at e2
    obtain ⟨ρ', e2⟩ := e2
    simp at e2
    simp [F__law_minutes, b__law_minutes, _law_minutes_s1, _law_minutes_s2, _law_minutes_s3, enum_st, e2, minL']
  | some q =>
    rw [hr] at e2
    obtain ⟨g, a, b, c, e2⟩ := e2
    simp at e2
    simp [F__law_minutes, b__law_minutes, _law_minutes_s1, _law_minutes_s2, _law_minutes_s3, enum_st, e2, minL']
end K20

set_option Elab.async false
set_option linter.all false
set_option maxRecDepth 100000
set_option maxHeartbeats 4000000
namespace K20
open PySem PySem.Spec PyProof.Rows L2 J
/-! ### rows -/
def bnd (n : Nat) (cs : List Int) : List Int := [0] ++ cs ++ [(n : Int)]
def bAt (n : Nat) (cs : List Int) (i : Nat) : Int := (bnd n cs).getD i 0
def gaps (n : Nat) (cs : List Int) : List Int := (List.range (cs.length + 1)).map fun i => bAt n cs (i + 1) - bAt n cs i
theorem bnd_len (n : Nat) (cs : List Int) : (bnd n cs).length = cs.length + 2 := by simp [bnd]
theorem bnd_at (n : Nat) (cs : List Int) (i : Nat) (h : i < cs.length + 2) : L2.atI ((bnd n cs).map D.int) (i : Int) = some (.int (bAt n cs i)) := by
  unfold bAt
  rw [atI_nat', List.getElem?_map, List.getD_eq_getElem?_getD, List.getElem?_eq_getElem (by rw [bnd_len]; exact h)]
  rfl
theorem bnd_D (n : Nat) (cs : List Int) (h : cs.length ≤ 1000) : ((addD (.lst [.int 0]) (.lst (cs.map D.int))).bind fun d => addD d (.lst [.int n])) = some (.lst ((bnd n cs).map D.int)) := by
  rw [add_ll _ _ (by simp; omega), Option.bind_some, add_ll _ _ (by simp; omega)]
  simp [bnd]
theorem add1 (cs : List Int) (h : cs.length ≤ 1000) : addD (.lst [.int 0]) (.lst (cs.map D.int)) = some (.lst (.int 0 :: cs.map D.int)) := add_ll _ _ (by simp; omega)
theorem add2 (n : Nat) (cs : List Int) (h : cs.length ≤ 1000) : addD (.lst (.int 0 :: cs.map D.int)) (.lst [.int n]) = some (.lst ((bnd n cs).map D.int)) := by
  rw [add_ll _ _ (by simp; omega)]
  simp [bnd]
theorem rngB (cs : List Int) (n : Nat) (h : cs.length ≤ 1000) : rng1 [.int (((bnd n cs).map D.int).length - 1 : Int)] = some ((List.range (cs.length + 1)).map fun i => .int (i : Nat)) := by
  rw [show ((((bnd n cs).map D.int).length : Int) - 1) = ((cs.length + 1 : Nat) : Int) by rw [List.length_map, bnd_len]; omega]
  exact rng1_nat (cs.length + 1) (by omega)
theorem canbe_ok (st : List Stg) (ps cs : List Int) (h : cs.length ≤ 1000) : F_Ride_can_be [made st ps, .tup (cs.map D.int)] = .ok (.bl ((gaps st.length cs).all fun g => decide (g ≤ (ps.length : Int)))) := by
  have hr := rngB cs st.length h
  have e : ∀ x, lcS (bName 3) [3] tYesJ Ride_can_be_e1 ((List.range (cs.length + 1)).map fun i => D.int (i : Nat)) [] [.sh (made st ps), .sh (.tup (cs.map D.int)), .sh (.lst ((bnd st.length cs).map D.int)), x] = .ok (.lst ((List.range (cs.length + 1)).map fun i => D.bl (decide (bAt st.length cs (i + 1) - bAt st.length cs i ≤ (ps.length : Int))))) [.sh (made st ps), .sh (.tup (cs.map D.int)), .sh (.lst ((bnd st.length cs).map D.int)), x] := fun x => lcS_map _ fun i hi => by
    have hi := List.mem_range.mp hi
    have a1 := bnd_at st.length cs (i + 1) (by omega)
    have a2 := bnd_at st.length cs i (by omega)
    rw [show ((i + 1 : Nat) : Int) = (i : Int) + 1 by omega] at a1
    simp [lcS, wipeE, rst, Ride_can_be_e1, okF_paces, fget, a1, a2]
  have ha : allD (.lst ((List.range (cs.length + 1)).map fun i => D.bl (decide (bAt st.length cs (i + 1) - bAt st.length cs i ≤ (ps.length : Int))))) = some (.bl ((gaps st.length cs).all fun g => decide (g ≤ (ps.length : Int)))) := by
    have hb : ∀ l : List Bool, blsD (l.map D.bl) = some l := fun l => by
      induction l with
      | nil => rfl
      | cons b l ih => simp [blsD, ih]
    have e2 : ((List.range (cs.length + 1)).map fun i => D.bl (decide (bAt st.length cs (i + 1) - bAt st.length cs i ≤ (ps.length : Int)))) = ((gaps st.length cs).map fun g => decide (g ≤ (ps.length : Int))).map D.bl := by
      unfold gaps
      rw [List.map_map, List.map_map]
      rfl
    rw [e2]
    simp only [allD, onL, hb]
    show some (D.bl (List.all _ _root_.id)) = _
    rw [List.all_map]
    rfl
  simp only [List.length_map] at hr
  have e' := e .no
  simp [F_Ride_can_be, b_Ride_can_be, okF_stages, fget, add1 cs h, add2 st.length cs h, hr, noOw, e', ha]
def okR (p : Nat) (cs : List Int) : Nat → Nat → Nat → Bool
  | 0, _, _ => true
  | k + 1, i, r => if (i : Int) ∈ cs then decide (0 < p) && okR p cs k (i + 1) 1 else decide (r < p) && okR p cs k (i + 1) (r + 1)
theorem runM_ok (ps cs : List Int) : ∀ (l : List Stg) (i : Nat) (t : Int) (r : Nat), (runM ps cs l i t r).isSome = okR ps.length cs l.length i r
  | [], _, _, _ => rfl
  | s :: l, i, t, r => by
    rw [runM, List.length_cons, okR]
    by_cases hc : (i : Int) ∈ cs
    · rw [if_pos hc, if_pos hc]
      cases hp : ps[0]? with
      | none =>
        rw [List.getElem?_eq_none_iff] at hp
        simp [show ¬ 0 < ps.length by omega]
      | some p =>
        have hl : 0 < ps.length := (List.getElem?_eq_some_iff.mp hp).1
        simp [hl, runM_ok ps cs l]
    · rw [if_neg hc, if_neg hc]
      cases hp : ps[r]? with
      | none =>
        rw [List.getElem?_eq_none_iff] at hp
        simp [show ¬ r < ps.length by omega]
      | some p =>
        have hl : r < ps.length := (List.getElem?_eq_some_iff.mp hp).1
        simp [hl, runM_ok ps cs l]
/-- all rows of changes, the small ones first -/
def rowsC (n : Nat) : List (List Int) := (sizedL (n - 1)).map fun l => l.map fun k => ((k : Nat) : Int) + 1
theorem fin_all {n p : Nat} (hn : n ≤ 6) (hp : 1 ≤ p ∧ p ≤ 3) {Q : Nat → Nat → Bool} (h : ((List.range 7).all fun n => (List.range 3).all fun p => Q n (p + 1)) = true) : Q n p = true := by
  have h1 := List.all_eq_true.mp h n (List.mem_range.mpr (by omega))
  have h2 := List.all_eq_true.mp h1 (p - 1) (List.mem_range.mpr (by omega))
  rwa [show p - 1 + 1 = p by omega] at h2
theorem gaps_fin {n p : Nat} (hn : n ≤ 6) (hp : 1 ≤ p ∧ p ≤ 3) : ∀ cs ∈ rowsC n, ((gaps n cs).all fun g => decide (g ≤ (p : Int))) = okR p cs n 0 0 := by
  have := fin_all (Q := fun n p => (rowsC n).all fun cs => decide (((gaps n cs).all fun g => decide (g ≤ (p : Int))) = okR p cs n 0 0)) hn hp (by decide +kernel)
  exact fun cs hc => of_decide_eq_true (List.all_eq_true.mp this cs hc)
theorem rows_fin {n : Nat} (hn : n ≤ 6) : ∀ cs ∈ rowsC n, ChOk n cs ∧ cs.length ≤ 5 := by
  have h : ((List.range 7).all fun n => (rowsC n).all fun cs => (cs.all fun c => decide (1 ≤ c) && decide (c ≤ (n : Int) - 1)) && decide (cs.Pairwise (· < ·)) && decide (cs.length ≤ 5)) = true := by decide +kernel
  have h1 := List.all_eq_true.mp h n (List.mem_range.mpr (by omega))
  intro cs hc
  have h2 := List.all_eq_true.mp h1 cs hc
  simp only [Bool.and_eq_true, decide_eq_true_eq] at h2
  refine ⟨⟨fun c hcc => ?_, h2.1.2⟩, h2.2⟩
  have := List.all_eq_true.mp h2.1.1 c hcc
  simpa using this
def encI (cs : List Int) : D := .tup (cs.map D.int)
theorem subs_ok (n : Nat) (hn : n ≤ 6) : F_subsets [.lst (rangeL 1 (n - 1))] = .ok (.lst ((rowsC n).map encI)) := by
  rcases (by omega : n = 0 ∨ n = 1 ∨ n = 2 ∨ n = 3 ∨ n = 4 ∨ n = 5 ∨ n = 6) with rfl | rfl | rfl | rfl | rfl | rfl | rfl
  all_goals kernel_rfl
def goodC (st : List Stg) (ps : List Int) : List (List Int) := (rowsC st.length).filter fun cs => (runM ps cs st 0 0 0).isSome
theorem rg1n (n : Nat) (hn : n ≤ 6) : rgD (.int 1) (.int (n : Nat)) = some (.lst (rangeL 1 (n - 1))) := by
  rcases (by omega : n = 0 ∨ n = 1 ∨ n = 2 ∨ n = 3 ∨ n = 4 ∨ n = 5 ∨ n = 6) with rfl | rfl | rfl | rfl | rfl | rfl | rfl
  all_goals rfl
theorem rowsC_len {n : Nat} (hn : n ≤ 6) : (rowsC n).length ≤ 100 := by
  have h : ((List.range 7).all fun n => decide ((rowsC n).length ≤ 100)) = true := by decide +kernel
  exact of_decide_eq_true (List.all_eq_true.mp h n (List.mem_range.mpr (by omega)))
theorem rows_loop (st : List Stg) (ps : List Int) (hn : st.length ≤ 6) (hp : 1 ≤ ps.length ∧ ps.length ≤ 3) : ∃ y : Sl, forS (bName 2) (Ride_rows_b1 F_Ride_can_be) ((rowsC st.length).map encI) [.sh (made st ps), .ow (.lst []), .no] = .ok .nx [.sh (made st ps), .ow (.lst ((goodC st ps).map encI)), y] := by
  have L := forS_filter (b := bName 2) (body := Ride_rows_b1 F_Ride_can_be) (e := encI) (fun cs => (runM ps cs st 0 0 0).isSome) encI (fun acc (x : Sl) => [.sh (made st ps), .ow (.lst acc), x]) 100 (l := rowsC st.length) (acc := []) (x := .no) (by
      rw [List.length_nil, Nat.zero_add]; exact rowsC_len hn) (by
      intro cs hc acc x hs
      have h1 := rows_fin hn cs hc
      have h2 := canbe_ok st ps cs (by omega)
      rw [gaps_fin hn hp cs hc, ← runM_ok ps cs st 0 0 0] at h2
      have ha := appD_ok acc (.tup (cs.map D.int)) (by omega)
      refine ⟨.sh (encI cs), ?_⟩
      cases hk : (runM ps cs st 0 0 0).isSome <;> rw [hk] at h2 <;> simp [forS_cons, Ride_rows_b1, encI, h2, ha])
  exact L
theorem rows_x (F : FV) (g : D → D → Option D) (st : List Stg) (ps : List Int) (y : Sl) (X : D) (R G : List D) (L : forS (bName 2) (Ride_rows_b1 F_Ride_can_be) R [.sh (made st ps), .ow (.lst []), .no] = .ok .nx [.sh (made st ps), .ow (.lst G), y])
   (h1 : g (.int 1) (.int (st.length : Nat)) = some X) (h2 : F [X] = .ok (.lst R)) :
   fnV 2 (sCons (sSetO 1 (eSeq .lst aNil)) (sCons (sFor (iSeq (eCall F [] (aCons (rVal (f2 g (rVal (eC (.int 1))) (rVal (eCallB (on1 lenD) (aCons (rVal (eFld 5 okF_stages (rVar 0))) aNil))))) aNil))) (bName 2)
  (Ride_rows_b1 F_Ride_can_be)) (sRet (eCallB (on1 tupD) (aCons (rVar 1) aNil))))) [made st ps] = .ok (.tup G) := by
  simp [okF_stages, fget, h1, h2, L]
theorem rows_ok (st : List Stg) (ps : List Int) (hn : st.length ≤ 6) (hp : 1 ≤ ps.length ∧ ps.length ≤ 3) : F_Ride_rows [made st ps] = .ok (.tup ((goodC st ps).map encI)) := by
  obtain ⟨y, L⟩ := rows_loop st ps hn hp
  exact rows_x F_subsets rgD st ps y _ _ _ L (rg1n st.length hn) (subs_ok st.length hn)
/-! ### the law's own -/
def toldC (st : List Stg) (ps cs : List Int) : D := minL' (runM ps cs st 0 0 0)
theorem sized_rows (n : Nat) (hn : n ≤ 6) : sizedF [.int (if (1 : Int) < (n : Int) then (n : Int) - 1 else 0)] = .ok (.lst ((sizedL (n - 1)).map natL)) := by
  have := sized_ok (n - 1) (by omega)
  rw [show (if (1 : Int) < (n : Int) then (n : Int) - 1 else 0) = ((n - 1 : Nat) : Int) by split <;> omega]
  exact this
theorem plus_one (l : List Nat) : ((l.map fun k => D.int ((k : Nat) : Int)).map fun d => d) = l.map fun k => .int (k : Nat) := List.map_id _
theorem lrows_ok (st : List Stg) (ps : List Int) (hn : st.length ≤ 6) (hps : ∀ p ∈ ps, OkP p) : F__law_rows [encSs st, encPs ps] = .ok (.lst ((goodC st ps).map fun cs => .tup [encI cs, toldC st ps cs])) := by
  have e1 : ∀ (l : List Nat) (x : Sl), lcS (bName 4) [4] tYesJ _law_rows_e1 (l.map fun k => D.int (k : Nat)) [] [.sh (encSs st), .sh (encPs ps), .no, .sh (natL l), .no] = .ok (.lst (l.map fun k => D.int (((k : Nat) : Int) + 1))) [.sh (encSs st), .sh (encPs ps), .no, .sh (natL l), .no] := fun l x => lcS_map _ fun k _ => by
    simp [lcS, wipeE, rst, _law_rows_e1]
  have e2 : lcS (bName 3) [3] tYesJ _law_rows_e2 ((sizedL (st.length - 1)).map natL) [] [.sh (encSs st), .sh (encPs ps), .no, .no, .no] = .ok (.lst ((sizedL (st.length - 1)).map fun l => encI (l.map fun k => ((k : Nat) : Int) + 1))) [.sh (encSs st), .sh (encPs ps), .no, .no, .no] := lcS_map _ fun l _ => by
    have := e1 l .no
    simp [natL] at this
    simp [lcS, wipeE, rst, _law_rows_e2, noOw, natL, this, encI]
  have e3 : lcS (bName 3) [3] (_law_rows_t1 F__law_minutes) (_law_rows_e3 F__law_minutes) ((rowsC st.length).map encI) [] [.sh (encSs st), .sh (encPs ps), .sh (.lst ((rowsC st.length).map encI)), .no, .no] = .ok (.lst ((goodC st ps).map fun cs => .tup [encI cs, toldC st ps cs])) [.sh (encSs st), .sh (encPs ps), .sh (.lst ((rowsC st.length).map encI)), .no, .no] := by
    refine lcS_filter (fun cs => (runM ps cs st 0 0 0).isSome) (fun cs => .tup [encI cs, toldC st ps cs]) fun cs hc => ?_
    have h := lmin_ok st ps cs hps
    cases hk : runM ps cs st 0 0 0 with
    | none =>
      rw [hk] at h
      simp [minL'] at h
      simp [lcS, wipeE, rst, _law_rows_t1, encI, h, notNonD]
    | some q =>
      rw [hk] at h
      simp [minL'] at h
      simp [lcS, wipeE, rst, _law_rows_t1, _law_rows_e3, encI, h, notNonD, toldC, hk, minL']
  have e4 : (sizedL (st.length - 1)).map (fun l => encI (l.map fun k => ((k : Nat) : Int) + 1)) = (rowsC st.length).map encI := by
    unfold rowsC
    rw [List.map_map]
    rfl
  rw [e4] at e2
  have h1 := sized_rows st.length hn
  simp [F__law_rows, b__law_rows, e_sized, max2D, h1, noOw, e2, e3]
end K20

set_option Elab.async false
set_option linter.all false
set_option maxRecDepth 100000
set_option maxHeartbeats 4000000
namespace K20
open PySem PySem.Spec PyProof.Rows L2 J
/-- the minutes of a row of changes -/
def tv (st : List Stg) (ps cs : List Int) : Int := match runM ps cs st 0 0 0 with
  | some (t, _) => t
  | none => 0
theorem told_good {st : List Stg} {ps cs : List Int} (h : cs ∈ goodC st ps) : toldC st ps cs = .int (tv st ps cs) := by
  have h2 := (List.mem_filter.mp h).2
  unfold toldC tv
  cases hr : runM ps cs st 0 0 0 with
  | none => rw [hr] at h2; cases h2
  | some q => rfl
def bestRes (st : List Stg) (ps : List Int) (o : Option (List Int)) : D := match o with
  | some m => .tup [.int (tv st ps m), encI m]
  | none => .non
def bestC (st : List Stg) (ps : List Int) (most : Int) : Option (List Int) := pickR (tv st ps) ((goodC st ps).filter fun cs => decide ((cs.length : Int) ≤ most))
def keyD (st : List Stg) (ps : List Int) (p : List Int × Nat) : D := .tup [.int (tv st ps p.1), .int (p.2 : Nat), encI p.1]
theorem keyD_ord (st : List Stg) (ps : List Int) (P : List (List Int × Nat)) : ordOk (P.map (keyD st ps)) = true := by
  refine ordOk_of (okEs_map (fun p => by simp [keyD, encI]) P) (fun x hx y hy => ?_) (fun x hx => ?_)
  · obtain ⟨p, _, rfl⟩ := List.mem_map.mp hx
    obtain ⟨q, _, rfl⟩ := List.mem_map.mp hy
    show (true && (true && (likeEs _ _ && true))) = true
    rw [likeEs_ints]; rfl
  · obtain ⟨p, _, rfl⟩ := List.mem_map.mp hx
    intro z; cases z
theorem keyD_lt (st : List Stg) (ps : List Int) (p q : List Int × Nat) (h : tv st ps q.1 < tv st ps p.1 ∨ (tv st ps q.1 = tv st ps p.1 ∧ (p = q ∨ q.2 < p.2))) : ltE (keyD st ps p) (keyD st ps q) = false := by
  unfold keyD
  rw [ltE_tt, ltEs_i]
  rcases h with h | ⟨h, rfl | h2⟩
  · rw [if_neg (by omega)]; simp; omega
  · rw [if_pos rfl, ltEs_i, if_pos rfl, ltEs_cc]
    have e1 : eqv (encI p.1) (encI p.1) = true := by
      show eqvs _ _ = true
      rw [eqvs_ints]; simp
    rw [if_pos e1, ltEs_nil]
  · rw [if_pos h.symm, ltEs_i, if_neg (by omega)]; simp; omega
theorem keyD_gt (st : List Stg) (ps : List Int) (p q : List Int × Nat) (h : tv st ps q.1 < tv st ps p.1 ∨ (tv st ps q.1 = tv st ps p.1 ∧ q.2 < p.2)) : ltE (keyD st ps q) (keyD st ps p) = true := by
  unfold keyD
  rw [ltE_tt, ltEs_i]
  rcases h with h | ⟨h, h2⟩
  · rw [if_neg (by omega)]; simp [h]
  · rw [if_pos h, ltEs_i, if_neg (by omega)]; simp [h2]
theorem zip_pair (l : List (List Int)) (k : Nat) : (l.zipIdx k).Pairwise fun a b => a.2 < b.2 := by
  induction l generalizing k with
  | nil => exact List.Pairwise.nil
  | cons a l ih =>
    rw [List.zipIdx_cons]
    refine List.pairwise_cons.mpr ⟨fun p hp => ?_, ih (k + 1)⟩
    have := List.le_snd_of_mem_zipIdx hp
    omega
theorem lbest_ok (st : List Stg) (ps : List Int) (most : Int) (hn : st.length ≤ 6) (hps : ∀ p ∈ ps, OkP p) : F__law_best [encSs st, encPs ps, .int most] = .ok (bestRes st ps (bestC st ps most)) := by
  have hrr := lrows_ok st ps hn hps
  have en : enumL ((goodC st ps).map fun cs => D.tup [encI cs, toldC st ps cs]) = ((goodC st ps).zipIdx 0).map fun p => .tup [.int (p.2 : Nat), .tup [encI p.1, toldC st ps p.1]] := enumL_map _ _
  let P := ((goodC st ps).zipIdx 0).filter fun p => decide ((p.1.length : Int) ≤ most)
  have e1 : lcS (bTup 2 (bCons (bName 4) (bCons (bTup 2 (bCons (bName 5) (bCons (bName 6) bNil))) bNil))) [4, 5, 6] _law_best_t1 _law_best_e1 (((goodC st ps).zipIdx 0).map fun p => .tup [.int (p.2 : Nat), .tup [encI p.1, toldC st ps p.1]]) [] [.sh (encSs st), .sh (encPs ps), .sh (.int most), .no, .no, .no, .no, .no] = .ok (.lst (P.map (keyD st ps))) [.sh (encSs st), .sh (encPs ps), .sh (.int most), .no, .no, .no, .no, .no] := by
    refine lcS_filter (fun p => decide ((p.1.length : Int) ≤ most)) (keyD st ps) fun p hp => ?_
    have ht := told_good (List.fst_mem_of_mem_zipIdx hp)
    by_cases hc : (p.1.length : Int) ≤ most <;> simp [lcS, wipeE, rst, _law_best_t1, _law_best_e1, encI, hc, ht, keyD]
  have ho := keyD_ord st ps P
  have hs : sortable (P.map (keyD st ps)) = true := by
    unfold sortable
    rw [Bool.or_eq_true]
    refine .inl (List.all_eq_true.mpr fun d hd => ?_)
    obtain ⟨p, _, rfl⟩ := List.mem_map.mp hd
    rfl
  have hl : (P.map (keyD st ps)).length ≤ 1000000 := by
    rw [List.length_map]
    have h1 : P.length ≤ _ := List.length_filter_le _ _
    rw [List.length_zipIdx] at h1
    have h2 : (goodC st ps).length ≤ (rowsC st.length).length := List.length_filter_le _ _
    have h3 := rowsC_len hn
    omega
  have hsd : sortedD (.lst (P.map (keyD st ps))) = some (.lst (sortE (P.map (keyD st ps)))) := by
    show (if _ then _ else _) = _
    rw [if_pos ⟨ho, hs, hl⟩]
  have hP : P.map (fun p => p.1) = (goodC st ps).filter fun cs => decide ((cs.length : Int) ≤ most) := by
    have : P.map Prod.fst = (((goodC st ps).zipIdx 0).map Prod.fst).filter fun cs => decide ((cs.length : Int) ≤ most) := by
      rw [List.filter_map]; rfl
    rw [List.zipIdx_map_fst] at this
    exact this
  have hb : bestC st ps most = (pickR (fun p : List Int × Nat => tv st ps p.1) P).map (fun p => p.1) := by
    unfold bestC
    rw [← hP, pickR_map]
  cases hk : pickR (fun p : List Int × Nat => tv st ps p.1) P with
  | none =>
    have hn0 : P = [] := pickR_none hk
    have hS : sortE (P.map (keyD st ps)) = [] := by rw [hn0]; simp [sortE]
    rw [hS] at hsd
    rw [hb, hk]
    have hc : ∀ ρ, lcS (bName 7) [7] tYesJ _law_best_e2 [] [] ρ = .ok (.lst []) ρ := fun ρ => rfl
    have ha := add_ll [] [.non] (by simp)
    have hct : cutL ([] : List D) none (some 1) = [] := cut_to [] 1
    generalize hPm : P.map (keyD st ps) = Pm at e1 hsd
    simp [F__law_best, b__law_best, hrr, en, noOw, e1, hsd, hct, hc, ha, bestRes]
  | some m =>
    obtain ⟨mm, hm⟩ := pickR_min ((zip_pair (goodC st ps) 0).sublist List.filter_sublist) hk
    obtain ⟨r, hr⟩ := sortE_head (m := keyD st ps m) ho (List.mem_map_of_mem mm) (fun x hx => by
      obtain ⟨p, hp, rfl⟩ := List.mem_map.mp hx
      exact keyD_lt st ps p m (hm p hp)) fun x hx h1 h2 => by
        obtain ⟨p, hp, rfl⟩ := List.mem_map.mp hx
        rcases hm p hp with q | ⟨q, rfl | q2⟩
        · rw [keyD_gt st ps p m (.inl q)] at h2; cases h2
        · rfl
        · rw [keyD_gt st ps p m (.inr ⟨q, q2⟩)] at h2; cases h2
    rw [hr] at hsd
    rw [hb, hk]
    have hc : ∀ a b c d e f h i, lcS (bName 7) [7] tYesJ _law_best_e2 [keyD st ps m] [] [a, b, c, d, e, f, h, i] = .ok (.lst [.tup [.int (tv st ps m.1), encI m.1]]) [a, b, c, d, e, f, h, i] := fun a b c d e f h i => by
      simp [lcS, wipeE, rst, _law_best_e2, keyD]
    have ha := add_ll [.tup [.int (tv st ps m.1), encI m.1]] [.non] (by simp)
    have hct := cut_to (keyD st ps m :: r) 1
    generalize hPm : P.map (keyD st ps) = Pm at e1 hsd
    simp at hct
    simp [F__law_best, b__law_best, hrr, en, noOw, e1, hsd, hct, hc, ha, bestRes]
theorem min_good {st : List Stg} {ps cs : List Int} (hn : st.length ≤ 6) (hps : ∀ p ∈ ps, OkP p) (h : cs ∈ goodC st ps) : F_Ride_minutes [made st ps, encI cs] = .ok (.int (tv st ps cs)) := by
  have h1 := rows_fin hn cs (List.mem_filter.mp h).1
  have h2 := minutes_ok st ps cs hps h1.1
  have hg := (List.mem_filter.mp h).2
  unfold tv
  cases hq : runM ps cs st 0 0 0 with
  | none => rw [hq] at hg; cases hg
  | some q =>
    rw [hq] at h2
    exact h2
/-- best_with -/
theorem bestwith_x (FR FM : FV) (st : List Stg) (ps : List Int) (most : Int) (hr : FR [made st ps] = .ok (.tup ((goodC st ps).map encI))) (hM : ∀ cs ∈ goodC st ps, FM [made st ps, encI cs] = .ok (.int (tv st ps cs))) : fnV 3 (b_Ride_best_with FR FM) [made st ps, .int most] = .ok (bestRes st ps (bestC st ps most)) := by
  have L := forS_fold (b := bName 3) (body := Ride_best_with_b1 FM) (e := encI) (l := goodC st ps) (s := (none : Option (List Int))) (ρ := [.sh (made st ps), .sh (.int most), .sh .non, .no, .no])
    (fun s ρ => ∃ x y, ρ = [.sh (made st ps), .sh (.int most), .sh (bestRes st ps s), x, y]) (fun s cs => if (cs.length : Int) ≤ most then pickS (tv st ps) s cs else s) (by
      rintro cs hc s ρ ⟨x, y, rfl⟩
      have h2 := hM cs hc
      unfold encI at h2
      by_cases hm : (cs.length : Int) ≤ most
      · cases s with
        | none =>
          refine ⟨[.sh (made st ps), .sh (.int most), .sh (bestRes st ps (some cs)), .sh (encI cs), .sh (.int (tv st ps cs))], ?_, .sh (encI cs), .sh (.int (tv st ps cs)), ?_⟩
          · simp [forS_cons, Ride_best_with_b1, encI, hm, h2, bestRes, isNonD]
          · simp [hm, pickS]
        | some m =>
          by_cases hlt : tv st ps cs < tv st ps m
          · refine ⟨[.sh (made st ps), .sh (.int most), .sh (bestRes st ps (some cs)), .sh (encI cs), .sh (.int (tv st ps cs))], ?_, .sh (encI cs), .sh (.int (tv st ps cs)), ?_⟩
            · simp [forS_cons, Ride_best_with_b1, encI, hm, h2, bestRes, isNonD, hlt]
            · simp [hm, pickS, hlt]
          · refine ⟨[.sh (made st ps), .sh (.int most), .sh (bestRes st ps (some m)), .sh (encI cs), .sh (.int (tv st ps cs))], ?_, .sh (encI cs), .sh (.int (tv st ps cs)), ?_⟩
            · simp [forS_cons, Ride_best_with_b1, encI, hm, h2, bestRes, isNonD, hlt]
            · simp [hm, pickS, hlt]
      · refine ⟨[.sh (made st ps), .sh (.int most), .sh (bestRes st ps s), .sh (encI cs), y], ?_, .sh (encI cs), y, ?_⟩
        · simp [forS_cons, Ride_best_with_b1, encI, hm]
        · simp [hm]) ⟨.no, .no, rfl⟩
  obtain ⟨ρ', e, x, y, rfl⟩ := L
  have hf : ∀ (l : List (List Int)) (s : Option (List Int)), l.foldl (fun s cs => if (cs.length : Int) ≤ most then pickS (tv st ps) s cs else s) s = (l.filter fun cs => decide ((cs.length : Int) ≤ most)).foldl (pickS (tv st ps)) s := by
    intro l
    induction l with
    | nil => intro s; rfl
    | cons a l ih =>
      intro s
      rw [List.foldl_cons, ih]
      by_cases hm : (a.length : Int) ≤ most
      · rw [if_pos hm, List.filter_cons_of_pos (by simpa using hm), List.foldl_cons]
      · rw [if_neg hm, List.filter_cons_of_neg (by simpa using hm)]
  rw [hf, pickS_none] at e
  simp [b_Ride_best_with, Ride_best_with_s1, Ride_best_with_s2, Ride_best_with_s3, hr, e, bestC]
theorem bestwith_ok (st : List Stg) (ps : List Int) (most : Int) (hn : st.length ≤ 6) (hps : ∀ p ∈ ps, OkP p) (hp : 1 ≤ ps.length ∧ ps.length ≤ 3) : F_Ride_best_with [made st ps, .int most] = .ok (bestRes st ps (bestC st ps most)) :=
  bestwith_x F_Ride_rows F_Ride_minutes st ps most (rows_ok st ps hn hp) fun cs hc => min_good hn hps hc
end K20

set_option Elab.async false
set_option linter.all false
set_option maxRecDepth 100000
set_option maxHeartbeats 4000000
namespace K20
open PySem PySem.Spec PyProof.Rows L2 J
/-! ### the order of told things -/
abbrev K3 := Int × Nat × List Int
def enc3 (q : K3) : D := .tup [.int q.1, .int (q.2.1 : Nat), encI q.2.2]
def ltL (a b : List Int) : Bool := ltEs (a.map D.int) (b.map D.int)
theorem ltL_cc (x y : Int) (a b : List Int) : ltL (x :: a) (y :: b) = if x = y then ltL a b else decide (x < y) := ltEs_i x y _ _
theorem ltL_nil (a : List Int) : ltL a [] = false := ltEs_nil _
theorem ltL_cons (x : Int) (a : List Int) : ltL [] (x :: a) = true := rfl
theorem leL_trans : ∀ {a b c : List Int}, ltL b a = false → ltL c b = false → ltL c a = false
  | [], _, c, _, _ => ltL_nil c
  | x :: a, [], _, h, _ => by rw [ltL_cons] at h; cases h
  | x :: a, y :: b, [], _, h => by rw [ltL_cons] at h; cases h
  | x :: a, y :: b, z :: c, h1, h2 => by
    rw [ltL_cc] at h1 h2 ⊢
    by_cases hyx : y = x
    · subst hyx
      rw [if_pos rfl] at h1
      by_cases hzy : z = y
      · subst hzy
        rw [if_pos rfl] at h2 ⊢
        exact leL_trans h1 h2
      · rw [if_neg hzy] at h2 ⊢; exact h2
    · rw [if_neg hyx] at h1
      have h1 := of_decide_eq_false h1
      by_cases hzy : z = y
      · subst hzy
        rw [if_neg hyx]
        simpa using h1
      · rw [if_neg hzy] at h2
        have h2 := of_decide_eq_false h2
        rw [if_neg (by omega)]
        simp; omega
theorem leL_anti : ∀ {a b : List Int}, ltL a b = false → ltL b a = false → a = b
  | [], [], _, _ => rfl
  | [], y :: b, h, _ => by rw [ltL_cons] at h; cases h
  | x :: a, [], _, h => by rw [ltL_cons] at h; cases h
  | x :: a, y :: b, h1, h2 => by
    rw [ltL_cc] at h1 h2
    by_cases hxy : x = y
    · subst hxy
      rw [if_pos rfl] at h1 h2
      rw [leL_anti h1 h2]
    · rw [if_neg hxy] at h1
      rw [if_neg (Ne.symm hxy)] at h2
      have h1 := of_decide_eq_false h1
      have h2 := of_decide_eq_false h2
      omega
theorem ltL_self (a : List Int) : ltL a a = false := ltEs_ints_self a
theorem leL_snoc (i : Int) : ∀ {a b : List Int}, a.length = b.length → ltL b a = false → ltL (b ++ [i]) (a ++ [i]) = false
  | [], [], _, _ => ltL_self [i]
  | [], _ :: _, h, _ => by cases h
  | _ :: _, [], h, _ => by cases h
  | x :: a, y :: b, hl, h => by
    rw [List.cons_append, List.cons_append, ltL_cc]
    rw [ltL_cc] at h
    by_cases hyx : y = x
    · rw [if_pos hyx] at h ⊢
      exact leL_snoc i (by simpa using hl) h
    · rw [if_neg hyx] at h ⊢; exact h
def lt3 (a b : K3) : Bool := ltE (enc3 a) (enc3 b)
theorem lt3_def (a b : K3) : lt3 a b = if a.1 = b.1 then (if a.2.1 = b.2.1 then ltL a.2.2 b.2.2 else decide (a.2.1 < b.2.1)) else decide (a.1 < b.1) := by
  unfold lt3 enc3
  rw [ltE_tt, ltEs_i, ltEs_i, ltEs_cc]
  have e1 : eqv (encI a.2.2) (encI b.2.2) = decide (a.2.2 = b.2.2) := eqvs_ints _ _
  have e2 : ltE (encI a.2.2) (encI b.2.2) = ltL a.2.2 b.2.2 := rfl
  have e3 : (if decide (a.2.2 = b.2.2) = true then ltEs [] [] else ltL a.2.2 b.2.2) = ltL a.2.2 b.2.2 := by
    by_cases h : a.2.2 = b.2.2
    · rw [if_pos (by simpa using h), h, ltL_self, ltEs_nil]
    · rw [if_neg (by simpa using h)]
  rw [e1, e2, e3]
  by_cases h : a.2.1 = b.2.1
  · rw [if_pos h, if_pos (by omega : ((a.2.1 : Nat) : Int) = (b.2.1 : Nat))]
  · rw [if_neg h, if_neg (by omega : ¬ ((a.2.1 : Nat) : Int) = (b.2.1 : Nat))]
    have : decide (((a.2.1 : Nat) : Int) < (b.2.1 : Nat)) = decide (a.2.1 < b.2.1) := by rw [Bool.eq_iff_iff]; simp
    rw [this]
/-- at most as great -/
def le3 (a b : K3) : Prop := lt3 b a = false
theorem le3_iff (a b : K3) : le3 a b ↔ a.1 < b.1 ∨ (a.1 = b.1 ∧ (a.2.1 < b.2.1 ∨ (a.2.1 = b.2.1 ∧ ltL b.2.2 a.2.2 = false))) := by
  unfold le3
  rw [lt3_def]
  by_cases h1 : b.1 = a.1
  · rw [if_pos h1]
    by_cases h2 : b.2.1 = a.2.1
    · rw [if_pos h2]
      constructor
      · intro h; exact .inr ⟨h1.symm, .inr ⟨h2.symm, h⟩⟩
      · rintro (h | ⟨_, h | ⟨_, h⟩⟩)
        · omega
        · omega
        · exact h
    · rw [if_neg h2]
      simp
      constructor
      · intro h; exact .inr ⟨h1.symm, .inl (by omega)⟩
      · rintro (h | ⟨_, h | ⟨h, _⟩⟩) <;> omega
  · rw [if_neg h1]
    simp
    constructor
    · intro h; exact .inl (by omega)
    · rintro (h | ⟨h, _⟩) <;> omega
theorem le3_refl (a : K3) : le3 a a := (le3_iff a a).mpr (.inr ⟨rfl, .inr ⟨rfl, ltL_self _⟩⟩)
theorem le3_trans {a b c : K3} (h1 : le3 a b) (h2 : le3 b c) : le3 a c := by
  rw [le3_iff] at h1 h2 ⊢
  rcases h1 with h1 | ⟨e1, h1⟩
  · rcases h2 with h2 | ⟨e2, _⟩
    · exact .inl (by omega)
    · exact .inl (by omega)
  · rcases h2 with h2 | ⟨e2, h2⟩
    · exact .inl (by omega)
    · refine .inr ⟨by omega, ?_⟩
      rcases h1 with h1 | ⟨f1, h1⟩
      · rcases h2 with h2 | ⟨f2, _⟩
        · exact .inl (by omega)
        · exact .inl (by omega)
      · rcases h2 with h2 | ⟨f2, h2⟩
        · exact .inl (by omega)
        · exact .inr ⟨by omega, leL_trans h1 h2⟩
theorem le3_anti {a b : K3} (h1 : le3 a b) (h2 : le3 b a) : a = b := by
  rw [le3_iff] at h1 h2
  obtain ⟨a1, a2, a3⟩ := a
  obtain ⟨b1, b2, b3⟩ := b
  dsimp only at h1 h2
  have e1 : a1 = b1 := by rcases h1 with h1 | ⟨h1, _⟩ <;> rcases h2 with h2 | ⟨h2, _⟩ <;> omega
  have e2 : a2 = b2 := by rcases h1 with h1 | ⟨_, h1 | ⟨h1, _⟩⟩ <;> rcases h2 with h2 | ⟨_, h2 | ⟨h2, _⟩⟩ <;> omega
  subst e1 e2
  rcases h1 with h1 | ⟨_, h1 | ⟨_, h1⟩⟩
  · omega
  · omega
  · rcases h2 with h2 | ⟨_, h2 | ⟨_, h2⟩⟩
    · omega
    · omega
    · rw [leL_anti h2 h1]
theorem le3_of_lt {a b : K3} (h : lt3 a b = true) : le3 a b := by
  rw [le3_iff]
  rw [lt3_def] at h
  split at h
  · rename_i e
    split at h
    · rename_i e2
      refine .inr ⟨e, .inr ⟨e2, ?_⟩⟩
      cases hb : ltL b.2.2 a.2.2 with
      | false => rfl
      | true =>
        exfalso
        have asym : ∀ {x y : List Int}, ltL x y = true → ltL y x = true → False := by
          intro x
          induction x with
          | nil => intro y _ h; rw [ltL_nil] at h; cases h
          | cons p x ih =>
            intro y h1 h2
            cases y with
            | nil => rw [ltL_nil] at h1; cases h1
            | cons q y =>
              rw [ltL_cc] at h1 h2
              by_cases hpq : p = q
              · rw [if_pos hpq] at h1
                rw [if_pos hpq.symm] at h2
                exact ih h1 h2
              · rw [if_neg hpq] at h1
                rw [if_neg (Ne.symm hpq)] at h2
                have h1 := of_decide_eq_true h1
                have h2 := of_decide_eq_true h2
                omega
        exact asym h hb
    · exact .inr ⟨e, .inl (of_decide_eq_true h)⟩
  · exact .inl (of_decide_eq_true h)
def min3 (a b : K3) : K3 := if lt3 b a = true then b else a
theorem min3_le (a b : K3) : le3 (min3 a b) a ∧ le3 (min3 a b) b := by
  unfold min3
  split
  · rename_i h; exact ⟨le3_of_lt h, le3_refl b⟩
  · rename_i h; exact ⟨le3_refl a, by unfold le3; simpa using h⟩
theorem min3_or (a b : K3) : min3 a b = a ∨ min3 a b = b := by
  unfold min3
  split
  · exact .inr rfl
  · exact .inl rfl
theorem ord3 (l : List K3) : ordOk (l.map enc3) = true := by
  refine ordOk_of (okEs_map (fun p => by simp [enc3, encI]) l) (fun x hx y hy => ?_) (fun x hx => ?_)
  · obtain ⟨p, _, rfl⟩ := List.mem_map.mp hx
    obtain ⟨q, _, rfl⟩ := List.mem_map.mp hy
    show (true && (true && (likeEs _ _ && true))) = true
    rw [likeEs_ints]; rfl
  · obtain ⟨p, _, rfl⟩ := List.mem_map.mp hx
    intro z; cases z
theorem min2X_3 (a b : K3) : min2X (enc3 a) (enc3 b) = some (enc3 (min3 a b)) := by
  show (if _ then _ else _) = _
  rw [if_pos ⟨rfl, rfl, ord3 [a, b]⟩]
  show some (if ltE (enc3 b) (enc3 a) = true then enc3 b else enc3 a) = _
  unfold min3 lt3
  split <;> rfl
theorem minX_3 (a : K3) (l : List K3) : ∃ m, minX (.lst ((a :: l).map enc3)) = some (enc3 m) ∧ m ∈ a :: l ∧ ∀ x ∈ a :: l, le3 m x := by
  have e : minX (.lst ((a :: l).map enc3)) = some (leastE (enc3 a) (l.map enc3)) := by
    have h1 : minD (.lst ((a :: l).map enc3)) = none := rfl
    have h2 : ordL (.lst ((a :: l).map enc3)) = some (enc3 a, l.map enc3) := by
      show (if _ then _ else _) = _
      rw [← List.map_cons, if_pos (ord3 (a :: l))]
    show (match minD (.lst ((a :: l).map enc3)) with
      | some c => some c
      | none => minG (.lst ((a :: l).map enc3))) = _
    rw [h1]
    show (ordL _).map _ = _
    rw [h2]; rfl
  have key : ∀ (l : List K3) (a : K3), ∃ m, leastE (enc3 a) (l.map enc3) = enc3 m ∧ m ∈ a :: l ∧ ∀ x ∈ a :: l, le3 m x := by
    intro l
    induction l with
    | nil => intro a; exact ⟨a, rfl, List.mem_cons_self, fun x hx => by rw [List.mem_singleton.mp hx]; exact le3_refl a⟩
    | cons b l ih =>
      intro a
      obtain ⟨m, e1, hm, hl⟩ := ih (min3 a b)
      refine ⟨m, ?_, ?_, fun x hx => ?_⟩
      · rw [← e1]
        show (l.map enc3).foldl _ (if ltE (enc3 b) (enc3 a) = true then enc3 b else enc3 a) = _
        unfold leastE min3 lt3
        split <;> rfl
      · rcases List.mem_cons.mp hm with q | q
        · rcases min3_or a b with z | z
          · rw [q, z]; exact List.mem_cons_self
          · rw [q, z]; exact List.mem_cons_of_mem _ List.mem_cons_self
        · exact List.mem_cons_of_mem _ (List.mem_cons_of_mem _ q)
      · have h0 := hl _ List.mem_cons_self
        rcases List.mem_cons.mp hx with rfl | hx
        · exact le3_trans h0 (min3_le _ b).1
        · rcases List.mem_cons.mp hx with rfl | hx
          · exact le3_trans h0 (min3_le a _).2
          · exact hl x (List.mem_cons_of_mem _ hx)
  obtain ⟨m, e1, h1, h2⟩ := key l a
  exact ⟨m, by rw [e, e1], h1, h2⟩
end K20

set_option Elab.async false
set_option linter.all false
set_option maxRecDepth 100000
set_option maxHeartbeats 4000000
namespace K20
open PySem PySem.Spec PyProof.Rows L2 J
/-! ### the table of best() -/
abbrev Tb := List (Nat × K3)
def getT : Tb → Nat → Option K3
  | [], _ => none
  | (k, v) :: l, r => if k = r then some v else getT l r
def setT : Tb → Nat → K3 → Tb
  | [], r, v => [(r, v)]
  | (k, w) :: l, r, v => if k = r then (k, v) :: l else (k, w) :: setT l r v
def ksT (T : Tb) : List D := T.map fun p => .int (p.1 : Nat)
def vsT (T : Tb) : List D := T.map fun p => enc3 p.2
theorem sameK_nat (a b : Nat) : sameK (.int (a : Nat)) (.int (b : Nat)) = decide (a = b) := by
  show decide _ = _
  rw [Bool.eq_iff_iff]
  simp only [decide_eq_true_eq]
  omega
theorem look_T (r : Nat) : ∀ T : Tb, dLook (.int (r : Nat)) (ksT T) (vsT T) = (getT T r).map enc3
  | [] => rfl
  | (k, v) :: l => by
    show (if sameK (.int (k : Nat)) (.int (r : Nat)) = true then some (enc3 v) else dLook _ (ksT l) (vsT l)) = Option.map enc3 (if k = r then some v else getT l r)
    rw [sameK_nat, look_T r l]
    by_cases h : k = r <;> simp [h]
theorem putK_T (r : Nat) (v : K3) : ∀ T : Tb, dPutK (.int (r : Nat)) (ksT T) = ksT (setT T r v)
  | [] => rfl
  | (k, w) :: l => by
    show (if sameK (.int (k : Nat)) (.int (r : Nat)) = true then D.int (k : Nat) :: ksT l else D.int (k : Nat) :: dPutK _ (ksT l)) = ksT (if k = r then (k, v) :: l else (k, w) :: setT l r v)
    rw [sameK_nat, putK_T r v l]
    by_cases h : k = r
    · rw [if_pos (by simpa using h), if_pos h]; rfl
    · rw [if_neg (by simpa using h), if_neg h]; rfl
theorem putV_T (r : Nat) (v : K3) : ∀ T : Tb, dPutV (.int (r : Nat)) (enc3 v) (ksT T) (vsT T) = vsT (setT T r v)
  | [] => rfl
  | (k, w) :: l => by
    show (if sameK (.int (k : Nat)) (.int (r : Nat)) = true then enc3 v :: vsT l else enc3 w :: dPutV _ _ (ksT l) (vsT l)) = vsT (if k = r then (k, v) :: l else (k, w) :: setT l r v)
    rw [sameK_nat, putV_T r v l]
    by_cases h : k = r
    · rw [if_pos (by simpa using h), if_pos h]; rfl
    · rw [if_neg (by simpa using h), if_neg h]; rfl
theorem pairs_T : ∀ T : Tb, dPairs (ksT T) (vsT T) = T.map fun p => .tup [.int (p.1 : Nat), enc3 p.2]
  | [] => rfl
  | (k, w) :: l => by
    show D.tup [.int (k : Nat), enc3 w] :: dPairs (ksT l) (vsT l) = _
    rw [pairs_T l]; rfl
theorem setT_len (r : Nat) (v : K3) : ∀ T : Tb, (setT T r v).length ≤ T.length + 1
  | [] => Nat.le_refl _
  | (k, w) :: l => by
    rw [setT]
    split
    · simp
    · have := setT_len r v l
      simp; omega
def putM (T : Tb) (r : Nat) (K : K3) : Tb := setT T r (min3 ((getT T r).getD K) K)
theorem getT_mem : ∀ {T : Tb} {r : Nat} {v : K3}, getT T r = some v → (r, v) ∈ T
  | (k, w) :: l, r, v, h => by
    rw [getT] at h
    split at h
    · rename_i e; cases h; subst e; exact List.mem_cons_self
    · exact List.mem_cons_of_mem _ (getT_mem h)
theorem setT_mem : ∀ {T : Tb} {r : Nat} {v : K3} {x : Nat × K3}, x ∈ setT T r v → x ∈ T ∨ x = (r, v)
  | [], r, v, x, h => .inr (List.mem_singleton.mp h)
  | (k, w) :: l, r, v, x, h => by
    rw [setT] at h
    split at h
    · rename_i e
      rcases List.mem_cons.mp h with q | q
      · exact .inr (by rw [q, e])
      · exact .inl (List.mem_cons_of_mem _ q)
    · rcases List.mem_cons.mp h with q | q
      · exact .inl (by rw [q]; exact List.mem_cons_self)
      · rcases setT_mem q with z | z
        · exact .inl (List.mem_cons_of_mem _ z)
        · exact .inr z
theorem setT_new : ∀ (T : Tb) (r : Nat) (v : K3), (r, v) ∈ setT T r v
  | [], r, v => List.mem_cons_self
  | (k, w) :: l, r, v => by
    rw [setT]
    split
    · rename_i e; subst e; exact List.mem_cons_self
    · exact List.mem_cons_of_mem _ (setT_new l r v)
theorem putM_mem {T : Tb} {r : Nat} {K : K3} {x : Nat × K3} (h : x ∈ putM T r K) : x ∈ T ∨ x = (r, K) := by
  rcases setT_mem h with q | q
  · exact .inl q
  · cases e : getT T r with
    | none =>
      rw [e] at q
      rcases min3_or K K with z | z <;> (simp only [Option.getD_none] at q; rw [z] at q; exact .inr q)
    | some w =>
      rw [e] at q
      simp only [Option.getD_some] at q
      rcases min3_or w K with z | z
      · rw [z] at q; rw [q]; exact .inl (getT_mem e)
      · rw [z] at q; exact .inr q
theorem putM_new (T : Tb) (r : Nat) (K : K3) : ∃ v, (r, v) ∈ putM T r K ∧ le3 v K := ⟨_, setT_new T r _, (min3_le _ _).2⟩
theorem setT_keep {r : Nat} {v : K3} : ∀ {T : Tb} {k : Nat} {w : K3}, (k, w) ∈ T → (∀ u, getT T r = some u → le3 v u) → ∃ w', (k, w') ∈ setT T r v ∧ le3 w' w
  | (k0, w0) :: l, k, w, h, hv => by
    rw [setT]
    by_cases e : k0 = r
    · rw [if_pos e]
      rcases List.mem_cons.mp h with q | q
      · cases q
        exact ⟨v, List.mem_cons_self, hv _ (by rw [getT, if_pos e])⟩
      · exact ⟨w, List.mem_cons_of_mem _ q, le3_refl w⟩
    · rw [if_neg e]
      rcases List.mem_cons.mp h with q | q
      · cases q
        exact ⟨w0, List.mem_cons_self, le3_refl w0⟩
      · obtain ⟨w', h1, h2⟩ := setT_keep q fun u hu => hv u (by rw [getT, if_neg e]; exact hu)
        exact ⟨w', List.mem_cons_of_mem _ h1, h2⟩
theorem putM_keep {T : Tb} {r k : Nat} {K w : K3} (h : (k, w) ∈ T) : ∃ w', (k, w') ∈ putM T r K ∧ le3 w' w :=
  setT_keep h fun u hu => by rw [hu]; exact (min3_le _ _).1
/-- one entry of the old table -/
def step1 (ps : List Int) (i : Nat) (s : Stg) (T : Tb) (x : Nat × K3) : Tb := if x.1 < ps.length then putM T (x.1 + 1) (x.2.1 + s.1 * ps.getD x.1 0, x.2.2.1, x.2.2.2) else T
def step2 (ps : List Int) (i : Nat) (s : Stg) (T : Tb) (x : Nat × K3) : Tb := if 0 < i then putM T 1 (x.2.1 + s.2 + s.1 * ps.getD 0 0, x.2.2.1 + 1, x.2.2.2 ++ [(i : Int)]) else T
def stepT (ps : List Int) (i : Nat) (s : Stg) (T : Tb) (x : Nat × K3) : Tb := step2 ps i s (step1 ps i s T x) x
theorem stepT_len (ps : List Int) (i : Nat) (s : Stg) (T : Tb) (x : Nat × K3) : (stepT ps i s T x).length ≤ T.length + 2 := by
  have h1 : (step1 ps i s T x).length ≤ T.length + 1 := by
    unfold step1
    split
    · exact setT_len _ _ _
    · omega
  have h2 : ∀ U : Tb, (step2 ps i s U x).length ≤ U.length + 1 := fun U => by
    unfold step2
    split
    · exact setT_len _ _ _
    · omega
  have := h2 (step1 ps i s T x)
  unfold stepT
  omega
abbrev IB : BF := bTup 2 (bCons (bName 9) (bCons (bName 10) bNil))
abbrev Ei (st : List Stg) (ps : List Int) (x1 : Sl) (i : Nat) (T : Tb) (x4 x5 x6 : Sl) (s : Stg) (x9 x10 x11 : Sl) : En := [.sh (made st ps), x1, .sh (.int (i : Nat)), .ow (.dct (ksT T) (vsT T)), x4, x5, x6, .sh (.int s.1), .sh (.int s.2), x9, x10, x11]
theorem inner (st : List Stg) (ps : List Int) (hps : ∀ p ∈ ps, OkP p) (h0 : ps ≠ []) (i : Nat) (s : Stg) (x1 x4 x5 x6 : Sl) : ∀ (l : Tb) (T : Tb) (x9 x10 x11 : Sl), T.length + 2 * l.length ≤ 100000 → (∀ x ∈ l, x.2.2.2.length ≤ 1000) →
    ∃ a b c, forS IB Ride_best_b1 (l.map fun p => .tup [.int (p.1 : Nat), enc3 p.2]) (Ei st ps x1 i T x4 x5 x6 s x9 x10 x11) = .ok .nx (Ei st ps x1 i (l.foldl (stepT ps i s) T) x4 x5 x6 s a b c)
  | [], T, x9, x10, x11, _, _ => ⟨x9, x10, x11, rfl⟩
  | (r, K) :: l, T, x9, x10, x11, hT, hl => by
    simp only [List.length_cons] at hT
    have hK : K.2.2.length ≤ 1000 := hl _ List.mem_cons_self
    have hT1 : (step1 ps i s T (r, K)).length ≤ T.length + 1 := by
      unfold step1
      split
      · exact setT_len _ _ _
      · omega
    have e1 : ∃ c, sIf (tB (f2 ltD (rVar 9) (rVal (eCallB (on1 lenD) (aCons (rVal (eFld 6 okF_paces (rVar 0))) aNil))))) (sCons (sSet 11 (eSeq .tup (aCons (rVal (f2 addD (rVal (f2 ixD (rVar 10) (rVal (eC (.int 0))))) (rVal (f2 mulD (rVar 7) (rVal (f2 ixD (rVal (eFld 6 okF_paces (rVar 0))) (rVar 9))))))) (aCons (rVal (f2 ixD (rVar 10) (rVal (eC (.int 1))))) (aCons (rVal (f2 ixD (rVar 10) (rVal (eC (.int 2))))) aNil)))))
  (sPutD 3 (eCallB (on2 min2X) (aCons (rVal (eGet2 (rVar 3) (f2 addD (rVar 9) (rVal (eC (.int 1)))) (eVar 11))) (aCons (rVar 11) aNil))) (f2 addD (rVar 9) (rVal (eC (.int 1)))))) sNil (Ei st ps x1 i T x4 x5 x6 s (.sh (.int (r : Nat))) (.sh (enc3 K)) x11) = .ok .nx (Ei st ps x1 i (step1 ps i s T (r, K)) x4 x5 x6 s (.sh (.int (r : Nat))) (.sh (enc3 K)) c) := by
      by_cases hr : r < ps.length
      · have hok := hps ps[r] (List.getElem_mem hr)
        have ha : L2.atI (ps.map D.int) (r : Int) = some (.int (ps.getD r 0)) := by rw [atI_nat', List.getElem?_map, List.getElem?_eq_getElem hr, List.getD_eq_getElem?_getD, List.getElem?_eq_getElem hr]; rfl
        have hm : CMul s.1 (ps.getD r 0) := by
          rw [List.getD_eq_getElem?_getD, List.getElem?_eq_getElem hr]
          exact cms ⟨by have := hok.1; show -100000 ≤ ps[r]; omega, by have := hok.2; show ps[r] ≤ 100000; omega⟩
        refine ⟨.sh (enc3 (K.1 + s.1 * ps.getD r 0, K.2.1, K.2.2)), ?_⟩
        have h1 := look_T (r + 1) T
        have h2 := putK_T (r + 1) (min3 ((getT T (r + 1)).getD (K.1 + s.1 * ps.getD r 0, K.2.1, K.2.2)) (K.1 + s.1 * ps.getD r 0, K.2.1, K.2.2)) T
        have h3 := putV_T (r + 1) (min3 ((getT T (r + 1)).getD (K.1 + s.1 * ps.getD r 0, K.2.1, K.2.2)) (K.1 + s.1 * ps.getD r 0, K.2.1, K.2.2)) T
        have h4 := min2X_3 ((getT T (r + 1)).getD (K.1 + s.1 * ps.getD r 0, K.2.1, K.2.2)) (K.1 + s.1 * ps.getD r 0, K.2.1, K.2.2)
        have h5 : (ksT T).length < 1000000 := by unfold ksT; rw [List.length_map]; omega
        have h6 : ((getT T (r + 1)).map enc3).getD (enc3 (K.1 + s.1 * ps.getD r 0, K.2.1, K.2.2)) = enc3 ((getT T (r + 1)).getD (K.1 + s.1 * ps.getD r 0, K.2.1, K.2.2)) := by cases getT T (r + 1) <;> rfl
        rw [show ((r + 1 : Nat) : Int) = (r : Int) + 1 by omega] at h1 h2 h3
        have hs1 : step1 ps i s T (r, K) = setT T (r + 1) (min3 ((getT T (r + 1)).getD (K.1 + s.1 * ps.getD r 0, K.2.1, K.2.2)) (K.1 + s.1 * ps.getD r 0, K.2.1, K.2.2)) := if_pos hr
        rw [hs1]
        generalize min3 ((getT T (r + 1)).getD (K.1 + s.1 * ps.getD r 0, K.2.1, K.2.2)) (K.1 + s.1 * ps.getD r 0, K.2.1, K.2.2) = W at h2 h3 h4 ⊢
        generalize ps.getD r 0 = q at ha hm h1 h4 h6 ⊢
        have hlt : ((r : Int) < (ps.length : Int)) := by omega
        have e0 : L2.atI [D.int K.1, D.int (K.2.1 : Nat), encI K.2.2] 0 = some (.int K.1) := rfl
        have h6' := h6
        rw [← h1] at h6'
        generalize (getT T (r + 1)).getD (K.1 + s.1 * q, K.2.1, K.2.2) = V at h4 h6'
        have hrow : enc3 (K.1 + s.1 * q, K.2.1, K.2.2) = .tup [.int (K.1 + s.1 * q), .int (K.2.1 : Nat), encI K.2.2] := rfl
        rw [hrow] at h4 h6' ⊢
        generalize enc3 V = dV at h4 h6'
        generalize enc3 W = dW at h4 h3
        generalize min2X = mm at h4 ⊢
        simp [okF_paces, fget, hr, ha, hm, enc3, h6', h4, h5, h2, h3]
      · refine ⟨x11, ?_⟩
        have hs1 : step1 ps i s T (r, K) = T := if_neg hr
        rw [hs1]
        simp [okF_paces, fget, hr]
    obtain ⟨c, e1⟩ := e1
    have e2 : ∀ (U : Tb) (c : Sl), U.length ≤ 200000 → ∃ c', sIf (tB (f2 gtD (rVar 2) (rVal (eC (.int 0))))) (sCons (sSet 11 (eSeq .tup (aCons (rVal (f2 addD (rVal (f2 addD (rVal (f2 ixD (rVar 10) (rVal (eC (.int 0))))) (rVar 8))) (rVal (f2 mulD (rVar 7) (rVal (f2 ixD (rVal (eFld 6 okF_paces (rVar 0))) (rVal (eC (.int 0))))))))) (aCons (rVal (f2 addD (rVal (f2 ixD (rVar 10) (rVal (eC (.int 1))))) (rVal (eC (.int 1))))) (aCons (rVal (f2 addD (rVal (f2 ixD (rVar 10) (rVal (eC (.int 2))))) (rVal (eSeq .tup (aCons (rVal (eVar 2)) aNil))))) aNil)))))
  (sPutD 3 (eCallB (on2 min2X) (aCons (rVal (eGet2 (rVar 3) (eC (.int 1)) (eVar 11))) (aCons (rVar 11) aNil))) (eC (.int 1)))) sNil (Ei st ps x1 i U x4 x5 x6 s (.sh (.int (r : Nat))) (.sh (enc3 K)) c) = .ok .nx (Ei st ps x1 i (step2 ps i s U (r, K)) x4 x5 x6 s (.sh (.int (r : Nat))) (.sh (enc3 K)) c') := by
      intro U c hU
      by_cases hi : 0 < i
      · have hr : 0 < ps.length := List.length_pos_iff.mpr h0
        have hok := hps ps[0] (List.getElem_mem hr)
        have ha : (ps.map D.int)[0]? = some (.int (ps.getD 0 0)) := by rw [List.getElem?_map, List.getElem?_eq_getElem hr, List.getD_eq_getElem?_getD, List.getElem?_eq_getElem hr]; rfl
        have hm : CMul s.1 (ps.getD 0 0) := by
          rw [List.getD_eq_getElem?_getD, List.getElem?_eq_getElem hr]
          exact cms ⟨by have := hok.1; show -100000 ≤ ps[0]; omega, by have := hok.2; show ps[0] ≤ 100000; omega⟩
        have hs1 : step2 ps i s U (r, K) = putM U 1 (K.1 + s.2 + s.1 * ps.getD 0 0, K.2.1 + 1, K.2.2 ++ [(i : Int)]) := if_pos hi
        rw [hs1]
        unfold putM
        generalize ps.getD 0 0 = q at ha hm ⊢
        have hrow : enc3 (K.1 + s.2 + s.1 * q, K.2.1 + 1, K.2.2 ++ [(i : Int)]) = .tup [.int (K.1 + s.2 + s.1 * q), .int ((K.2.1 : Int) + 1), encI (K.2.2 ++ [(i : Int)])] := by
          unfold enc3
          rw [show ((K.2.1 + 1 : Nat) : Int) = (K.2.1 : Int) + 1 by omega]
        generalize hR : (K.1 + s.2 + s.1 * q, K.2.1 + 1, K.2.2 ++ [(i : Int)]) = row at hrow ⊢
        refine ⟨.sh (enc3 row), ?_⟩
        have h1 := look_T 1 U
        have h2 := putK_T 1 (min3 ((getT U 1).getD row) row) U
        have h3 := putV_T 1 (min3 ((getT U 1).getD row) row) U
        have h4 := min2X_3 ((getT U 1).getD row) row
        have h5 : (ksT U).length < 1000000 := by unfold ksT; rw [List.length_map]; omega
        have h6 : ((getT U 1).map enc3).getD (enc3 row) = enc3 ((getT U 1).getD row) := by cases getT U 1 <;> rfl
        have h7 : addD (encI K.2.2) (.tup [.int (i : Nat)]) = some (encI (K.2.2 ++ [(i : Int)])) := by
          unfold encI
          rw [add_tt _ _ (by simp; omega)]
          simp
        rw [show ((1 : Nat) : Int) = 1 from rfl] at h1 h2 h3
        rw [← h1] at h6
        generalize min3 ((getT U 1).getD row) row = W at h2 h3 h4 ⊢
        generalize (getT U 1).getD row = V at h4 h6
        have hi2 : (0 : Int) < (i : Int) := by omega
        rw [hrow] at h4 h6 ⊢
        generalize encI (K.2.2 ++ [(i : Int)]) = dC at h7 h4 h6 ⊢
        have eK : enc3 K = .tup [.int K.1, .int (K.2.1 : Nat), encI K.2.2] := rfl
        rw [eK]
        generalize encI K.2.2 = dK at h7 ⊢
        generalize enc3 V = dV at h4 h6
        generalize enc3 W = dW at h4 h3
        generalize min2X = mm at h4 ⊢
        have hne : ps ≠ [] := h0
        simp at ha
        simp [okF_paces, fget, hi, ha, hm, h6, h4, h5, h2, h3, h7]
      · refine ⟨c, ?_⟩
        have hs1 : step2 ps i s U (r, K) = U := if_neg hi
        rw [hs1]
        have : i = 0 := by omega
        subst this
        simp
    obtain ⟨c', e2⟩ := e2 (step1 ps i s T (r, K)) c (by omega)
    obtain ⟨x, y, z, ih⟩ := inner st ps hps h0 i s x1 x4 x5 x6 l (stepT ps i s T (r, K)) (.sh (.int (r : Nat))) (.sh (enc3 K)) c' (by have := stepT_len ps i s T (r, K); omega) fun x hx => hl x (List.mem_cons_of_mem _ hx)
    refine ⟨x, y, z, ?_⟩
    rw [List.map_cons, forS_cons, List.foldl_cons]
    have hb : IB (.tup [.int ((r : Nat) : Int), enc3 K]) (Ei st ps x1 i T x4 x5 x6 s x9 x10 x11) = some (Ei st ps x1 i T x4 x5 x6 s (.sh (.int (r : Nat))) (.sh (enc3 K)) x11) := by simp
    have hbd : Ride_best_b1 (Ei st ps x1 i T x4 x5 x6 s (.sh (.int (r : Nat))) (.sh (enc3 K)) x11) = .ok .nx (Ei st ps x1 i (stepT ps i s T (r, K)) x4 x5 x6 s (.sh (.int (r : Nat))) (.sh (enc3 K)) c') := by
      unfold Ride_best_b1
      rw [e_sCons, e1, Rs.sq_nx]
      exact e2
    rw [hb]
    dsimp only
    rw [hbd, Rs.sq_nx]
    exact ih
end K20

set_option Elab.async false
set_option linter.all false
set_option maxRecDepth 100000
set_option maxHeartbeats 4000000
namespace K20
open PySem PySem.Spec PyProof.Rows L2 J
def runT (ps : List Int) : List Stg → Nat → Tb → Tb
  | [], _, T => T
  | s :: l, i, T => runT ps l (i + 1) (T.foldl (stepT ps i s) [])
theorem fold_len (ps : List Int) (i : Nat) (s : Stg) : ∀ (l T : Tb), (l.foldl (stepT ps i s) T).length ≤ T.length + 2 * l.length
  | [], T => by simp
  | x :: l, T => by
    rw [List.foldl_cons]
    have h1 := fold_len ps i s l (stepT ps i s T x)
    have h2 := stepT_len ps i s T x
    simp only [List.length_cons]
    omega
def new1 (ps : List Int) (i : Nat) (s : Stg) (x : Nat × K3) : Nat × K3 := (x.1 + 1, (x.2.1 + s.1 * ps.getD x.1 0, x.2.2.1, x.2.2.2))
def new2 (ps : List Int) (i : Nat) (s : Stg) (x : Nat × K3) : Nat × K3 := (1, (x.2.1 + s.2 + s.1 * ps.getD 0 0, x.2.2.1 + 1, x.2.2.2 ++ [(i : Int)]))
theorem stepT_mem {ps : List Int} {i : Nat} {s : Stg} {T : Tb} {y x : Nat × K3} (h : x ∈ stepT ps i s T y) : x ∈ T ∨ (y.1 < ps.length ∧ x = new1 ps i s y) ∨ (0 < i ∧ x = new2 ps i s y) := by
  have h1 : x ∈ step1 ps i s T y → x ∈ T ∨ (y.1 < ps.length ∧ x = new1 ps i s y) := fun h => by
    unfold step1 at h
    split at h
    · rename_i hl
      rcases putM_mem h with q | q
      · exact .inl q
      · exact .inr ⟨hl, q⟩
    · exact .inl h
  unfold stepT step2 at h
  split at h
  · rename_i hi
    rcases putM_mem h with q | q
    · rcases h1 q with z | z
      · exact .inl z
      · exact .inr (.inl z)
    · exact .inr (.inr ⟨hi, q⟩)
  · rcases h1 h with z | z
    · exact .inl z
    · exact .inr (.inl z)
theorem fold_mem {ps : List Int} {i : Nat} {s : Stg} {x : Nat × K3} : ∀ {l T : Tb}, x ∈ l.foldl (stepT ps i s) T → x ∈ T ∨ ∃ y ∈ l, (y.1 < ps.length ∧ x = new1 ps i s y) ∨ (0 < i ∧ x = new2 ps i s y)
  | [], T, h => .inl h
  | y :: l, T, h => by
    rw [List.foldl_cons] at h
    rcases fold_mem h with q | ⟨z, mz, q⟩
    · rcases stepT_mem q with q | q
      · exact .inl q
      · exact .inr ⟨y, List.mem_cons_self, q⟩
    · exact .inr ⟨z, List.mem_cons_of_mem _ mz, q⟩
theorem step_keep {ps : List Int} {i : Nat} {s : Stg} {T : Tb} {y : Nat × K3} {k : Nat} {w : K3} (h : (k, w) ∈ T) : ∃ w', (k, w') ∈ stepT ps i s T y ∧ le3 w' w := by
  have h1 : ∃ w', (k, w') ∈ step1 ps i s T y ∧ le3 w' w := by
    unfold step1
    split
    · exact putM_keep h
    · exact ⟨w, h, le3_refl w⟩
  obtain ⟨w1, m1, l1⟩ := h1
  unfold stepT step2
  split
  · obtain ⟨w2, m2, l2⟩ := putM_keep (r := 1) (K := (y.2.1 + s.2 + s.1 * ps.getD 0 0, y.2.2.1 + 1, y.2.2.2 ++ [(i : Int)])) m1
    exact ⟨w2, m2, le3_trans l2 l1⟩
  · exact ⟨w1, m1, l1⟩
theorem fold_keep {ps : List Int} {i : Nat} {s : Stg} : ∀ {l T : Tb} {k : Nat} {w : K3}, (k, w) ∈ T → ∃ w', (k, w') ∈ l.foldl (stepT ps i s) T ∧ le3 w' w
  | [], T, k, w, h => ⟨w, h, le3_refl w⟩
  | y :: l, T, k, w, h => by
    obtain ⟨w1, m1, l1⟩ := step_keep (ps := ps) (i := i) (s := s) (y := y) h
    obtain ⟨w2, m2, l2⟩ := fold_keep (l := l) m1
    exact ⟨w2, m2, le3_trans l2 l1⟩
theorem step_new1 {ps : List Int} {i : Nat} {s : Stg} {T : Tb} {y : Nat × K3} (h : y.1 < ps.length) : ∃ v, (y.1 + 1, v) ∈ stepT ps i s T y ∧ le3 v (new1 ps i s y).2 := by
  have h1 : ∃ v, (y.1 + 1, v) ∈ step1 ps i s T y ∧ le3 v (new1 ps i s y).2 := by
    unfold step1
    rw [if_pos h]
    exact putM_new _ _ _
  obtain ⟨w1, m1, l1⟩ := h1
  unfold stepT step2
  split
  · obtain ⟨w2, m2, l2⟩ := putM_keep (r := 1) (K := (y.2.1 + s.2 + s.1 * ps.getD 0 0, y.2.2.1 + 1, y.2.2.2 ++ [(i : Int)])) m1
    exact ⟨w2, m2, le3_trans l2 l1⟩
  · exact ⟨w1, m1, l1⟩
theorem step_new2 {ps : List Int} {i : Nat} {s : Stg} {T : Tb} {y : Nat × K3} (h : 0 < i) : ∃ v, (1, v) ∈ stepT ps i s T y ∧ le3 v (new2 ps i s y).2 := by
  unfold stepT step2
  rw [if_pos h]
  exact putM_new _ _ _
theorem fold_new {ps : List Int} {i : Nat} {s : Stg} {y : Nat × K3} : ∀ {l T : Tb}, y ∈ l → (y.1 < ps.length → ∃ v, (y.1 + 1, v) ∈ l.foldl (stepT ps i s) T ∧ le3 v (new1 ps i s y).2) ∧ (0 < i → ∃ v, (1, v) ∈ l.foldl (stepT ps i s) T ∧ le3 v (new2 ps i s y).2)
  | x :: l, T, h => by
    rw [List.foldl_cons]
    rcases List.mem_cons.mp h with rfl | h
    · refine ⟨fun hl => ?_, fun hi => ?_⟩
      · obtain ⟨w1, m1, l1⟩ := step_new1 (i := i) (s := s) (T := T) hl
        obtain ⟨w2, m2, l2⟩ := fold_keep (l := l) m1
        exact ⟨w2, m2, le3_trans l2 l1⟩
      · obtain ⟨w1, m1, l1⟩ := step_new2 (ps := ps) (s := s) (T := T) (y := y) hi
        obtain ⟨w2, m2, l2⟩ := fold_keep (l := l) m1
        exact ⟨w2, m2, le3_trans l2 l1⟩
    · exact fold_new (l := l) h
/-- the rows of changes below i -/
def WL : Nat → List (List Int)
  | 0 => [[]]
  | i + 1 => WL i ++ if 0 < i then (WL i).map (· ++ [(i : Int)]) else []
theorem WL_lt : ∀ {i : Nat} {cs : List Int}, cs ∈ WL i → ∀ c ∈ cs, c < (i : Int)
  | 0, cs, h, c, hc => by rw [List.mem_singleton.mp h] at hc; cases hc
  | i + 1, cs, h, c, hc => by
    rcases List.mem_append.mp h with h | h
    · have := WL_lt h c hc; omega
    · split at h
      · obtain ⟨d, md, rfl⟩ := List.mem_map.mp h
        rcases List.mem_append.mp hc with hc | hc
        · have := WL_lt md c hc; omega
        · rw [List.mem_singleton.mp hc]; omega
      · cases h
theorem runM_snoc (ps cs : List Int) (s : Stg) : ∀ (l : List Stg) (i : Nat) (t : Int) (r : Nat), runM ps cs (l ++ [s]) i t r = (runM ps cs l i t r).bind fun q => runM ps cs [s] (i + l.length) q.1 q.2
  | [], i, t, r => rfl
  | x :: l, i, t, r => by
    rw [List.cons_append, runM, runM]
    split
    · split
      · rw [runM_snoc ps cs s l, List.length_cons, show i + 1 + l.length = i + (l.length + 1) by omega]
      · rfl
    · split
      · rw [runM_snoc ps cs s l, List.length_cons, show i + 1 + l.length = i + (l.length + 1) by omega]
      · rfl
theorem runM_congr (ps : List Int) {cs cs' : List Int} : ∀ (l : List Stg) (i : Nat) (t : Int) (r : Nat), (∀ j : Nat, i ≤ j → j < i + l.length → ((j : Int) ∈ cs ↔ (j : Int) ∈ cs')) → runM ps cs l i t r = runM ps cs' l i t r
  | [], _, _, _, _ => rfl
  | s :: l, i, t, r, h => by
    have h0 := h i (Nat.le_refl _) (by simp)
    have ih := fun t r => runM_congr ps l (i + 1) t r fun j h1 h2 => h j (by omega) (by simp; omega)
    rw [runM, runM]
    by_cases hc : (i : Int) ∈ cs
    · rw [if_pos hc, if_pos (h0.mp hc)]
      split <;> simp [ih]
    · rw [if_neg hc, if_neg (fun z => hc (h0.mpr z))]
      split <;> simp [ih]
def Sound (ps : List Int) (pre : List Stg) (T : Tb) : Prop := ∀ x ∈ T, x.2.2.2 ∈ WL pre.length ∧ x.2.2.1 = x.2.2.2.length ∧ runM ps x.2.2.2 pre 0 0 0 = some (x.2.1, x.1)
def Comp (ps : List Int) (pre : List Stg) (T : Tb) : Prop := ∀ cs ∈ WL pre.length, ∀ t r, runM ps cs pre 0 0 0 = some (t, r) → ∃ K, (r, K) ∈ T ∧ le3 K (t, cs.length, cs)
theorem getD_of {ps : List Int} {r : Nat} (h : r < ps.length) : ps[r]? = some (ps.getD r 0) := by
  rw [List.getD_eq_getElem?_getD, List.getElem?_eq_getElem h]; rfl
theorem one_step (ps cs : List Int) (s : Stg) (i : Nat) (t : Int) (r : Nat) : runM ps cs [s] i t r = if (i : Int) ∈ cs then (if 0 < ps.length then some (t + s.2 + s.1 * ps.getD 0 0, 1) else none) else (if r < ps.length then some (t + s.1 * ps.getD r 0, r + 1) else none) := by
  rw [runM]
  split
  · split
    · rename_i p hp
      have h := (List.getElem?_eq_some_iff.mp hp).1
      rw [if_pos h]
      rw [getD_of h] at hp
      cases hp; rfl
    · rename_i hp
      rw [List.getElem?_eq_none_iff] at hp
      rw [if_neg (by omega)]
  · split
    · rename_i p hp
      have h := (List.getElem?_eq_some_iff.mp hp).1
      rw [if_pos h]
      rw [getD_of h] at hp
      cases hp; rfl
    · rename_i hp
      rw [List.getElem?_eq_none_iff] at hp
      rw [if_neg (by omega)]
theorem notin_of {i : Nat} {cs : List Int} (h : cs ∈ WL i) : (i : Int) ∉ cs := fun hc => by have := WL_lt h _ hc; omega
theorem pre_snoc (ps : List Int) {cs : List Int} (pre : List Stg) (h : cs ∈ WL pre.length) : runM ps (cs ++ [(pre.length : Int)]) pre 0 0 0 = runM ps cs pre 0 0 0 := by
  refine runM_congr ps pre 0 0 0 fun j _ h2 => ?_
  rw [List.mem_append, List.mem_singleton]
  constructor
  · rintro (z | z)
    · exact z
    · omega
  · exact .inl
theorem sound_step {ps : List Int} {pre : List Stg} {T : Tb} (s : Stg) (h0 : ps ≠ []) (h : Sound ps pre T) : Sound ps (pre ++ [s]) (T.foldl (stepT ps pre.length s) []) := by
  intro x hx
  rcases fold_mem hx with q | ⟨y, my, q⟩
  · cases q
  · obtain ⟨h1, h2, h3⟩ := h y my
    rw [List.length_append, List.length_singleton]
    have hp : 0 < ps.length := List.length_pos_iff.mpr h0
    rcases q with ⟨hl, rfl⟩ | ⟨hi, rfl⟩
    · refine ⟨List.mem_append_left _ h1, h2, ?_⟩
      show runM ps y.2.2.2 (pre ++ [s]) 0 0 0 = _
      rw [runM_snoc, h3]
      show runM ps y.2.2.2 [s] (0 + pre.length) y.2.1 y.1 = _
      rw [Nat.zero_add, one_step, if_neg (notin_of h1), if_pos hl]
      rfl
    · refine ⟨List.mem_append_right _ (by rw [if_pos hi]; exact List.mem_map_of_mem h1), by show y.2.2.1 + 1 = _; rw [h2]; simp [new2], ?_⟩
      show runM ps (y.2.2.2 ++ [(pre.length : Int)]) (pre ++ [s]) 0 0 0 = _
      rw [runM_snoc, pre_snoc ps pre h1, h3]
      show runM ps _ [s] (0 + pre.length) y.2.1 y.1 = _
      rw [Nat.zero_add, one_step, if_pos (by simp), if_pos hp]
      rfl
theorem comp_step {ps : List Int} {pre : List Stg} {T : Tb} (s : Stg) (h0 : ps ≠ []) (hS : Sound ps pre T) (h : Comp ps pre T) : Comp ps (pre ++ [s]) (T.foldl (stepT ps pre.length s) []) := by
  intro cs hcs t r hr
  rw [List.length_append, List.length_singleton] at hcs
  have hp : 0 < ps.length := List.length_pos_iff.mpr h0
  rcases List.mem_append.mp hcs with hc | hc
  · rw [runM_snoc] at hr
    cases e : runM ps cs pre 0 0 0 with
    | none => rw [e] at hr; cases hr
    | some q =>
      rw [e] at hr
      have hr : runM ps cs [s] (0 + pre.length) q.1 q.2 = some (t, r) := hr
      rw [Nat.zero_add, one_step, if_neg (notin_of hc)] at hr
      split at hr
      · rename_i hl
        cases hr
        obtain ⟨K, mK, lK⟩ := h cs hc q.1 q.2 e
        obtain ⟨v, mv, lv⟩ := (fold_new (ps := ps) (i := pre.length) (s := s) (T := []) mK).1 hl
        refine ⟨v, mv, le3_trans lv ?_⟩
        rw [le3_iff] at lK ⊢
        rcases lK with z | ⟨z, z2⟩
        · left; show K.1 + s.1 * ps.getD q.2 0 < q.1 + s.1 * ps.getD q.2 0; omega
        · right; exact ⟨by show K.1 + s.1 * ps.getD q.2 0 = q.1 + s.1 * ps.getD q.2 0; have z : K.1 = q.1 := z; omega, z2⟩
      · cases hr
  · split at hc
    · rename_i hi
      obtain ⟨c0, m0, rfl⟩ := List.mem_map.mp hc
      rw [runM_snoc, pre_snoc ps pre m0] at hr
      cases e : runM ps c0 pre 0 0 0 with
      | none => rw [e] at hr; cases hr
      | some q =>
        rw [e] at hr
        have hr : runM ps _ [s] (0 + pre.length) q.1 q.2 = some (t, r) := hr
        rw [Nat.zero_add, one_step, if_pos (by simp), if_pos hp] at hr
        cases hr
        obtain ⟨K, mK, lK⟩ := h c0 m0 q.1 q.2 e
        obtain ⟨v, mv, lv⟩ := (fold_new (ps := ps) (i := pre.length) (s := s) (T := []) mK).2 hi
        refine ⟨v, mv, le3_trans lv ?_⟩
        rw [le3_iff] at lK ⊢
        rcases lK with z | ⟨z, z2⟩
        · left; show K.1 + s.2 + s.1 * ps.getD 0 0 < q.1 + s.2 + s.1 * ps.getD 0 0; omega
        · refine .inr ⟨by show K.1 + s.2 + s.1 * ps.getD 0 0 = q.1 + s.2 + s.1 * ps.getD 0 0; have z : K.1 = q.1 := z; omega, ?_⟩
          rcases z2 with z2 | ⟨z2, z3⟩
          · left; show K.2.1 + 1 < (c0 ++ [_]).length; simp; exact z2
          · refine .inr ⟨by show K.2.1 + 1 = (c0 ++ [_]).length; simp; exact z2, ?_⟩
            have hk := (hS _ mK).2.1
            exact leL_snoc _ (hk.symm.trans z2) z3
    · cases hc
theorem run_inv {ps : List Int} (h0 : ps ≠ []) : ∀ {l pre : List Stg} {T : Tb}, Sound ps pre T → Comp ps pre T → Sound ps (pre ++ l) (runT ps l pre.length T) ∧ Comp ps (pre ++ l) (runT ps l pre.length T)
  | [], pre, T, h1, h2 => by rw [List.append_nil]; exact ⟨h1, h2⟩
  | s :: l, pre, T, h1, h2 => by
    have ih := run_inv (ps := ps) h0 (l := l) (pre := pre ++ [s]) (sound_step s h0 h1) (comp_step s h0 h1 h2)
    rw [List.append_assoc, List.length_append, List.length_singleton] at ih
    exact ih
abbrev OB : BF := bTup 2 (bCons (bName 2) (bCons (bTup 2 (bCons (bName 7) (bCons (bName 8) bNil))) bNil))
theorem outer (st : List Stg) (ps : List Int) (hps : ∀ p ∈ ps, OkP p) (h0 : ps ≠ []) : ∀ (l pre : List Stg) (T : Tb) (x2 x3 x4 x5 x6 x7 x8 x9 x10 x11 : Sl), pre.length + l.length ≤ 10 → T.length ≤ 2 ^ pre.length → (∀ x ∈ T, x.2.2.2.length ≤ pre.length) →
    ∃ a b c d e f g, forS OB Ride_best_b2 ((l.zipIdx pre.length).map encE) [.sh (made st ps), .sh (.dct (ksT T) (vsT T)), x2, x3, x4, x5, x6, x7, x8, x9, x10, x11] = .ok .nx [.sh (made st ps), .sh (.dct (ksT (runT ps l pre.length T)) (vsT (runT ps l pre.length T))), a, b, x4, x5, x6, c, d, e, f, g]
  | [], pre, T, x2, x3, x4, x5, x6, x7, x8, x9, x10, x11, _, _, _ => ⟨_, _, _, _, _, _, _, rfl⟩
  | s :: l, pre, T, x2, x3, x4, x5, x6, x7, x8, x9, x10, x11, hp, hT, hc => by
    simp only [List.length_cons] at hp
    have h10 : 2 ^ pre.length ≤ 2 ^ 10 := Nat.pow_le_pow_right (by decide) (by omega)
    obtain ⟨u, v, w, hin⟩ := inner st ps hps h0 pre.length s (.sh (.dct (ksT T) (vsT T))) x4 x5 x6 T [] x9 x10 x11 (by simp; omega) fun x hx => by have := hc x hx; omega
    have hT' : (T.foldl (stepT ps pre.length s) []).length ≤ 2 ^ (pre ++ [s]).length := by
      have := fold_len ps pre.length s T []
      rw [List.length_append, List.length_singleton, Nat.pow_succ]
      simp at this
      omega
    have hc' : ∀ x ∈ T.foldl (stepT ps pre.length s) [], x.2.2.2.length ≤ (pre ++ [s]).length := fun x hx => by
      rw [List.length_append, List.length_singleton]
      rcases fold_mem hx with q | ⟨y, my, q⟩
      · cases q
      · have := hc y my
        rcases q with ⟨_, rfl⟩ | ⟨_, rfl⟩
        · show y.2.2.2.length ≤ _; omega
        · show (y.2.2.2 ++ [_]).length ≤ _; simp; omega
    obtain ⟨a, b, c, d, e, f, g, ih⟩ := outer st ps hps h0 l (pre ++ [s]) (T.foldl (stepT ps pre.length s) []) (.sh (.int (pre.length : Nat))) (.sh (.dct (ksT (T.foldl (stepT ps pre.length s) [])) (vsT (T.foldl (stepT ps pre.length s) [])))) x4 x5 x6 (.sh (.int s.1)) (.sh (.int s.2)) u v w (by simp; omega) hT' hc'
    refine ⟨a, b, c, d, e, f, g, ?_⟩
    rw [List.zipIdx_cons, List.map_cons, forS_cons]
    have hb : OB (encE (s, pre.length)) [.sh (made st ps), .sh (.dct (ksT T) (vsT T)), x2, x3, x4, x5, x6, x7, x8, x9, x10, x11] = some [.sh (made st ps), .sh (.dct (ksT T) (vsT T)), .sh (.int (pre.length : Nat)), x3, x4, x5, x6, .sh (.int s.1), .sh (.int s.2), x9, x10, x11] := by simp [encE, encSt]
    have hpt := pairs_T T
    have hbd : Ride_best_b2 [.sh (made st ps), .sh (.dct (ksT T) (vsT T)), .sh (.int (pre.length : Nat)), x3, x4, x5, x6, .sh (.int s.1), .sh (.int s.2), x9, x10, x11] = .ok .nx [.sh (made st ps), .sh (.dct (ksT (T.foldl (stepT ps pre.length s) [])) (vsT (T.foldl (stepT ps pre.length s) []))), .sh (.int (pre.length : Nat)), .sh (.dct (ksT (T.foldl (stepT ps pre.length s) [])) (vsT (T.foldl (stepT ps pre.length s) []))), x4, x5, x6, .sh (.int s.1), .sh (.int s.2), u, v, w] := by
      have hin' : forS IB Ride_best_b1 (dPairs (ksT T) (vsT T)) [.sh (made st ps), .sh (.dct (ksT T) (vsT T)), .sh (.int (pre.length : Nat)), .ow (.dct [] []), x4, x5, x6, .sh (.int s.1), .sh (.int s.2), x9, x10, x11] = .ok .nx (Ei st ps (.sh (.dct (ksT T) (vsT T))) pre.length (T.foldl (stepT ps pre.length s) []) x4 x5 x6 s u v w) := by rw [hpt]; exact hin
      simp [Ride_best_b2, hin']
    rw [hb]
    dsimp only
    rw [hbd, Rs.sq_nx]
    rw [List.length_append, List.length_singleton] at ih
    exact ih
/-! ### best() is best of all -/
theorem WL_fin {n : Nat} (hn : n ≤ 6) : (∀ cs ∈ WL n, cs ∈ rowsC n) ∧ ∀ cs ∈ rowsC n, cs ∈ WL n := by
  have h : ((List.range 7).all fun n => ((WL n).all fun cs => decide (cs ∈ rowsC n)) && ((rowsC n).all fun cs => decide (cs ∈ WL n))) = true := by decide +kernel
  have h1 := List.all_eq_true.mp h n (List.mem_range.mpr (by omega))
  simp only [Bool.and_eq_true] at h1
  exact ⟨fun cs hc => of_decide_eq_true (List.all_eq_true.mp h1.1 cs hc), fun cs hc => of_decide_eq_true (List.all_eq_true.mp h1.2 cs hc)⟩
def rowLt (a b : List Int) : Bool := decide (a.length < b.length) || (decide (a.length = b.length) && ltL a b)
theorem rows_pair {n : Nat} (hn : n ≤ 6) : (rowsC n).Pairwise fun a b => rowLt a b = true := by
  have h : ((List.range 7).all fun n => decide ((rowsC n).Pairwise fun a b => rowLt a b = true)) = true := by decide +kernel
  exact of_decide_eq_true (List.all_eq_true.mp h n (List.mem_range.mpr (by omega)))
theorem some_good {st : List Stg} {ps : List Int} (hn : st.length ≤ 6) (hp : 1 ≤ ps.length ∧ ps.length ≤ 3) : goodC st ps ≠ [] := by
  have h := fin_all (Q := fun n p => (rowsC n).any fun cs => okR p cs n 0 0) hn hp (by decide +kernel)
  obtain ⟨cs, hc, ho⟩ := List.any_eq_true.mp h
  intro z
  have : cs ∈ goodC st ps := List.mem_filter.mpr ⟨hc, by rw [runM_ok]; exact ho⟩
  rw [z] at this
  cases this
def keyC (st : List Stg) (ps cs : List Int) : K3 := (tv st ps cs, cs.length, cs)
theorem best_x (st : List Stg) (ps : List Int) (T : Tb) (m : K3) (y2 y3 y7 y8 y9 y10 y11 : Sl) (e : forS OB Ride_best_b2 ((st.zipIdx 0).map encE) [.sh (made st ps), .sh (.dct [.int 0] [enc3 (0, 0, [])]), .no, .no, .no, .no, .no, .no, .no, .no, .no, .no] = .ok .nx [.sh (made st ps), .sh (.dct (ksT T) (vsT T)), y2, y3, .no, .no, .no, y7, y8, y9, y10, y11]) (g : D → Option D)
    (hg : g (.lst (vsT T)) = some (enc3 m)) : fnV 11 (sCons Ride_best_s1 (sCons Ride_best_s2 (sCons (sAsg (eCallB (on1 g) (aCons (rVal (eListD dvalsD (rVar 1))) aNil)) (bTup 3 (bCons (bName 4) (bCons (bName 5) (bCons (bName 6) bNil))))) Ride_best_s4))) [made st ps] = .ok (.tup [.int m.1, encI m.2.2]) := by
  have hd : dictOf [(.int 0, .tup [.int 0, .int 0, .tup []])] = some (.dct [.int 0] [enc3 (0, 0, [])]) := rfl
  have en := enum_st st
  simp only [enc3] at hg
  simp [Ride_best_s1, Ride_best_s2, Ride_best_s4, hd, okF_stages, fget, en, e, hg]
theorem best_ok (st : List Stg) (ps : List Int) (hn : st.length ≤ 6) (hps : ∀ p ∈ ps, OkP p) (hp : 1 ≤ ps.length ∧ ps.length ≤ 3) : ∃ m, bestC st ps 9 = some m ∧ m ∈ goodC st ps ∧ F_Ride_best [made st ps] = .ok (.tup [.int (tv st ps m), encI m]) := by
  have h0 : ps ≠ [] := by intro z; rw [z] at hp; simp at hp
  have hf : ((goodC st ps).filter fun cs => decide ((cs.length : Int) ≤ 9)) = goodC st ps := List.filter_eq_self.mpr fun cs hc => by
    have := (rows_fin hn cs (List.mem_filter.mp hc).1).2
    simp; omega
  have hb : bestC st ps 9 = pickR (tv st ps) (goodC st ps) := by unfold bestC; rw [hf]
  cases hk : pickR (tv st ps) (goodC st ps) with
  | none => exact absurd (pickR_none hk) (some_good hn hp)
  | some m =>
    obtain ⟨mm, hm⟩ := pickR_min ((rows_pair hn).sublist List.filter_sublist) hk
    refine ⟨m, hb.trans hk, mm, ?_⟩
    have T0s : Sound ps [] [(0, (0, 0, []))] := fun x hx => by rw [List.mem_singleton.mp hx]; exact ⟨List.mem_cons_self, rfl, rfl⟩
    have T0c : Comp ps [] [(0, (0, 0, []))] := fun cs hcs t r hr => by
      rw [List.mem_singleton.mp hcs] at hr ⊢
      cases hr
      exact ⟨_, List.mem_cons_self, le3_refl _⟩
    obtain ⟨hS, hC⟩ := run_inv h0 (l := st) T0s T0c
    rw [List.nil_append] at hS hC
    obtain ⟨a, b, c, d, e, f, g, ho⟩ := outer st ps hps h0 st [] [(0, (0, 0, []))] .no .no .no .no .no .no .no .no .no .no (by simp; omega) (by simp) (by simp)
    generalize runT ps st (List.length ([] : List Stg)) [(0, (0, 0, []))] = T at hS hC ho
    have told : ∀ cs ∈ goodC st ps, ∃ r, runM ps cs st 0 0 0 = some (tv st ps cs, r) := fun cs hc => by
      have h2 := (List.mem_filter.mp hc).2
      unfold tv
      cases hr : runM ps cs st 0 0 0 with
      | none => rw [hr] at h2; cases h2
      | some q => exact ⟨q.2, rfl⟩
    have least : ∀ cs ∈ goodC st ps, le3 (keyC st ps m) (keyC st ps cs) := fun cs hc => by
      rw [le3_iff]
      rcases hm cs hc with q | ⟨q, rfl | q2⟩
      · exact .inl q
      · exact .inr ⟨rfl, .inr ⟨rfl, ltL_self _⟩⟩
      · refine .inr ⟨q, ?_⟩
        rcases Bool.or_eq_true_iff.mp q2 with z | z
        · exact .inl (of_decide_eq_true z)
        · obtain ⟨z1, z2⟩ := Bool.and_eq_true_iff.mp z
          refine .inr ⟨of_decide_eq_true z1, ?_⟩
          have z3 : le3 (0, 0, m) (0, 0, cs) := le3_of_lt (by rw [lt3_def, if_pos rfl, if_pos rfl]; exact z2)
          rw [le3_iff] at z3
          rcases z3 with y | ⟨_, y | ⟨_, y⟩⟩
          · exact absurd y (Int.lt_irrefl _)
          · exact absurd y (Nat.lt_irrefl _)
          · exact y
    obtain ⟨r, hr⟩ := told m mm
    obtain ⟨K, mK, lK⟩ := hC m ((WL_fin hn).2 m (List.mem_filter.mp mm).1) _ r hr
    have hv : ∃ x l, vsT T = (x :: l).map enc3 ∧ (∀ z ∈ x :: l, ∃ k, (k, z) ∈ T) ∧ K ∈ x :: l := by
      cases T with
      | nil => cases mK
      | cons p T =>
        refine ⟨p.2, T.map (·.2), by unfold vsT; simp, fun z hz => ?_, ?_⟩
        · have hz : z ∈ (p :: T).map (·.2) := hz
          obtain ⟨q, mq, rfl⟩ := List.mem_map.mp hz
          exact ⟨q.1, mq⟩
        · show K ∈ (p :: T).map (·.2)
          exact List.mem_map.mpr ⟨_, mK, rfl⟩
    obtain ⟨x, l, hvs, hin, hKm⟩ := hv
    obtain ⟨w, hw, mw, lw⟩ := minX_3 x l
    have hwm : w = keyC st ps m := by
      obtain ⟨k, mk⟩ := hin w mw
      obtain ⟨s1, s2, s3⟩ := hS _ mk
      have hg : w.2.2 ∈ goodC st ps := List.mem_filter.mpr ⟨(WL_fin hn).1 _ s1, by rw [s3]; rfl⟩
      have hwk : w = keyC st ps w.2.2 := by
        obtain ⟨r2, hr2⟩ := told _ hg
        rw [s3] at hr2
        have e1 : w.1 = tv st ps w.2.2 := by have := congrArg (fun o => o.map Prod.fst) hr2; simpa using this
        unfold keyC
        rw [← e1, ← s2]
      refine le3_anti (le3_trans (lw K hKm) lK) ?_
      rw [hwk]
      exact least _ hg
    rw [← hvs] at hw
    have fin := best_x st ps T w _ _ _ _ _ _ _ ho minX hw
    rw [hwm] at fin
    exact fin
end K20

set_option Elab.async false
set_option linter.all false
set_option maxRecDepth 100000
set_option maxHeartbeats 4000000
namespace K20
open PySem PySem.Spec PyProof.Rows L2 J
/-- a ride that a law may ask of -/
structure Ok (st : List Stg) (ps : List Int) : Prop where
  s : ∀ s ∈ st, OkS s
  n : st.length ≤ 6
  p : ∀ p ∈ ps, OkP p
  l : 1 ≤ ps.length ∧ ps.length ≤ 3
theorem Ok.ne {st : List Stg} {ps : List Int} (h : Ok st ps) : ps ≠ [] := by
  intro z; have := h.l; rw [z] at this; simp at this
theorem Ok.ride {st : List Stg} {ps : List Int} (h : Ok st ps) {S P : D} (hS : RowS S st) (hP : Mx P (ps.map D.int)) : F_Ride_init [S, P] = .ok (made st ps) :=
  ride_ok hS hP h.s (by have := h.n; omega) h.p (by have := h.l; omega) h.ne
def chg (st : List Stg) (k : Nat) (m : Int) : List Stg := st.take k ++ [((st.getD k (0, 0)).1, m)] ++ st.drop (k + 1)
theorem chg_len {st : List Stg} {k : Nat} (hk : k < st.length) (m : Int) : (chg st k m).length = st.length := by
  unfold chg
  simp
  omega
theorem chg_ok {st : List Stg} {ps : List Int} (h : Ok st ps) {k : Nat} (hk : k < st.length) {m : Int} (hm : 0 ≤ m ∧ m ≤ 99) : Ok (chg st k m) ps := by
  refine ⟨fun s hs => ?_, by rw [chg_len hk]; exact h.n, h.p, h.l⟩
  unfold chg at hs
  rw [List.mem_append, List.mem_append, List.mem_singleton] at hs
  rcases hs with (hs | hs) | hs
  · exact h.s s (List.mem_of_mem_take hs)
  · have := h.s st[k] (List.getElem_mem hk)
    rw [hs, List.getD_eq_getElem?_getD, List.getElem?_eq_getElem hk]
    exact ⟨this.1, this.2.1, hm.1, hm.2⟩
  · exact h.s s (List.mem_of_mem_drop hs)
theorem chg_D {st : List Stg} {k : Nat} (hn : st.length ≤ 6) (m : Int) : ((addD (.tup (cutL (st.map encSt) none (some (k : Int)))) (.tup [.tup [.int (st.getD k (0, 0)).1, .int m]])).bind fun d => addD d (.tup (cutL (st.map encSt) (some ((k : Int) + 1)) none))) = some (encSs (chg st k m)) := by
  rw [cut_to, show ((k : Int) + 1) = ((k + 1 : Nat) : Int) by omega, cut_from, add_tt _ _ (by simp; omega), Option.bind_some, add_tt _ _ (by simp; omega)]
  unfold chg
  simp
  rfl
theorem ix_st {st : List Stg} {k : Nat} (hk : k < st.length) : L2.atI (st.map encSt) (k : Int) = some (encSt (st.getD k (0, 0))) := by
  rw [atI_nat', List.getElem?_map, List.getD_eq_getElem?_getD, List.getElem?_eq_getElem hk]
  rfl
theorem change_x (FN FI : FV) (st : List Stg) (ps : List Int) (k : Nat) (m : Int) (hk : k < st.length) (hn : st.length ≤ 6) (h1 : FN [.int k, .int 0, .int ((st.length : Int) - 1)] = .ok (.bl true)) (R : D) (h2 : FI [encSs (chg st k m), encPs ps] = .ok R) : fnV 1 (b_Ride_with_change FN FI) [made st ps, .int k, .int m] = .ok R := by
  have hi := ix_st hk
  have hD := chg_D (k := k) hn m
  cases ha : addD (.tup (cutL (st.map encSt) none (some (k : Int)))) (.tup [.tup [.int (st.getD k (0, 0)).1, .int m]]) with
  | none => rw [ha] at hD; cases hD
  | some d =>
    rw [ha, Option.bind_some] at hD
    have e0 : encSt (st.getD k (0, 0)) = .tup [.int (st.getD k (0, 0)).1, .int (st.getD k (0, 0)).2] := rfl
    rw [e0] at hi
    generalize (st.getD k (0, 0)).1 = a at ha hi
    generalize (st.getD k (0, 0)).2 = b at hi
    generalize encSs (chg st k m) = C at hD h2
    simp [b_Ride_with_change, Ride_with_change_s1, Ride_with_change_s2, Ride_with_change_s3, okF_stages, okF_paces, fget, h1, hi, ha, hD, h2]
theorem change_ok {st : List Stg} {ps : List Int} (h : Ok st ps) {k : Nat} (hk : k < st.length) {m : Int} (hm : 0 ≤ m ∧ m ≤ 99) : F_Ride_with_change [made st ps, .int (k : Nat), .int m] = .ok (made (chg st k m) ps) :=
  change_x F_is_number F_Ride_init st ps k m hk h.n (by
    rw [e_number, isNumber_ok _ _ _ rfl, numIn_int, decide_eq_true (by omega)]) _ ((chg_ok h hk hm).ride (rowS_enc _) (.inr rfl))
/-- the least list of changes of a ride -/
def bestM (st : List Stg) (ps : List Int) : List Int := (bestC st ps 9).getD []
theorem best_fn {st : List Stg} {ps : List Int} (h : Ok st ps) : F_Ride_best [made st ps] = .ok (.tup [.int (tv st ps (bestM st ps)), encI (bestM st ps)]) ∧ bestC st ps 9 = some (bestM st ps) := by
  obtain ⟨m, e1, _, e2⟩ := best_ok st ps h.n h.p h.l
  have : bestM st ps = m := by unfold bestM; rw [e1]; rfl
  rw [this]
  exact ⟨e2, e1⟩
def lastP (p : Nat → Bool) (n : Nat) : Option Nat := (List.range n).foldl (fun f m => if p m = true then some m else f) none
def optD (o : Option Nat) : D := match o with
  | none => .non
  | some m => .int (m : Nat)
def inBest (st : List Stg) (ps : List Int) (k m : Nat) : Bool := decide ((k : Int) ∈ bestM (chg st k (m : Int)) ps)
theorem most_x (FC FB : FV) (st : List Stg) (ps : List Int) (k : Nat) (X : Nat → D) (B : Nat → List Int) (hC : ∀ m : Nat, m < 100 → FC [made st ps, .int k, .int (m : Nat)] = .ok (X m)) (hX : ∀ m : Nat, m < 100 → ∃ c ns vs t, X m = .obj 0 ns vs ∧ c = (0 : Nat) ∧ FB [X m] = .ok (.tup [.int t, encI (B m)])) :
    fnV 2 (b_Ride_most_change FB FC) [made st ps, .int k] = .ok (optD (lastP (fun m => decide ((k : Int) ∈ B m)) 100)) := by
  obtain ⟨ρ', e, x, rfl⟩ := forS_fold (b := bName 3) (body := Ride_most_change_b1 FB FC) (e := fun m : Nat => D.int (m : Nat)) (l := List.range 100) (s := (none : Option Nat)) (ρ := [.sh (made st ps), .sh (.int k), .sh .non, .no])
    (fun s ρ => ∃ x, ρ = [.sh (made st ps), .sh (.int k), .sh (optD s), x]) (fun f m => if decide ((k : Int) ∈ B m) = true then some m else f) (by
      rintro m hm s ρ ⟨x, rfl⟩
      have hm := List.mem_range.mp hm
      obtain ⟨c, ns, vs, t, e1, _, e2⟩ := hX m hm
      have e3 := hC m hm
      rw [e1] at e2 e3
      have hin := inX_tints false (B m) k
      unfold encI at e2
      refine ⟨[.sh (made st ps), .sh (.int k), .sh (optD (if decide ((k : Int) ∈ B m) = true then some m else s)), .sh (.int (m : Nat))], ?_, .sh (.int (m : Nat)), rfl⟩
      by_cases hk : (k : Int) ∈ B m <;> simp [forS_cons, Ride_most_change_b1, e3, e2, hin, hk, optD]) ⟨.no, rfl⟩
  have hr := rng1_nat 100 (by decide)
  simp at hr
  generalize hL : lastP (fun m => decide ((k : Int) ∈ B m)) 100 = L
  unfold lastP at hL
  rw [hL] at e
  unfold b_Ride_most_change Ride_most_change_s1 Ride_most_change_s2 Ride_most_change_s3
  generalize rng1 = g at hr ⊢
  simp [hr, e]
theorem most_ok {st : List Stg} {ps : List Int} (h : Ok st ps) {k : Nat} (hk : k < st.length) : F_Ride_most_change [made st ps, .int (k : Nat)] = .ok (optD (lastP (inBest st ps k) 100)) :=
  most_x F_Ride_with_change F_Ride_best st ps k (fun m => made (chg st k (m : Int)) ps) (fun m => bestM (chg st k (m : Int)) ps) (fun m hm => change_ok h hk ⟨by omega, by omega⟩) fun m hm =>
    ⟨0, _, _, _, rfl, rfl, (best_fn (chg_ok h hk ⟨by omega, by omega⟩)).1⟩
/-! ### saved, horses, turned, fewest -/
def savedR (st : List Stg) (ps : List Int) (t : Int) (o : Option (List Int)) : D := match o with
  | none => .non
  | some m => .int (tv st ps m - t)
def savedD (st : List Stg) (ps : List Int) (most : Int) : D := savedR st ps (tv st ps (bestM st ps)) (bestC st ps most)
def horR (r : Rv) (d : D) : Rv := match r with
  | .ok _ => .ok d
  | .ex c ns vs => .ex c ns vs
  | .bad => .bad
theorem saved_x (FW FB : FV) (st : List Stg) (ps : List Int) (most t : Int) (m : List Int) (o : Option (List Int)) (h1 : FW [made st ps, .int most] = .ok (bestRes st ps o)) (h2 : FB [made st ps] = .ok (.tup [.int t, encI m])) : fnV 1 (b_Ride_saved FW FB) [made st ps, .int most] = .ok (savedR st ps t o) := by
  cases o with
  | none =>
    simp only [bestRes] at h1
    simp [b_Ride_saved, h1, isNonD, savedR]
  | some c =>
    simp only [bestRes] at h1
    simp [b_Ride_saved, h1, h2, isNonD, savedR]
theorem saved_ok {st : List Stg} {ps : List Int} (h : Ok st ps) (most : Int) : F_Ride_saved [made st ps, .int most] = .ok (savedD st ps most) :=
  saved_x F_Ride_best_with F_Ride_best st ps most _ _ _ (bestwith_ok st ps most h.n h.p h.l) (best_fn h).1
theorem horses_x (FM : FV) (st : List Stg) (ps cs : List Int) (r : Rv) (h : cs.length ≤ 1000) (h1 : FM [made st ps, .tup (cs.map D.int)] = r) : fnV 2 (b_Ride_horses FM) [made st ps, .tup (cs.map D.int)] = horR r (.tup ((gaps st.length cs).map D.int)) := by
  have hr := rngB cs st.length h
  have e : ∀ x, lcS (bName 3) [3] tYesJ Ride_horses_e1 ((List.range (cs.length + 1)).map fun i => D.int (i : Nat)) [] [.sh (made st ps), .sh (.tup (cs.map D.int)), .sh (.lst ((bnd st.length cs).map D.int)), x] = .ok (.lst ((List.range (cs.length + 1)).map fun i => D.int (bAt st.length cs (i + 1) - bAt st.length cs i))) [.sh (made st ps), .sh (.tup (cs.map D.int)), .sh (.lst ((bnd st.length cs).map D.int)), x] := fun x => lcS_map _ fun i hi => by
    have hi := List.mem_range.mp hi
    have a1 := bnd_at st.length cs (i + 1) (by omega)
    have a2 := bnd_at st.length cs i (by omega)
    rw [show ((i + 1 : Nat) : Int) = (i : Int) + 1 by omega] at a1
    simp [lcS, wipeE, rst, Ride_horses_e1, a1, a2]
  have e2 : ((List.range (cs.length + 1)).map fun i => D.int (bAt st.length cs (i + 1) - bAt st.length cs i)) = (gaps st.length cs).map D.int := by
    unfold gaps
    rw [List.map_map]
    rfl
  simp only [e2] at e
  simp only [List.length_map] at hr
  have e' := e .no
  unfold b_Ride_horses Ride_horses_s1 Ride_horses_s2 Ride_horses_s3
  generalize rng1 = g at hr ⊢
  cases r with
  | ok d => simp [h1, okF_stages, fget, add1 cs h, add2 st.length cs h, hr, noOw, e', horR]
  | ex c ns vs => simp [h1, horR]
  | bad => simp [h1, horR]; rfl
theorem horses_ok {st : List Stg} {ps cs : List Int} (h : Ok st ps) (hc : ChOk st.length cs) (hl : cs.length ≤ 5) : F_Ride_horses [made st ps, .tup (cs.map D.int)] = horR (minR (runM ps cs st 0 0 0)) (.tup ((gaps st.length cs).map D.int)) :=
  horses_x F_Ride_minutes st ps cs _ (by omega) (minutes_ok st ps cs h.p hc)
def turnS (st : List Stg) : List Stg := (List.range st.length).map fun j => ((st.getD (st.length - 1 - j) (0, 0)).1, if st.length - 1 - j + 1 < st.length then (st.getD (st.length - 1 - j + 1) (0, 0)).2 else 0)
theorem turn_ok {st : List Stg} {ps : List Int} (h : Ok st ps) : Ok (turnS st) ps := by
  refine ⟨fun s hs => ?_, by simp [turnS]; exact h.n, h.p, h.l⟩
  obtain ⟨j, hj, rfl⟩ := List.mem_map.mp hs
  have hj := List.mem_range.mp hj
  have h1 : st.length - 1 - j < st.length := by omega
  have a := h.s st[st.length - 1 - j] (List.getElem_mem h1)
  rw [List.getD_eq_getElem?_getD, List.getElem?_eq_getElem h1]
  refine ⟨a.1, a.2.1, ?_⟩
  split
  · rename_i h2
    have b := h.s st[st.length - 1 - j + 1] (List.getElem_mem h2)
    rw [List.getD_eq_getElem?_getD, List.getElem?_eq_getElem h2]
    exact b.2.2
  · exact ⟨Int.le_refl 0, by show (0 : Int) ≤ 99; decide⟩
theorem rngDown (n : Nat) (hn : n ≤ 6) : rng3 [.int ((n : Int) - 1), .int (-1), .int (-1)] = some ((List.range n).map fun j => .int (((n : Int) - 1) - (j : Nat))) := by
  show (if _ then _ else _) = _
  rw [if_pos ⟨rfl, ⟨by omega, by omega, by decide, by decide⟩, by omega⟩]
  unfold rangeDown
  rw [show ((n : Int) - 1 - -1).toNat = n by omega]
  congr 1
  refine List.map_congr_left fun j _ => ?_
  congr 1
  omega
theorem turned_x (FI : FV) (st : List Stg) (ps : List Int) (hn : st.length ≤ 6) (R : D) (h : FI [.lst ((turnS st).map encSt), encPs ps] = .ok R) : fnV 3 (b_Ride_turned FI) [made st ps] = .ok R := by
  have L := forS_filter (b := bName 2) (body := Ride_turned_b1) (e := fun j : Nat => D.int (((st.length : Int) - 1) - (j : Nat))) (fun _ => true) (fun j => encSt ((st.getD (st.length - 1 - j) (0, 0)).1, if st.length - 1 - j + 1 < st.length then (st.getD (st.length - 1 - j + 1) (0, 0)).2 else 0)) (fun acc (x : Sl × Sl) => [.sh (made st ps), .ow (.lst acc), x.1, x.2]) 100 (l := List.range st.length) (acc := []) (x := (.no, .no)) (by simp; omega) (by
      rintro j hj acc ⟨x, y⟩ hs
      have hj := List.mem_range.mp hj
      have h1 : st.length - 1 - j < st.length := by omega
      have i1 := ix_st h1
      rw [show ((st.length - 1 - j : Nat) : Int) = (st.length : Int) - 1 - (j : Nat) by omega] at i1
      have e0 : ∀ s : Stg, encSt s = .tup [.int s.1, .int s.2] := fun _ => rfl
      rw [e0] at i1
      by_cases h2 : st.length - 1 - j + 1 < st.length
      · have i2 := ix_st h2
        rw [show ((st.length - 1 - j + 1 : Nat) : Int) = (st.length : Int) - 1 - (j : Nat) + 1 by omega, e0] at i2
        have hlt : (st.length : Int) - 1 - (j : Nat) + 1 < (st.length : Int) := by omega
        refine ⟨(.sh (.int ((st.length : Int) - 1 - (j : Nat))), .sh (.int (st.getD (st.length - 1 - j + 1) (0, 0)).2)), ?_⟩
        rw [if_pos rfl, if_pos h2, e0]
        dsimp only
        generalize (st.getD (st.length - 1 - j + 1) (0, 0)) = b at i2 ⊢
        generalize (st.getD (st.length - 1 - j) (0, 0)) = a at i1 ⊢
        have ha := appD_ok acc (.tup [.int a.1, .int b.2]) (by omega)
        simp [forS_cons, Ride_turned_b1, okF_stages, fget, hlt, i1, i2, ha]
      · have hlt : ¬ ((st.length : Int) - 1 - (j : Nat) + 1 < (st.length : Int)) := by omega
        refine ⟨(.sh (.int ((st.length : Int) - 1 - (j : Nat))), .sh (.int 0)), ?_⟩
        rw [if_pos rfl, if_neg h2, e0]
        dsimp only
        generalize (st.getD (st.length - 1 - j) (0, 0)) = a at i1 ⊢
        have ha := appD_ok acc (.tup [.int a.1, .int 0]) (by omega)
        simp [forS_cons, Ride_turned_b1, okF_stages, fget, hlt, i1, ha])
  obtain ⟨⟨x, y⟩, L⟩ := L
  have hf : ((List.range st.length).filter fun _ => true) = List.range st.length := List.filter_eq_self.mpr fun _ _ => rfl
  have hT : (List.range st.length).map (fun j => encSt ((st.getD (st.length - 1 - j) (0, 0)).1, if st.length - 1 - j + 1 < st.length then (st.getD (st.length - 1 - j + 1) (0, 0)).2 else 0)) = (turnS st).map encSt := by
    unfold turnS
    rw [List.map_map]
    rfl
  rw [hf, hT, List.nil_append] at L
  have hr := rngDown st.length hn
  dsimp only at L
  unfold b_Ride_turned Ride_turned_s1 Ride_turned_s2 Ride_turned_s3
  generalize rng3 = g at hr ⊢
  generalize (turnS st).map encSt = R2 at L h
  generalize ((List.range st.length).map fun j => D.int (((st.length : Int) - 1) - (j : Nat))) = RL at hr L
  simp [okF_stages, okF_paces, fget, hr, L, h]
theorem turned_ok {st : List Stg} {ps : List Int} (h : Ok st ps) : F_Ride_turned [made st ps] = .ok (made (turnS st) ps) :=
  turned_x F_Ride_init st ps h.n _ ((turn_ok h).ride ⟨_, .inl rfl, by simp, fun i d s h1 h2 => by
    rw [List.getElem?_map, h2] at h1
    cases h1
    exact .inr rfl⟩ (.inr rfl))
end K20

set_option Elab.async false
set_option linter.all false
set_option maxRecDepth 100000
set_option maxHeartbeats 4000000
namespace K20
open PySem PySem.Spec PyProof.Rows L2 J
theorem init_exS {S P : D} {c : Nat} {ns : List Nat} {vs : List D} (hS : F_want_row [S, .fn 0, .int 8] = .ex c ns vs) : F_Ride_init [S, P] = .ex c ns vs := by
  simp [F_Ride_init, b_Ride_init, Ride_init_s1, Ride_init_s2, Ride_init_s3, hS]
theorem init_exP {S P : D} {s : List D} {c : Nat} {ns : List Nat} {vs : List D} (hS : F_want_row [S, .fn 0, .int 8] = .ok (.tup s)) (hP : F_want_row [P, .fn 1, .int 4] = .ex c ns vs) : F_Ride_init [S, P] = .ex c ns vs := by
  simp [F_Ride_init, b_Ride_init, Ride_init_s1, Ride_init_s2, Ride_init_s3, hS, hP, okF_stages, putNs, putVs]
theorem init_empty {S P : D} {s : List D} (hS : F_want_row [S, .fn 0, .int 8] = .ok (.tup s)) (hP : F_want_row [P, .fn 1, .int 4] = .ok (.tup [])) : F_Ride_init [S, P] = .ex 1 [1] [.non] := by
  simp [F_Ride_init, b_Ride_init, Ride_init_s1, Ride_init_s2, Ride_init_s3, hS, hP, okF_stages, okF_paces, putNs, putVs, fget, eqD, eqv_ii]
theorem raised_item (FI : FV) {S P x : D} (h : FI [S, P] = .ex 1 [1] [x]) : fnV 1 (b__law_raised FI) [S, P] = .ok (.tup [.str "item", x]) := by
  simp [b__law_raised, _law_raised_y1, _law_raised_x1, _law_raised_x2, h, hd_BadItem, hd_TooMany, noEx, isEx, okX_index, fget]
theorem raised_many (FI : FV) {S P x : D} (h : FI [S, P] = .ex 2 [2] [x]) : fnV 1 (b__law_raised FI) [S, P] = .ok (.tup [.str "many", x]) := by
  simp [b__law_raised, _law_raised_y1, _law_raised_x1, _law_raised_x2, h, hd_BadItem, hd_TooMany, noEx, isEx, okX_limit, fget]
theorem row_same (a : Str) (x : D) (hx : x = .non ∨ ∃ i, x = .int i) : F__law_refused_row [.tup [.str a, x], .tup [.str a, x]] = .ok (.bl true) := by
  have hw : F__law_whole = isWholeF := rfl
  have h1 : isWholeF [x] = .ok (.bl (isInt x)) := isWhole_ok x (by rcases hx with rfl | ⟨i, rfl⟩ <;> rfl)
  have h2 : eqD (.tup [.str a, x]) (.tup [.str a, x]) = some (.bl true) := by
    rcases hx with rfl | ⟨i, rfl⟩ <;> simp [eqD, eqv_tt, eqvs_cc, eqv_ss, eqv_ii, eqv, eqvs]
  have h3 : eqD (.bl (isInt x)) (.bl (isInt x)) = some (.bl true) := by simp [eqD, eqv]
  simp [F__law_refused_row, b__law_refused_row, hw, h1, h2, h3]
@[simp] theorem isEx_no : isEx .no = false := rfl
@[simp] theorem isEx_sh (d : D) : isEx (.sh d) = false := rfl
@[simp] theorem isEx_ow (d : D) : isEx (.ow d) = false := rfl
@[simp] theorem isEx_ex (c : Nat) (ns : List Nat) (vs : List D) : isEx (.ex c ns vs) = true := rfl
variable {st : List Stg} {ps : List Int}
theorem wantS_enc (h : Ok st ps) : F_want_row [encSs st, .fn 0, .int 8] = .ok (.tup (st.map encSt)) := wantS_ok (rowS_enc st) h.s (by have := h.n; omega)
theorem wantS_bad (h : Ok st ps) (bad : D) (hb : bad ∈ [D.tup [.int 0, .int 1], .tup [.int 100, .int 1], .tup [.int 1, .int 100], .tup [.int 1], .non, .tup [.bl true, .int 1]]) : F_want_row [.tup (st.map encSt ++ [bad]), .fn 0, .int 8] = .ex 1 [1] [.int (st.length : Nat)] := by
  have h2 : pl2 bad = true ∧ stageB bad = false := by
    simp only [List.mem_cons, List.not_mem_nil, or_false] at hb
    rcases hb with rfl | rfl | rfl | rfl | rfl | rfl <;> exact ⟨rfl, rfl⟩
  have h1 : ∀ d ∈ st.map encSt, pl2 d = true ∧ stageB d = true := fun d hd => by
    obtain ⟨s, ms, rfl⟩ := List.mem_map.mp hd
    have := h.s s ms
    obtain ⟨a, b, c, _⟩ := stage_of (d := encSt s) (s := s) (.inr rfl)
    exact ⟨a, b this⟩
  have hba := badAt_at (ok := stageB) (ds := st.map encSt) (es := []) (d := bad) (i := 0) (fun d hd => (h1 d hd).2) h2.2
  rw [e_want_row, wantRow_spec (F := F_is_stage) (ok := stageB) rfl (.tup (st.map encSt ++ [bad])) 8 rfl (st.map encSt ++ [bad]) (.inr rfl) (fun d hd => isStage_ok d (by
    rcases List.mem_append.mp hd with q | q
    · exact (h1 d q).1
    · rw [List.mem_singleton.mp q]; exact h2.1)) (fun _ hall => by
      have := hall bad (by simp)
      rw [h2.2] at this; cases this), hba]
  simp
theorem wantS_many : F_want_row [.tup (List.replicate 9 (.tup [.int 1, .int 1])), .fn 0, .int 8] = .ex 2 [2] [.int 8] := by
  rw [e_want_row, wantRow_spec (F := F_is_stage) (ok := stageB) rfl _ 8 rfl (List.replicate 9 (.tup [.int 1, .int 1])) (.inr rfl) (fun d hd => isStage_ok d (by rw [(List.mem_replicate.mp hd).2]; rfl)) (fun hz _ => by simp at hz), badAt_none (fun d hd => by rw [(List.mem_replicate.mp hd).2]; rfl)]
  rfl
theorem wantP_bad (w : D) (hw : w ∈ [D.int 0, .int 61, .bl true, .non]) : F_want_row [.tup [.int 1, w], .fn 1, .int 4] = .ex 1 [1] [.int 1] := by
  have h2 : plain w = true ∧ numIn 1 60 w = false := by
    simp only [List.mem_cons, List.not_mem_nil, or_false] at hw
    rcases hw with rfl | rfl | rfl | rfl <;> exact ⟨rfl, rfl⟩
  rw [e_want_row, wantRow_spec (F := F_is_pace) (ok := numIn 1 60) rfl _ 4 rfl [.int 1, w] (.inr rfl) (fun d hd => isPace_ok d (by
    rcases List.mem_cons.mp hd with rfl | q
    · rfl
    · rw [List.mem_singleton.mp q]; exact h2.1)) (fun _ hall => by
      have := hall w (by simp)
      rw [h2.2] at this; cases this)]
  have : badAt (numIn 1 60) [.int 1, w] 0 = some 1 := by
    have z := badAt_at (ok := numIn 1 60) (ds := [.int 1]) (es := []) (d := w) (i := 0) (fun d hd => by rw [List.mem_singleton.mp hd]; rfl) h2.2
    exact z
  rw [this]
  rfl
theorem wantP_empty : F_want_row [.tup [], .fn 1, .int 4] = .ok (.tup []) := wantP_ok (ps := []) (.inr rfl) (fun _ h => by cases h) (by decide)
theorem wantP_many : F_want_row [.tup (List.replicate 5 (.int 1)), .fn 1, .int 4] = .ex 2 [2] [.int 4] := by
  rw [e_want_row, wantRow_spec (F := F_is_pace) (ok := numIn 1 60) rfl _ 4 rfl (List.replicate 5 (.int 1)) (.inr rfl) (fun d hd => isPace_ok d (by rw [(List.mem_replicate.mp hd).2]; rfl)) (fun hz _ => by simp at hz), badAt_none (fun d hd => by rw [(List.mem_replicate.mp hd).2]; rfl)]
  rfl
theorem want_none (k m : Nat) : F_want_row [.non, .fn k, .int m] = .ex 1 [1] [.non] := by
  rw [e_want_row]
  exact wantRow_none _ _ rfl rfl
/-! ### refused changes -/
theorem min_bad1 (v : D) (hv : plain v = true) (hn : numIn 1 ((st.length : Int) - 1) v = false) : F_Ride_minutes [made st ps, .tup [v]] = .ex 1 [1] [.int 0] := by
  have h1 := isNumber_ok v 1 ((st.length : Int) - 1) hv
  rw [hn] at h1
  simp [F_Ride_minutes, b_Ride_minutes, Ride_minutes_s1, Ride_minutes_b1, enumL, forS_cons, e_number, okF_stages, fget, h1]
theorem min_bad2 : F_Ride_minutes [made st ps, .tup [.int 1, .int 1]] = .ex 1 [1] [.int (if st.length < 2 then 0 else 1)] := by
  have h1 := isNumber_ok (.int 1) 1 ((st.length : Int) - 1) rfl
  rw [numIn_int] at h1
  by_cases hl : st.length < 2
  · rw [decide_eq_false (by omega)] at h1
    simp [F_Ride_minutes, b_Ride_minutes, Ride_minutes_s1, Ride_minutes_b1, enumL, forS_cons, e_number, okF_stages, fget, h1, hl]
  · rw [decide_eq_true (by omega)] at h1
    simp [F_Ride_minutes, b_Ride_minutes, Ride_minutes_s1, Ride_minutes_b1, enumL, forS_cons, e_number, okF_stages, fget, h1, hl]
theorem change_bad (v m : D) (hv : plain v = true) (hn : numIn 0 ((st.length : Int) - 1) v = false) : F_Ride_with_change [made st ps, v, m] = .ex 1 [1] [v] := by
  have h1 := isNumber_ok v 0 ((st.length : Int) - 1) hv
  rw [hn] at h1
  simp [F_Ride_with_change, b_Ride_with_change, Ride_with_change_s1, e_number, okF_stages, fget, h1]
theorem most_bad (FB FC : FV) (v : D) (h : FC [made st ps, v, .int 0] = .ex 1 [1] [v]) : fnV 2 (b_Ride_most_change FB FC) [made st ps, v] = .ex 1 [1] [v] := by
  have hr := rng1_nat 100 (by decide)
  simp at hr
  have hl : List.range 100 = 0 :: (List.range 99).map (· + 1) := by rw [List.range_succ_eq_map]
  rw [hl, List.map_cons] at hr
  unfold b_Ride_most_change Ride_most_change_s1 Ride_most_change_s2 Ride_most_change_s3
  generalize rng1 = g at hr ⊢
  simp at hr
  simp [hr, forS_cons, Ride_most_change_b1, h]
theorem minutes_bad (v : D) (hv : plain v = true) (hn : numIn 0 9999 v = false) : F_want_minutes [v] = .ex 0 [0] [v] := by
  have h1 := wantNumber_ok 0 0 v 0 9999 hv
  rw [hn] at h1
  simp at h1
  simp [F_want_minutes, b_want_minutes, e_want_number, h1]
abbrev RE (r : D) (st : List Stg) (ps : List Int) (a b c d e f g h i : Sl) : En := [.ow r, .sh (made st ps), .sh (encSs st), .sh (encPs ps), a, b, c, d, e, f, g, h, i]
theorem ref1 (FM : FV) (r : D) (l : List (D × Int)) (hl : ∀ p ∈ l, FM [made st ps, p.1] = .ex 1 [1] [.int p.2]) : ∃ a d, isEx a = false ∧ isEx d = false ∧ forS (bTup 2 (bCons (bName 4) (bCons (bName 7) bNil))) (_law_refused_b1 FM) (l.map fun p => D.tup [p.1, .int p.2]) (RE r st ps .no .no .no .no .no .no .no .no .no) = .ok .nx (RE r st ps a .no .no d .no .no .no .no .no) := by
  have L := forS_fold (b := bTup 2 (bCons (bName 4) (bCons (bName 7) bNil))) (body := _law_refused_b1 FM) (e := fun p : D × Int => D.tup [p.1, .int p.2]) (l := l) (s := ()) (ρ := RE r st ps .no .no .no .no .no .no .no .no .no) (fun _ ρ => ∃ a d, isEx a = false ∧ isEx d = false ∧ ρ = RE r st ps a .no .no d .no .no .no .no .no) (fun s _ => s) (by
    rintro ⟨v, x⟩ hp _ ρ ⟨a, d, ha, hd, rfl⟩
    have h1 := hl _ hp
    dsimp only at h1
    refine ⟨RE r st ps (.sh v) .no .no (.sh (.int x)) .no .no .no .no .no, ?_, _, _, rfl, rfl, rfl⟩
    simp [forS_cons, _law_refused_b1, _law_refused_y1, _law_refused_x1, h1, hd_BadItem, noEx, okX_index, fget, neD, eqv_ii]) ⟨.no, .no, rfl, rfl, rfl⟩
  obtain ⟨ρ', e, a, d, h1, h2, rfl⟩ := L
  exact ⟨a, d, h1, h2, e⟩
theorem rng_two : rng1 [.int 2] = some [.int 0, .int 1] := by
  have := rng1_nat 2 (by decide)
  exact this
theorem ref2 (FC FO : FV) (r : D) (l : List D) (hl : ∀ v ∈ l, FC [made st ps, v, .int 1] = .ex 1 [1] [v] ∧ FO [made st ps, v] = .ex 1 [1] [v] ∧ reprOk v = true) (a d : Sl) (ha : isEx a = false) (hd : isEx d = false) : ∃ a' g, isEx a' = false ∧ isEx g = false ∧ forS (bName 4) (_law_refused_b3 FC FO) l (RE r st ps a .no .no d .no .no .no .no .no) = .ok .nx (RE r st ps a' .no .no d .no g .no .no .no) := by
  have L := forS_fold (b := bName 4) (body := _law_refused_b3 FC FO) (e := fun v : D => v) (l := l) (s := ()) (ρ := RE r st ps a .no .no d .no .no .no .no .no) (fun _ ρ => ∃ a g, isEx a = false ∧ isEx g = false ∧ ρ = RE r st ps a .no .no d .no g .no .no .no) (fun s _ => s) (by
    rintro v hv _ ρ ⟨a, g, ha, hg, rfl⟩
    obtain ⟨h1, h2, h3⟩ := hl _ hv
    have hr := rng_two
    refine ⟨RE r st ps (.sh v) .no .no d .no (.sh (.int 1)) .no .no .no, ?_, _, _, rfl, rfl, rfl⟩
    unfold _law_refused_b3 _law_refused_b2 _law_refused_y2 _law_refused_x2
    generalize rng1 = R at hr ⊢
    simp [forS_cons, h1, h2, h3, hr, hd_BadItem, noEx, hd, okX_index, fget, eqD, eqv_ii]) ⟨a, .no, ha, rfl, rfl⟩
  rw [List.map_id'] at L
  obtain ⟨ρ', e, a, g, h1, h2, rfl⟩ := L
  exact ⟨a, g, h1, h2, e⟩
theorem ref3 (FW : FV) (r : D) (l : List D) (hl : ∀ v ∈ l, FW [v] = .ex 0 [0] [v] ∧ reprOk v = true) (a d g : Sl) (ha : isEx a = false) (hd : isEx d = false) (hg : isEx g = false) : ∃ b, isEx b = false ∧ forS (bName 5) (_law_refused_b4 FW) l (RE r st ps a .no .no d .no g .no .no .no) = .ok .nx (RE r st ps a b .no d .no g .no .no .no) := by
  have L := forS_fold (b := bName 5) (body := _law_refused_b4 FW) (e := fun v : D => v) (l := l) (s := ()) (ρ := RE r st ps a .no .no d .no g .no .no .no) (fun _ ρ => ∃ b, isEx b = false ∧ ρ = RE r st ps a b .no d .no g .no .no .no) (fun s _ => s) (by
    rintro v hv _ ρ ⟨b, hb, rfl⟩
    obtain ⟨h1, h3⟩ := hl _ hv
    refine ⟨RE r st ps a (.sh v) .no d .no g .no .no .no, ?_, _, rfl, rfl⟩
    simp [forS_cons, _law_refused_b4, _law_refused_y3, _law_refused_x3, h1, h3, hd_BadNumber, noEx, ha, hd, hg, okX_value, fget]) ⟨.no, rfl, rfl⟩
  rw [List.map_id'] at L
  obtain ⟨ρ', e, b, h1, rfl⟩ := L
  exact ⟨b, h1, e⟩
abbrev chkD (S P : D) (k : Str) (x : D) : D := .tup [.tup [S, P], .tup [.str k, x]]
theorem ref7 (RR RD : FV) (ρ : En) (h12 : ∃ l, ρ = l ++ [.no] ∧ l.length = 12) (cs : List D) (hc : ∀ c ∈ cs, ∃ S P k x, c = chkD S P k x ∧ RD [S, P] = .ok (.tup [.str k, x]) ∧ RR [.tup [.str k, x], .tup [.str k, x]] = .ok (.bl true)) : lcS (bName 12) [12] (_law_refused_t1 RR RD) _law_refused_e1 cs [] ρ = .ok (.lst []) ρ := by
  have := lcS_filter (b := bName 12) (vs := [12]) (t := _law_refused_t1 RR RD) (f := _law_refused_e1) (ρ := ρ) (e := fun c : D => c) (l := cs) (fun _ => false) (fun c => c) (by
    rintro c hcc
    obtain ⟨S, P, k, x, rfl, h1, h2⟩ := hc c hcc
    obtain ⟨l, rfl, hl⟩ := h12
    match l, hl with
    | [a, b, c, d, e, f, g, h, i, j, k, m], _ => simp [lcS, wipeE, rst, _law_refused_t1, h1, h2])
  rw [List.map_id', List.filter_eq_nil_iff.mpr (by simp)] at this
  exact this
theorem reps (n : Nat) (hn : n ≤ 6) : ∀ v ∈ [D.int (-1), .int (n : Nat), .bl true, .non], reprOk v = true := by
  intro v hv
  simp only [List.mem_cons, List.not_mem_nil, or_false] at hv
  rcases hv with rfl | rfl | rfl | rfl
  · decide +kernel
  · rcases (by omega : n = 0 ∨ n = 1 ∨ n = 2 ∨ n = 3 ∨ n = 4 ∨ n = 5 ∨ n = 6) with rfl | rfl | rfl | rfl | rfl | rfl | rfl <;> decide +kernel
  · decide +kernel
  · decide +kernel
theorem reps3 : ∀ v ∈ [D.int (-1), .int 10000, .bl true, .non], reprOk v = true := by
  intro v hv
  simp only [List.mem_cons, List.not_mem_nil, or_false] at hv
  rcases hv with rfl | rfl | rfl | rfl <;> decide +kernel
end K20

set_option Elab.async false
set_option linter.all false
set_option maxRecDepth 100000
set_option maxHeartbeats 4000000
namespace K20
open PySem PySem.Spec PyProof.Rows L2 J
variable {st : List Stg} {ps : List Int}
def L1 (n : Nat) : List (D × Int) := [(.tup [.int 0], 0), (.tup [.int n], 0), (.tup [.int 1, .int 1], if n < 2 then 0 else 1), (.tup [.bl true], 0), (.tup [.non], 0)]
def L2' (n : Nat) : List D := [.int (-1), .int (n : Nat), .bl true, .non]
def L3 : List D := [.int (-1), .int 10000, .bl true, .non]
def bads : List D := [.tup [.int 0, .int 1], .tup [.int 100, .int 1], .tup [.int 1, .int 100], .tup [.int 1], .non, .tup [.bl true, .int 1]]
def wors : List D := [.int 0, .int 61, .bl true, .non]
def chks (st : List Stg) (bad worse : D) : List D := [chkD (.tup (st.map encSt ++ [bad])) .non "item" (.int (st.length : Nat)), chkD .non .non "item" .non, chkD (.tup (List.replicate 9 (.tup [.int 1, .int 1]))) .non "many" (.int 8), chkD (encSs st) (.tup [.int 1, worse]) "item" (.int 1)] ++ [chkD (encSs st) (.tup []) "item" .non, chkD (encSs st) .non "item" .non, chkD (encSs st) (.tup (List.replicate 5 (.int 1))) "many" (.int 4)]
theorem mul9 (x : D) : mulX (.tup [x]) (.int 9) = some (.tup (List.replicate 9 x)) := by
  show (if 2 ≤ (9 : Int) ∧ (9 : Int) ≤ 1000 ∧ [x].length ≤ 1000 then some (D.tup (List.replicate (9 : Int).toNat [x]).flatten) else none) = _
  rw [if_pos ⟨by decide, by decide, by simp⟩]
  rfl
theorem mul5 (x : D) : mulX (.tup [x]) (.int 5) = some (.tup (List.replicate 5 x)) := by
  show (if 2 ≤ (5 : Int) ∧ (5 : Int) ≤ 1000 ∧ [x].length ≤ 1000 then some (D.tup (List.replicate (5 : Int).toNat [x]).flatten) else none) = _
  rw [if_pos ⟨by decide, by decide, by simp⟩]
  rfl
theorem refused_x (FM FC FO FW : FV) (PK : FL) (RR RD SB : FV) (r r1 r2 bad worse : D) (hn : st.length ≤ 6) (h1 : ∀ p ∈ L1 st.length, FM [made st ps, p.1] = .ex 1 [1] [.int p.2])
    (h2 : ∀ v ∈ L2' st.length, FC [made st ps, v, .int 1] = .ex 1 [1] [v] ∧ FO [made st ps, v] = .ex 1 [1] [v]) (h3 : ∀ v ∈ L3, FW [v] = .ex 0 [0] [v]) (h4 : PK r [.lst bads] = some (bad, r1)) (h5 : PK r1 [.lst wors] = some (worse, r2))
    (h6 : ∀ c ∈ chks st bad worse, ∃ S P k x, c = chkD S P k x ∧ RD [S, P] = .ok (.tup [.str k, x]) ∧ RR [.tup [.str k, x], .tup [.str k, x]] = .ok (.bl true)) (h7 : SB [.lst [.int 1, .int 2]] = .ok (.lst [.tup [], .tup [.int 1], .tup [.int 2], .tup [.int 1, .int 2]])) (h8 : FW [.int 9999] = .ok (.int 9999)) :
    fnL 9 (b__law_refused FM FC FO FW PK RR RD SB) r [made st ps, encSs st, encPs ps] = some (.bl true, r2) := by
  obtain ⟨a, d, ha, hd, e1⟩ := ref1 (st := st) (ps := ps) FM r (L1 st.length) h1
  obtain ⟨a2, g, ha2, hg, e2⟩ := ref2 (st := st) (ps := ps) FC FO r (L2' st.length) (fun v hv => ⟨(h2 v hv).1, (h2 v hv).2, reps _ hn v hv⟩) a d ha hd
  obtain ⟨b, hb, e3⟩ := ref3 (st := st) (ps := ps) FW r L3 (fun v hv => ⟨h3 v hv, reps3 v hv⟩) a2 d g ha2 hd hg
  have e4 := ref7 RR RD (RE r2 st ps a2 b (.sh (.lst (chks st bad worse))) d .no g (.sh bad) (.sh worse) .no) ⟨[.ow r2, .sh (made st ps), .sh (encSs st), .sh (encPs ps), a2, b, .sh (.lst (chks st bad worse)), d, .no, g, .sh bad, .sh worse], rfl, rfl⟩ (chks st bad worse) h6
  have hadd : addD (encSs st) (.tup [bad]) = some (.tup (st.map encSt ++ [bad])) := add_tt _ _ (by simp; omega)
  have m9 := mul9 (.tup [.int 1, .int 1])
  have m5 := mul5 (.int 1)
  have hch : addD (.lst [chkD (.tup (st.map encSt ++ [bad])) .non "item" (.int (st.length : Nat)), chkD .non .non "item" .non, chkD (.tup (List.replicate 9 (.tup [.int 1, .int 1]))) .non "many" (.int 8), chkD (encSs st) (.tup [.int 1, worse]) "item" (.int 1)]) (.lst [chkD (encSs st) (.tup []) "item" .non, chkD (encSs st) .non "item" .non, chkD (encSs st) (.tup (List.replicate 5 (.int 1))) "many" (.int 4)]) = some (.lst (chks st bad worse)) := add_ll _ _ (by simp)
  have hix : L2.atI [D.int 1, D.int 0] (if (st.length : Int) < 2 then 1 else 0) = some (.int (if st.length < 2 then 0 else 1)) := by
    by_cases hl : st.length < 2
    · rw [if_pos (by omega), if_pos hl]; rfl
    · rw [if_neg (by omega), if_neg hl]; rfl
  have hix' : L2.atI [D.int 1, D.int 0] (if st.length < 2 then 1 else 0) = some (.int (if st.length < 2 then 0 else 1)) := by
    by_cases hl : st.length < 2
    · rw [if_pos hl, if_pos hl]; rfl
    · rw [if_neg hl, if_neg hl]; rfl
  have s1 : _law_refused_s1 FM (RE r st ps .no .no .no .no .no .no .no .no .no) = .ok .nx (RE r st ps a .no .no d .no .no .no .no .no) := by
    rw [← e1]
    simp [_law_refused_s1, L1, hix, hix']
  have s2 : _law_refused_s2 FC FO (RE r st ps a .no .no d .no .no .no .no .no) = .ok .nx (RE r st ps a2 .no .no d .no g .no .no .no) := by
    rw [← e2]
    simp [_law_refused_s2, L2']
  have s3 : _law_refused_s3 FW (RE r st ps a2 .no .no d .no g .no .no .no) = .ok .nx (RE r st ps a2 b .no d .no g .no .no .no) := by
    rw [← e3]
    simp [_law_refused_s3, L3]
  have s4 : _law_refused_s4 PK (RE r st ps a2 b .no d .no g .no .no .no) = .ok .nx (RE r2 st ps a2 b .no d .no g (.sh bad) (.sh worse) .no) := by
    unfold bads at h4
    unfold wors at h5
    simp [_law_refused_s4, h4, h5]
  have s56 : (_law_refused_s5 (RE r2 st ps a2 b .no d .no g (.sh bad) (.sh worse) .no)).sq _law_refused_s6 = .ok .nx (RE r2 st ps a2 b (.sh (.lst (chks st bad worse))) d .no g (.sh bad) (.sh worse) .no) := by
    generalize chks st bad worse = C at hch ⊢
    generalize List.replicate 9 (D.tup [.int 1, .int 1]) = R9 at m9 hch
    generalize List.replicate 5 (D.int 1) = R5 at m5 hch
    generalize st.map encSt ++ [bad] = SB at hadd hch
    unfold chkD at hch
    unfold _law_refused_s5 _law_refused_s6
    generalize mulX = mm at m9 m5 ⊢
    simp [hadd, m9, m5, hch]
  have s7 : _law_refused_s7 RR RD SB FW (RE r2 st ps a2 b (.sh (.lst (chks st bad worse))) d .no g (.sh bad) (.sh worse) .no) = .ok (.rt (.bl true)) (RE r2 st ps a2 b (.sh (.lst (chks st bad worse))) d .no g (.sh bad) (.sh worse) .no) := by
    generalize chks st bad worse = C at e4 ⊢
    simp [_law_refused_s7, noOw, e4, eqD, eqv_ll, eqvs, h7, h8, eqv, eqv_tt]
  have fin : b__law_refused FM FC FO FW PK RR RD SB (RE r st ps .no .no .no .no .no .no .no .no .no) = .ok (.rt (.bl true)) (RE r2 st ps a2 b (.sh (.lst (chks st bad worse))) d .no g (.sh bad) (.sh worse) .no) := by
    unfold b__law_refused
    rw [e_sCons, s1, Rs.sq_nx, e_sCons, s2, Rs.sq_nx, e_sCons, s3, Rs.sq_nx, e_sCons, s4, Rs.sq_nx, e_sCons]
    have : (_law_refused_s5 (RE r2 st ps a2 b .no d .no g (.sh bad) (.sh worse) .no)).sq (sCons _law_refused_s6 (_law_refused_s7 RR RD SB FW)) = ((_law_refused_s5 (RE r2 st ps a2 b .no d .no g (.sh bad) (.sh worse) .no)).sq _law_refused_s6).sq (_law_refused_s7 RR RD SB FW) := by
      cases _law_refused_s5 (RE r2 st ps a2 b .no d .no g (.sh bad) (.sh worse) .no) with
      | ok fl ρ => cases fl <;> rfl
      | ex _ _ _ _ => rfl
      | bad => rfl
    rw [this, s56, Rs.sq_nx, s7]
  rw [e_fnL]
  exact congrArg toL fin
end K20

set_option Elab.async false
set_option linter.all false
set_option maxRecDepth 100000
set_option maxHeartbeats 4000000
namespace K20
open PySem PySem.Spec PyProof.Rows L2 J
theorem lcS_runI {α σ : Type} {b : BF} {vs : List Nat} {t : TF} {f : EF} {enc : σ → En} {e : α → D} (I : σ → Prop) (P : α → D → Prop) : ∀ {l : List α} {acc : List D} {s : σ}, I s → (∀ a ∈ l, ∀ s, I s → ∃ (s' : σ) (y : D), lcS b vs t f [e a] [] (enc s) = .ok (.lst [y]) (enc s') ∧ I s' ∧ P a y) →
    ∃ (s' : σ) (ys : List D), lcS b vs t f (l.map e) acc (enc s) = .ok (.lst (acc ++ ys)) (enc s') ∧ I s' ∧ ys.length = l.length ∧ ∀ (i : Nat) (y : D) (a : α), ys[i]? = some y → l[i]? = some a → P a y
  | [], acc, s, hs, _ => ⟨s, [], by simp [lcS], hs, rfl, fun i y a h => by simp at h⟩
  | a :: l, acc, s, hs, h => by
    obtain ⟨s1, y, e1, h1, p1⟩ := h a List.mem_cons_self s hs
    obtain ⟨s2, ys, e2, h2, l2, p2⟩ := lcS_runI (acc := acc ++ [y]) I P h1 fun c hc => h c (List.mem_cons_of_mem _ hc)
    refine ⟨s2, y :: ys, ?_, h2, by simp [l2], fun i z c hz hc => ?_⟩
    · rw [List.map_cons, lcS_step e1, e2]
      simp
    · cases i with
      | zero => cases hz; cases hc; exact p1
      | succ i => exact p2 i z c hz hc
theorem refused_ok {st : List Stg} {ps : List Int} (h : Ok st ps) (ns : List Int) (s : Dr) (hs : s.ok) : ∃ r', F__law_refused (encR ns s) [made st ps, encSs st, encPs ps] = some (.bl true, r') := by
  obtain ⟨bad, s1, e1, o1, m1⟩ := pickF_ok ns s hs (.lst bads) bads (.inl rfl) (by decide) (by decide)
  obtain ⟨wor, s2, e2, o2, m2⟩ := pickF_ok ns s1 o1 (.lst wors) wors (.inl rfl) (by decide) (by decide)
  refine ⟨encR ns s2, refused_x F_Ride_minutes F_Ride_with_change F_Ride_most_change F_want_minutes F__law_pick F__law_refused_row F__law_raised F_subsets _ _ _ bad wor h.n ?_ ?_ ?_ e1 e2 ?_ ?_ ?_⟩
  · intro p hp
    simp only [L1, List.mem_cons, List.not_mem_nil, or_false] at hp
    rcases hp with rfl | rfl | rfl | rfl | rfl
    · exact min_bad1 _ rfl (by rw [numIn_int, decide_eq_false]; omega)
    · exact min_bad1 _ rfl (by rw [numIn_int, decide_eq_false]; omega)
    · exact min_bad2
    · exact min_bad1 _ rfl rfl
    · exact min_bad1 _ rfl rfl
  · intro v hv
    have key : plain v = true ∧ numIn 0 ((st.length : Int) - 1) v = false := by
      simp only [L2', List.mem_cons, List.not_mem_nil, or_false] at hv
      rcases hv with rfl | rfl | rfl | rfl
      · exact ⟨rfl, by rw [numIn_int, decide_eq_false]; omega⟩
      · exact ⟨rfl, by rw [numIn_int, decide_eq_false]; omega⟩
      · exact ⟨rfl, rfl⟩
      · exact ⟨rfl, rfl⟩
    exact ⟨change_bad v _ key.1 key.2, most_bad F_Ride_best F_Ride_with_change v (change_bad v _ key.1 key.2)⟩
  · intro v hv
    simp only [L3, List.mem_cons, List.not_mem_nil, or_false] at hv
    rcases hv with rfl | rfl | rfl | rfl <;> exact minutes_bad _ rfl (by decide)
  · intro c hc
    have hS := wantS_enc h
    simp only [chks, List.cons_append, List.nil_append, List.mem_cons, List.not_mem_nil, or_false] at hc
    rcases hc with rfl | rfl | rfl | rfl | rfl | rfl | rfl
    · exact ⟨_, _, _, _, rfl, raised_item F_Ride_init (init_exS (wantS_bad h bad m1)), row_same _ _ (.inr ⟨_, rfl⟩)⟩
    · exact ⟨_, _, _, _, rfl, raised_item F_Ride_init (init_exS (want_none 0 8)), row_same _ _ (.inl rfl)⟩
    · exact ⟨_, _, _, _, rfl, raised_many F_Ride_init (init_exS wantS_many), row_same _ _ (.inr ⟨_, rfl⟩)⟩
    · exact ⟨_, _, _, _, rfl, raised_item F_Ride_init (init_exP hS (wantP_bad wor m2)), row_same _ _ (.inr ⟨_, rfl⟩)⟩
    · exact ⟨_, _, _, _, rfl, raised_item F_Ride_init (init_empty hS wantP_empty), row_same _ _ (.inl rfl)⟩
    · exact ⟨_, _, _, _, rfl, raised_item F_Ride_init (init_exP hS (want_none 1 4)), row_same _ _ (.inl rfl)⟩
    · exact ⟨_, _, _, _, rfl, raised_many F_Ride_init (init_exP hS wantP_many), row_same _ _ (.inr ⟨_, rfl⟩)⟩
  · exact subs_ok 3 (by decide)
  · have := wantNumber_ok 0 0 (.int 9999) 0 9999 rfl
    simp at this
    simp [F_want_minutes, b_want_minutes, e_want_number, this]
/-! ### what is drawn -/
theorem draw2 (ns : List Int) (s : Dr) (hs : s.ok) (sc : D) : ∃ (st : List Stg) (s' : Dr), s'.ok ∧ st.length ≤ 6 ∧ (∀ x ∈ st, OkS x) ∧ law_s2 takenF (.sh sc :: .ow (encR ns s) :: .no :: List.replicate 19 .no) = .ok .nx (.sh sc :: .ow (encR ns s') :: .sh (encSs st) :: List.replicate 19 .no) := by
  obtain ⟨v, s1, e1, o1, l1, u1⟩ := taken_ok ns s hs 7 (by decide) (by decide)
  obtain ⟨s2, ys, e2, o2, hl, hy⟩ := lcS_runI (b := bName 11) (vs := [11]) (t := tYesJ) (f := law_e1 takenF) (enc := fun s : Dr => .sh sc :: .ow (encR ns s) :: .no :: List.replicate 19 .no) (e := fun i : Nat => D.int (i : Nat)) Dr.ok (fun _ y => ∃ x : Stg, y = encSt x ∧ OkS x) (l := List.range v.toNat) (acc := []) (s := s1) o1 (by
    intro i _ s hs
    obtain ⟨a, s1, e1, o1, l1, u1⟩ := taken_ok ns s hs 12 (by decide) (by decide)
    obtain ⟨c, s2, e2, o2, l2, u2⟩ := taken_ok ns s1 o1 15 (by decide) (by decide)
    refine ⟨s2, encSt (1 + a, c), ?_, o2, _, rfl, by show 1 ≤ 1 + a; omega, by show 1 + a ≤ 99; omega, l2, by show c ≤ 99; omega⟩
    simp [lcS, wipeE, rst, law_e1, e1, e2, encSt])
  obtain ⟨xs, rfl, hx⟩ := all_map (g := encSt) (Q := OkS) (fun y hy' => by
    obtain ⟨i, hi⟩ := List.mem_iff_getElem?.mp hy'
    have h1 := (List.getElem?_eq_some_iff.mp hi).1
    rw [hl] at h1
    exact hy i y _ hi (List.getElem?_eq_getElem h1))
  have hr := rng1_nat v.toNat (by omega)
  rw [show ((v.toNat : Nat) : Int) = v by omega] at hr
  refine ⟨xs, s2, o2, by simp at hl; omega, hx, ?_⟩
  rw [List.nil_append] at e2
  unfold law_s2
  generalize rng1 = g at hr ⊢
  try simp at e2
  simp [e1, hr, noOw, e2]
theorem draw3 (ns : List Int) (s : Dr) (hs : s.ok) (sc S : D) : ∃ (f : Int) (s' : Dr), s'.ok ∧ 1 ≤ f ∧ f ≤ 5 ∧ law_s3 takenF (.sh sc :: .ow (encR ns s) :: .sh S :: List.replicate 19 .no) = .ok .nx (.sh sc :: .ow (encR ns s') :: .sh S :: .sh (.int f) :: List.replicate 18 .no) := by
  obtain ⟨v, s1, e1, o1, l1, u1⟩ := taken_ok ns s hs 5 (by decide) (by decide)
  refine ⟨1 + v, s1, o1, by omega, by omega, ?_⟩
  simp [law_s3, e1]
theorem draw4 (ns : List Int) (s : Dr) (hs : s.ok) (sc S : D) (f : Int) (hf : 1 ≤ f ∧ f ≤ 5) : ∃ (ps : List Int) (s' : Dr), s'.ok ∧ (1 ≤ ps.length ∧ ps.length ≤ 3) ∧ (∀ p ∈ ps, OkP p) ∧ law_s4 takenF (.sh sc :: .ow (encR ns s) :: .sh S :: .sh (.int f) :: List.replicate 18 .no) = .ok .nx (.sh sc :: .ow (encR ns s') :: .sh S :: .sh (.int f) :: .sh (encPs ps) :: List.replicate 17 .no) := by
  obtain ⟨v, s1, e1, o1, l1, u1⟩ := taken_ok ns s hs 3 (by decide) (by decide)
  obtain ⟨s2, ys, e2, o2, hl, hy⟩ := lcS_runI (b := bName 11) (vs := [11]) (t := tYesJ) (f := law_e2 takenF) (enc := fun s : Dr => .sh sc :: .ow (encR ns s) :: .sh S :: .sh (.int f) :: List.replicate 18 .no) (e := fun i : Nat => D.int (i : Nat)) Dr.ok (fun _ y => ∃ x : Int, y = D.int x ∧ OkP x) (l := List.range (v + 1).toNat) (acc := []) (s := s1) o1 (by
    intro i _ s hs
    obtain ⟨a, s1, e1, o1, l1, u1⟩ := taken_ok ns s hs 6 (by decide) (by decide)
    have hm : CMul a (if (0 : Int) < (i : Int) then 1 else 0) := .inl ⟨by omega, by omega⟩
    refine ⟨s1, .int (f + a * (if (0 : Int) < (i : Int) then 1 else 0)), ?_, o1, _, rfl, ?_⟩
    · have hm2 : CMul a (if 0 < i then 1 else 0) := .inl ⟨by omega, by omega⟩
      simp [lcS, wipeE, rst, law_e2, e1, hm, hm2]
    · split
      · exact ⟨by omega, by omega⟩
      · exact ⟨by omega, by omega⟩)
  obtain ⟨xs, rfl, hx⟩ := all_map (g := D.int) (Q := OkP) (fun y hy' => by
    obtain ⟨i, hi⟩ := List.mem_iff_getElem?.mp hy'
    have h1 := (List.getElem?_eq_some_iff.mp hi).1
    rw [hl] at h1
    exact hy i y _ hi (List.getElem?_eq_getElem h1))
  have hr := rng1_nat (v + 1).toNat (by omega)
  rw [show (((v + 1).toNat : Nat) : Int) = 1 + v by omega] at hr
  refine ⟨xs, s2, o2, by simp at hl; omega, hx, ?_⟩
  rw [List.nil_append] at e2
  unfold law_s4
  generalize rng1 = g at hr ⊢
  try simp at e2
  simp [e1, hr, noOw, e2]
theorem draw5 (FI : FV) (ns : List Int) (s : Dr) (hs : s.ok) (sc : D) (f : Int) (st : List Stg) (ps : List Int) (R : D) (hR : ∀ S P, RowS S st → Mx P (ps.map D.int) → FI [S, P] = .ok R) : ∃ (s' : Dr), s'.ok ∧ law_s5 FI mixedF (.sh sc :: .ow (encR ns s) :: .sh (encSs st) :: .sh (.int f) :: .sh (encPs ps) :: List.replicate 17 .no) = .ok .nx (.sh sc :: .ow (encR ns s') :: .sh (encSs st) :: .sh (.int f) :: .sh (encPs ps) :: .sh R :: List.replicate 16 .no) := by
  obtain ⟨s2, ys, e2, o2, hl, hy⟩ := lcS_runI (b := bName 19) (vs := [19]) (t := tYesJ) (f := law_e3 mixedF) (enc := fun s : Dr => .sh sc :: .ow (encR ns s) :: .sh (encSs st) :: .sh (.int f) :: .sh (encPs ps) :: List.replicate 17 .no) (e := encSt) Dr.ok (fun x y => Mx y [.int x.1, .int x.2]) (l := st) (acc := []) (s := s) hs (by
    intro x _ s hs
    obtain ⟨Y, s1, e1, o1, m1⟩ := mixedF_ok ns s hs (encSt x) [.int x.1, .int x.2] (.inr rfl)
    refine ⟨s1, Y, ?_, o1, m1⟩
    simp [lcS, wipeE, rst, law_e3, e1])
  obtain ⟨Y, s3, e3, o3, m3⟩ := mixedF_ok ns s2 o2 (.lst ys) ys (.inl rfl)
  obtain ⟨Z, s4, e4, o4, m4⟩ := mixedF_ok ns s3 o3 (.lst (ps.map D.int)) (ps.map D.int) (.inl rfl)
  have hI := hR Y Z ⟨ys, m3, hl, hy⟩ m4
  refine ⟨s4, o4, ?_⟩
  rw [List.nil_append] at e2
  try simp at e2
  simp [law_s5, noOw, e2, e3, e4, hI]
end K20

set_option Elab.async false
set_option linter.all false
set_option maxRecDepth 100000
set_option maxHeartbeats 4000000
namespace K20
open PySem PySem.Spec PyProof.Rows L2 J
variable {st : List Stg} {ps : List Int}
abbrev LV (sc r : D) (f : Int) (st : List Stg) (ps : List Int) (a6 a7 a8 a9 a10 a11 a12 a13 a14 a15 a16 a17 a18 a19 a20 a21 : Sl) : En := [.sh sc, .ow r, .sh (encSs st), .sh (.int f), .sh (encPs ps), .sh (made st ps), a6, a7, a8, a9, a10, a11, a12, a13, a14, a15, a16, a17, a18, a19, a20, a21]
theorem sz_ints (n : Nat) (l : List Int) (h : l.length ≤ 1000) : sz (n + 2) (.tup (l.map D.int)) = true := by
  show (decide _ && _) = true
  rw [Bool.and_eq_true]
  refine ⟨by simp; omega, List.all_eq_true.mpr fun d hd => ?_⟩
  obtain ⟨x, _, rfl⟩ := List.mem_map.mp hd
  rfl
theorem sz_all (n : Nat) (l : List D) (h : l.length ≤ 1000) (ha : ∀ d ∈ l, sz n d = true) : sz (n + 1) (.tup l) = true := by
  show (decide _ && _) = true
  rw [Bool.and_eq_true]
  exact ⟨by simp; omega, List.all_eq_true.mpr ha⟩
theorem alike_self (d : D) (h : sz 6 d = true) : F__law_alike 6 [d, d] = .ok (.bl true) := by
  rw [e_alike]
  exact alike_refl 6 d h
theorem s6_x (FA : Nat → FV) (FM FE FI : FV) (sc r : D) (f : Int) (hM : FM [made st ps] = .ok (.int (st.map (·.1)).sum)) (hA : ∀ T, sz 6 T = true → FA 6 [T, T] = .ok (.bl true)) (hE1 : FE [made st ps, made st ps] = .ok (.bl true)) (hE2 : FE [made st ps, encSs st] = .ok (.bl false)) (hI : FI [encSs st, encPs ps] = .ok (made st ps)) (hn : st.length ≤ 6) (hp : ps.length ≤ 3) :
    law_s6 FA FM FE FI (LV sc r f st ps .no .no .no .no .no .no .no .no .no .no .no .no .no .no .no .no) = .ok .nx (LV sc r f st ps .no .no .no .no .no .no .no .no .no .no .no .no .no .no .no .no) := by
  have e : lcS (bName 19) [19] tYesJ law_e4 (st.map encSt) [] (LV sc r f st ps .no .no .no .no .no .no .no .no .no .no .no .no .no .no .no .no) = .ok (.lst ((st.map (·.1)).map D.int)) (LV sc r f st ps .no .no .no .no .no .no .no .no .no .no .no .no .no .no .no .no) := by
    rw [List.map_map]
    exact lcS_map _ fun s _ => by simp [lcS, wipeE, rst, law_e4, encSt]
  have hT := hA (.tup [encSs st, encPs ps, .int (st.map (·.1)).sum]) (sz_all 5 _ (by simp) (by
    intro d hd
    simp only [List.mem_cons, List.not_mem_nil, or_false] at hd
    rcases hd with rfl | rfl | rfl
    · exact sz_all 4 _ (by simp; omega) (fun d hd => by obtain ⟨s, _, rfl⟩ := List.mem_map.mp hd; rfl)
    · exact sz_ints 3 ps (by omega)
    · rfl))
  simp [law_s6, okF_stages, okF_paces, fget, hM, noOw, e, sumD_ints, hT, hI, hE1, hE2, eqArg, -List.map_map]
theorem s7_x (FR : FV) (sc r : D) (f : Int) (X : D) (h : FR [encSs st, encPs ps] = .ok X) : law_s7 FR (LV sc r f st ps .no .no .no .no .no .no .no .no .no .no .no .no .no .no .no .no) = .ok .nx (LV sc r f st ps (.sh X) .no .no .no .no .no .no .no .no .no .no .no .no .no .no .no) := by
  simp [law_s7, h]
abbrev rowsD (st : List Stg) (ps : List Int) : D := .lst ((goodC st ps).map fun cs => .tup [encI cs, toldC st ps cs])
theorem s8_x (FA : Nat → FV) (FR : FV) (sc r : D) (f : Int) (hR : FR [made st ps] = .ok (.tup ((goodC st ps).map encI))) (hA : FA 6 [.tup ((goodC st ps).map encI), .tup ((goodC st ps).map encI)] = .ok (.bl true)) :
    law_s8 FA FR (LV sc r f st ps (.sh (rowsD st ps)) .no .no .no .no .no .no .no .no .no .no .no .no .no .no .no) = .ok .nx (LV sc r f st ps (.sh (rowsD st ps)) .no .no .no .no .no .no .no .no .no .no .no .no .no .no .no) := by
  have e : lcS (bName 21) [21] tYesJ law_e5 ((goodC st ps).map fun cs => D.tup [encI cs, toldC st ps cs]) [] (LV sc r f st ps (.sh (rowsD st ps)) .no .no .no .no .no .no .no .no .no .no .no .no .no .no .no) = .ok (.lst ((goodC st ps).map encI)) (LV sc r f st ps (.sh (rowsD st ps)) .no .no .no .no .no .no .no .no .no .no .no .no .no .no .no) := lcS_map _ fun cs _ => by
    simp [lcS, wipeE, rst, law_e5]
  simp [law_s8, hR, noOw, e, hA]
theorem rowsz (hn : st.length ≤ 6) : sz 6 (.tup ((goodC st ps).map encI)) = true := by
  have h1 : (goodC st ps).length ≤ (rowsC st.length).length := List.length_filter_le _ _
  have h2 := rowsC_len hn
  refine sz_all 5 _ (by simp; omega) fun d hd => ?_
  obtain ⟨cs, hc, rfl⟩ := List.mem_map.mp hd
  exact sz_ints 3 cs (by have := (rows_fin hn cs (List.mem_filter.mp hc).1).2; omega)
/-! ### each row of changes -/
theorem s9_x (FZ FL' FT FC : FV) (FA : Nat → FV) (FM FH : FV) (sc r : D) (f : Int) (X : Sl) (hn : st.length ≤ 6) (hX : isEx X = false)
    (hZ : FZ [.int (if (1 : Int) < (st.length : Int) then (st.length : Int) - 1 else 0)] = .ok (.lst ((sizedL (st.length - 1)).map natL)))
    (hL : ∀ cs ∈ rowsC st.length, FL' [encSs st, encPs ps, encI cs] = .ok (minL' (runM ps cs st 0 0 0))) (hC : ∀ cs ∈ rowsC st.length, FC [made st ps, encI cs] = .ok (.bl (runM ps cs st 0 0 0).isSome))
    (hT : ∀ b, FT [.bl b, .bl b] = .ok (.bl true)) (hA : ∀ T, sz 6 T = true → FA 6 [T, T] = .ok (.bl true)) (hM : ∀ cs ∈ rowsC st.length, FM [made st ps, encI cs] = minR (runM ps cs st 0 0 0))
    (hH : ∀ cs ∈ rowsC st.length, FH [made st ps, encI cs] = horR (minR (runM ps cs st 0 0 0)) (.tup ((gaps st.length cs).map D.int))) :
    ∃ a b c, isEx a = false ∧ isEx b = false ∧ isEx c = false ∧ law_s9 FZ FL' FT FC FA FM FH (LV sc r f st ps X .no .no .no .no .no .no .no .no .no .no .no .no .no .no .no) = .ok .nx (LV sc r f st ps X a .no .no .no .no b .no .no .no .no c .no .no .no .no) := by
  have e1 : ∀ l : List Nat, lcS (bName 20) [20] tYesJ law_e7 (l.map fun k => D.int (k : Nat)) [] (LV sc r f st ps X .no .no .no .no .no .no .no .no .no (.sh (natL l)) .no .no .no .no .no) = .ok (.lst (l.map fun k => D.int (((k : Nat) : Int) + 1))) (LV sc r f st ps X .no .no .no .no .no .no .no .no .no (.sh (natL l)) .no .no .no .no .no) := fun l => lcS_map _ fun k _ => by
    simp [lcS, wipeE, rst, law_e7]
  have e2 : lcS (bName 16) [16] tYesJ law_e8 ((sizedL (st.length - 1)).map natL) [] (LV sc r f st ps X .no .no .no .no .no .no .no .no .no .no .no .no .no .no .no) = .ok (.lst ((rowsC st.length).map encI)) (LV sc r f st ps X .no .no .no .no .no .no .no .no .no .no .no .no .no .no .no) := by
    have e4 : (sizedL (st.length - 1)).map (fun l => encI (l.map fun k => ((k : Nat) : Int) + 1)) = (rowsC st.length).map encI := by
      unfold rowsC
      rw [List.map_map]
      rfl
    rw [← e4]
    refine lcS_map _ fun l _ => ?_
    have := e1 l
    simp [natL] at this
    simp [lcS, wipeE, rst, law_e8, noOw, natL, this, encI]
  have L := forS_fold (b := bName 7) (body := law_b1 FL' FT FC FA FM FH) (e := encI) (l := rowsC st.length) (s := ()) (ρ := LV sc r f st ps X .no .no .no .no .no .no .no .no .no .no .no .no .no .no .no) (fun _ ρ => ∃ a b c, isEx a = false ∧ isEx b = false ∧ isEx c = false ∧ ρ = LV sc r f st ps X a .no .no .no .no b .no .no .no .no c .no .no .no .no) (fun s _ => s) (by
    rintro cs hcs _ ρ ⟨a, b, c, ha, hb, hc, rfl⟩
    have l5 := (rows_fin hn cs hcs).2
    refine ⟨LV sc r f st ps X (.sh (encI cs)) .no .no .no .no (.sh (minL' (runM ps cs st 0 0 0))) .no .no .no .no (.sh (.lst ((bnd st.length cs).map D.int))) .no .no .no .no, ?_, _, _, _, rfl, rfl, rfl, rfl⟩
    have h1 := hL cs hcs
    have h2 := hC cs hcs
    have h3 := hM cs hcs
    have h4 := hH cs hcs
    have a1 := add1 cs (by omega)
    have a2 := add2 st.length cs (by omega)
    have hr := rngB cs st.length (by omega)
    simp only [List.length_map] at hr
    have hle : ∀ x : D, lcS (bName 11) [11] tYesJ law_e6 ((List.range (cs.length + 1)).map fun i => D.int (i : Nat)) [] (LV sc r f st ps X (.sh (encI cs)) .no .no .no .no (.sh x) .no .no .no .no (.sh (.lst ((bnd st.length cs).map D.int))) .no .no .no .no) = .ok (.lst ((gaps st.length cs).map D.int)) (LV sc r f st ps X (.sh (encI cs)) .no .no .no .no (.sh x) .no .no .no .no (.sh (.lst ((bnd st.length cs).map D.int))) .no .no .no .no) := fun x => by
      have e5 : (gaps st.length cs).map D.int = (List.range (cs.length + 1)).map fun i => D.int (bAt st.length cs (i + 1) - bAt st.length cs i) := by
        unfold gaps; rw [List.map_map]; rfl
      rw [e5]
      refine lcS_map _ fun i hi => ?_
      have hi := List.mem_range.mp hi
      have b1 := bnd_at st.length cs (i + 1) (by omega)
      have b2 := bnd_at st.length cs i (by omega)
      rw [show ((i + 1 : Nat) : Int) = (i : Int) + 1 by omega] at b1
      simp [lcS, wipeE, rst, law_e6, b1, b2]
    unfold law_b1 law_y1 law_x1
    generalize rng1 = g at hr ⊢
    unfold encI at h1 h2 h3 h4 hle ⊢
    cases hq : runM ps cs st 0 0 0 with
    | none =>
      rw [hq] at h1 h2 h3
      simp only [minL', minR, Option.isSome] at h1 h2 h3
      have ht := hT false
      simp [forS_cons, h1, h2, ht, notNonD, a1, a2, h3, hd_Refused, noEx, okX_reason, okX_names, fget, neD, eqv_ss, eqv_tt, eqvs, hX, minL']
    | some q =>
      rw [hq] at h1 h2 h3 h4
      simp only [minL', minR, horR, Option.isSome] at h1 h2 h3 h4
      have ht := hT true
      have hs := hA (.tup [.int q.1, .tup ((gaps st.length cs).map D.int)]) (sz_all 5 _ (by simp) (by
        intro d hd
        simp only [List.mem_cons, List.not_mem_nil, or_false] at hd
        rcases hd with rfl | rfl
        · rfl
        · exact sz_ints 3 _ (by unfold gaps; simp; omega)))
      have hle' := hle (.int q.1)
      simp [forS_cons, h1, h2, ht, notNonD, a1, a2, h3, h4, hr, noOw, hle', hs, minL']) ⟨.no, .no, .no, rfl, rfl, rfl, rfl⟩
  obtain ⟨ρ', e, a, b, c, ha, hb, hc, rfl⟩ := L
  refine ⟨a, b, c, ha, hb, hc, ?_⟩
  simp [law_s9, max2D, hZ, noOw, e2, e]
end K20

set_option Elab.async false
set_option linter.all false
set_option maxRecDepth 100000
set_option maxHeartbeats 4000000
namespace K20
open PySem PySem.Spec PyProof.Rows L2 J
variable {st : List Stg} {ps : List Int}
theorem s10_x (FB : FV) (sc r : D) (f : Int) (X a b c : Sl) (R : D) (h : FB [encSs st, encPs ps, .int 9] = .ok R) : law_s10 FB (LV sc r f st ps X a .no .no .no .no b .no .no .no .no c .no .no .no .no) = .ok .nx (LV sc r f st ps X a (.sh R) .no .no .no b .no .no .no .no c .no .no .no .no) := by
  simp [law_s10, h]
def fewN (n p : Nat) : Int := if -(Int.fdiv (-(n : Int)) (p : Int)) - 1 > 0 then -(Int.fdiv (-(n : Int)) (p : Int)) - 1 else 0
theorem fewest_ok (hp : 1 ≤ ps.length ∧ ps.length ≤ 3) : F_Ride_fewest [made st ps] = .ok (.int (fewN st.length ps.length)) := by
  have h1 : CDivN (-(st.length : Int)) (ps.length : Int) := ⟨by omega, by omega⟩
  unfold fewN
  generalize hq : Int.fdiv (-(st.length : Int)) (ps.length : Int) = q
  have h2 : fdivD (.int (-(st.length : Int))) (.int (ps.length : Int)) = some (.int q) := by
    rw [fdiv_ii, if_pos h1, hq]
  unfold F_Ride_fewest b_Ride_fewest
  generalize fdivD = g at h2 ⊢
  simp [okF_stages, okF_paces, fget, h2, max2D]
theorem few_min (hn : st.length ≤ 6) (hp : 1 ≤ ps.length ∧ ps.length ≤ 3) : minX (.lst ((goodC st ps).map fun cs => D.int (cs.length : Nat))) = some (.int (fewN st.length ps.length)) := by
  have hg : goodC st ps = (rowsC st.length).filter fun cs => okR ps.length cs st.length 0 0 := by
    unfold goodC
    congr 1
    funext cs
    rw [runM_ok]
  have h := fin_all (Q := fun n p => decide (minL (((rowsC n).filter fun cs => okR p cs n 0 0).map fun cs => ((cs.length : Nat) : Int)) = some (fewN n p))) hn hp (by decide +kernel)
  have h := of_decide_eq_true h
  have e : ((goodC st ps).map fun cs => D.int (cs.length : Nat)) = ((goodC st ps).map fun cs => ((cs.length : Nat) : Int)).map D.int := by rw [List.map_map]; rfl
  rw [e]
  show (match minD _ with
    | some c => some c
    | none => minG _) = _
  rw [minD_ints, hg, h]
  rfl
theorem s11_x (FA : Nat → FV) (FB FW : FV) (sc r : D) (f : Int) (a b c : Sl) (R N : D) (hn : st.length ≤ 6) (hB : FB [made st ps] = .ok R) (hA : FA 6 [R, R] = .ok (.bl true)) (hW : FW [made st ps] = .ok N) (hN : minX (.lst ((goodC st ps).map fun cs => D.int (cs.length : Nat))) = some N) (hA2 : FA 6 [N, N] = .ok (.bl true)) :
    law_s11 FA FB FW (LV sc r f st ps (.sh (rowsD st ps)) a (.sh R) .no .no .no b .no .no .no .no c .no .no .no .no) = .ok .nx (LV sc r f st ps (.sh (rowsD st ps)) a (.sh R) .no .no .no b .no .no .no .no c .no .no .no .no) := by
  have e : lcS (bName 21) [21] tYesJ law_e9 ((goodC st ps).map fun cs => D.tup [encI cs, toldC st ps cs]) [] (LV sc r f st ps (.sh (rowsD st ps)) a (.sh R) .no .no .no b .no .no .no .no c .no .no .no .no) = .ok (.lst ((goodC st ps).map fun cs => D.int (cs.length : Nat))) (LV sc r f st ps (.sh (rowsD st ps)) a (.sh R) .no .no .no b .no .no .no .no c .no .no .no .no) := lcS_map _ fun cs _ => by
    simp [lcS, wipeE, rst, law_e9, encI]
  generalize hX : ((goodC st ps).map fun cs => D.int (cs.length : Nat)) = L at e hN
  unfold law_s11
  generalize minX = mm at hN ⊢
  simp [hB, hA, hW, noOw, e, hN, hA2]
/-- a told thing that may be compared -/
def tame (d : D) : Prop := okE 60 d = true ∧ eqv d d = true
theorem neD_self {d : D} (h : tame d) : neD d d = some (.bl false) := by
  unfold neD
  rw [if_pos ⟨h.1, h.1⟩, h.2]
  rfl
theorem tame_best (o : Option (List Int)) : tame (bestRes st ps o) := by
  cases o with
  | none => exact ⟨rfl, rfl⟩
  | some m =>
    refine ⟨by simp [bestRes, encI], ?_⟩
    show (_ && (_ && true)) = true
    rw [eqv_ii]
    have : eqv (encI m) (encI m) = true := by show eqvs _ _ = true; rw [eqvs_ints]; simp
    rw [this]; simp
theorem tame_int (i : Int) : tame (.int i) := ⟨by simp, by rw [eqv_ii]; simp⟩
theorem tame_saved (t : Int) (o : Option (List Int)) : tame (savedR st ps t o) := by
  cases o with
  | none => exact ⟨rfl, rfl⟩
  | some m => exact tame_int _
theorem s12_x (FL' FW FS : FV) (sc r : D) (f : Int) (X a b c : Sl) (m : List Int) (t : Int) (hL : ∀ k : Nat, k < 4 → FL' [encSs st, encPs ps, .int (k : Nat)] = .ok (bestRes st ps (bestC st ps k))) (hW : ∀ k : Nat, k < 4 → FW [made st ps, .int (k : Nat)] = .ok (bestRes st ps (bestC st ps k))) (hS : ∀ k : Nat, k < 4 → FS [made st ps, .int (k : Nat)] = .ok (savedR st ps t (bestC st ps k))) :
    ∃ a9 a12 a14, law_s12 FL' FW FS (LV sc r f st ps X a (.sh (.tup [.int t, encI m])) .no .no .no b .no .no .no .no c .no .no .no .no) = .ok .nx (LV sc r f st ps X a (.sh (.tup [.int t, encI m])) a9 .no .no a12 .no a14 .no .no c .no .no .no .no) := by
  have L := forS_fold (b := bName 9) (body := law_b2 FL' FW FS) (e := fun k : Nat => D.int (k : Nat)) (l := List.range 4) (s := ()) (ρ := LV sc r f st ps X a (.sh (.tup [.int t, encI m])) .no .no .no b .no .no .no .no c .no .no .no .no) (fun _ ρ => ∃ a9 a12 a14, ρ = LV sc r f st ps X a (.sh (.tup [.int t, encI m])) a9 .no .no a12 .no a14 .no .no c .no .no .no .no) (fun s _ => s) (by
    rintro k hk _ ρ ⟨a9, a12, a14, rfl⟩
    have hk := List.mem_range.mp hk
    have h1 := hL k hk
    have h2 := hW k hk
    have h3 := hS k hk
    have n1 := neD_self (tame_best (st := st) (ps := ps) (bestC st ps k))
    have n2 := neD_self (tame_saved (st := st) (ps := ps) t (bestC st ps k))
    refine ⟨LV sc r f st ps X a (.sh (.tup [.int t, encI m])) (.sh (.int (k : Nat))) .no .no (.sh (bestRes st ps (bestC st ps k))) .no (.sh (savedR st ps t (bestC st ps k))) .no .no c .no .no .no .no, ?_, _, _, _, rfl⟩
    generalize bestC st ps k = o at h1 h2 h3 n1 n2 ⊢
    cases o with
    | none =>
      have e : ∀ x, lcS (bName 16) [16] law_t1 law_e10 [.non] [] (LV sc r f st ps X a (.sh (.tup [.int t, encI m])) (.sh (.int (k : Nat))) .no .no (.sh .non) .no x .no .no c .no .no .no .no) = .ok (.lst []) (LV sc r f st ps X a (.sh (.tup [.int t, encI m])) (.sh (.int (k : Nat))) .no .no (.sh .non) .no x .no .no c .no .no .no .no) := fun x => by
        simp [lcS, wipeE, rst, law_t1, notNonD]
      have ha := add_ll [] [.non] (by simp)
      simp only [bestRes, savedR] at h1 h2 h3 n1 n2 ⊢
      simp [forS_cons, law_b2, h1, h2, h3, noOw, e, ha, n1]
    | some q =>
      have e : ∀ x, lcS (bName 16) [16] law_t1 law_e10 [.tup [.int (tv st ps q), encI q]] [] (LV sc r f st ps X a (.sh (.tup [.int t, encI m])) (.sh (.int (k : Nat))) .no .no (.sh (.tup [.int (tv st ps q), encI q])) .no x .no .no c .no .no .no .no) = .ok (.lst [.int (tv st ps q - t)]) (LV sc r f st ps X a (.sh (.tup [.int t, encI m])) (.sh (.int (k : Nat))) .no .no (.sh (.tup [.int (tv st ps q), encI q])) .no x .no .no c .no .no .no .no) := fun x => by
        simp [lcS, wipeE, rst, law_t1, law_e10, notNonD]
      have ha := add_ll [.int (tv st ps q - t)] [.non] (by simp)
      simp only [bestRes, savedR] at h1 h2 h3 n1 n2 ⊢
      simp [forS_cons, law_b2, h1, h2, h3, noOw, e, ha, n1, n2]) ⟨.no, b, .no, rfl⟩
  obtain ⟨ρ', e, a9, a12, a14, rfl⟩ := L
  refine ⟨a9, a12, a14, ?_⟩
  have hr := rng1_nat 4 (by decide)
  unfold law_s12
  generalize rng1 = g at hr ⊢
  simp at hr e
  simp [hr, e]
theorem s13_x (sc r : D) (f : Int) (X a b c a9 a12 a14 Y : Sl) (hn : st.length ≤ 6) (hs : ∀ s ∈ st, OkS s) : law_s13 (LV sc r f st ps X a Y a9 .no .no a12 .no a14 .no .no c .no .no .no .no) = .ok .nx (LV sc r f st ps X a Y a9 (.sh (encSs (turnS st))) .no a12 .no a14 .no .no c .no .no .no .no) := by
  have e1 : ∀ x y, lcS (bName 19) [19] tYesJ law_e11 (st.map encSt) [] (LV sc r f st ps X a Y a9 y x a12 .no a14 .no .no c .no .no .no .no) = .ok (.lst ((st.map (fun s : Stg => s.2)).map D.int)) (LV sc r f st ps X a Y a9 y x a12 .no a14 .no .no c .no .no .no .no) := fun x y => by
    rw [List.map_map]
    exact lcS_map _ fun s _ => by simp [lcS, wipeE, rst, law_e11, encSt]
  have e2 : lcS (bName 11) [11] tYesJ law_e12 ((List.range st.length).map fun j => D.int (((st.length : Int) - 1) - (j : Nat))) [] (LV sc r f st ps X a Y a9 .no .no a12 .no a14 .no .no c .no .no .no .no) = .ok (.lst ((turnS st).map encSt)) (LV sc r f st ps X a Y a9 .no .no a12 .no a14 .no .no c .no .no .no .no) := by
    unfold turnS
    rw [List.map_map]
    refine lcS_map _ fun j hj => ?_
    have hj := List.mem_range.mp hj
    have h1 : st.length - 1 - j < st.length := by omega
    have i1 := ix_st h1
    rw [show ((st.length - 1 - j : Nat) : Int) = (st.length : Int) - 1 - (j : Nat) by omega] at i1
    have e0 : ∀ s : Stg, encSt s = .tup [.int s.1, .int s.2] := fun _ => rfl
    rw [e0] at i1
    have ha : addD (.lst ((st.map (fun s : Stg => s.2)).map D.int)) (.lst [.int 0]) = some (.lst ((st.map (fun s : Stg => s.2) ++ [0]).map D.int)) := by
      rw [add_ll _ _ (by simp; omega)]
      simp
    have e1' := e1 (.sh (.int ((st.length : Int) - 1 - (j : Nat)))) .no
    have hx : L2.atI ((st.map (fun s : Stg => s.2) ++ [0]).map D.int) ((st.length : Int) - 1 - (j : Nat) + 1) = some (.int (if st.length - 1 - j + 1 < st.length then (st.getD (st.length - 1 - j + 1) (0, 0)).2 else 0)) := by
      rw [show (st.length : Int) - 1 - (j : Nat) + 1 = ((st.length - 1 - j + 1 : Nat) : Int) by omega, atI_nat', List.getElem?_map]
      by_cases h2 : st.length - 1 - j + 1 < st.length
      · rw [if_pos h2, List.getElem?_append_left (by simpa using h2), List.getElem?_map, List.getD_eq_getElem?_getD, List.getElem?_eq_getElem h2]
        rfl
      · rw [if_neg h2, List.getElem?_append_right (by simp; omega)]
        have : st.length - 1 - j + 1 - (st.map (fun s : Stg => s.2)).length = 0 := by simp; omega
        rw [this]
        rfl
    show lcS _ _ _ _ [D.int (((st.length : Int) - 1) - (j : Nat))] [] _ = .ok (.lst [encSt ((st.getD (st.length - 1 - j) (0, 0)).1, if st.length - 1 - j + 1 < st.length then (st.getD (st.length - 1 - j + 1) (0, 0)).2 else 0)]) _
    rw [e0 (_, _)]
    dsimp only
    by_cases h2 : st.length - 1 - j + 1 < st.length
    · have hlt : (st.length : Int) - 1 - (j : Nat) + 1 < (st.length : Int) := by omega
      rw [if_pos h2] at hx ⊢
      generalize (st.getD (st.length - 1 - j) (0, 0)).1 = u at i1 ⊢
      generalize (st.getD (st.length - 1 - j) (0, 0)).2 = v at i1
      generalize (st.getD (st.length - 1 - j + 1) (0, 0)).2 = w at hx ⊢
      have hm : CMul w 1 := .inr ⟨by decide, by decide⟩
      simp [lcS, wipeE, rst, law_e12, i1, noOw, e1', ha, hx, hlt, hm, -List.map_map, -List.map_append]
    · have hlt : ¬ ((st.length : Int) - 1 - (j : Nat) + 1 < (st.length : Int)) := by omega
      rw [if_neg h2] at hx ⊢
      generalize (st.getD (st.length - 1 - j) (0, 0)).1 = u at i1 ⊢
      generalize (st.getD (st.length - 1 - j) (0, 0)).2 = v at i1
      have hm : CMul 0 0 := .inr ⟨by decide, by decide⟩
      simp [lcS, wipeE, rst, law_e12, i1, noOw, e1', ha, hx, hlt, hm, -List.map_map, -List.map_append]
  have hr := rngDown st.length hn
  unfold law_s13
  generalize rng3 = g at hr ⊢
  generalize ((List.range st.length).map fun j => D.int (((st.length : Int) - 1) - (j : Nat))) = RL at hr e2
  simp [hr, noOw, e2]
end K20

set_option Elab.async false
set_option linter.all false
set_option maxRecDepth 100000
set_option maxHeartbeats 4000000
namespace K20
open PySem PySem.Spec PyProof.Rows L2 J
variable {st : List Stg} {ps : List Int}
theorem s14_x (FE FT FI : FV) (sc r : D) (f : Int) (X a b c a9 a12 a14 Y : Sl) (S M : D) (ns : List Nat) (vs : List D) (hM : M = .obj 0 ns vs) (hT : FT [made st ps] = .ok M) (hI : FI [S, encPs ps] = .ok M) (hE : FE [M, M] = .ok (.bl true)) : law_s14 FE FT FI (LV sc r f st ps X a Y a9 (.sh S) .no a12 .no a14 .no .no c .no .no .no .no) = .ok .nx (LV sc r f st ps X a Y a9 (.sh S) .no a12 .no a14 .no .no c .no .no .no .no) := by
  subst hM
  simp [law_s14, hT, hI, hE, eqArg]
theorem lastP_is (p : Nat → Bool) (l : List Nat) : ∀ o : Option Nat, L2.atI (D.non :: (l.filter p).map fun m => D.int (m : Nat)) (-1) = some (optD (l.foldl (fun f m => if p m = true then some m else f) none)) := by
  intro _
  have key : ∀ (l : List Nat) (o : Option Nat), optD (l.foldl (fun f m => if p m = true then some m else f) o) = (((l.filter p).map fun m => D.int (m : Nat)).getLast?).getD (optD o) := by
    intro l
    induction l with
    | nil => intro o; rfl
    | cons m l ih =>
      intro o
      rw [List.foldl_cons, ih]
      by_cases h : p m = true
      · rw [if_pos h, List.filter_cons_of_pos h, List.map_cons]
        cases hl : (l.filter p).map fun m => D.int (m : Nat) with
        | nil => rfl
        | cons x t =>
          have q : ∀ (d : D) (y z : D) (u : List D), ((y :: u).getLast?).getD d = ((z :: y :: u).getLast?).getD d := fun d y z u => by simp [List.getLast?_cons]
          have q2 : ∀ (d d' : D), ((x :: t).getLast?).getD d = ((x :: t).getLast?).getD d' := fun d d' => by simp [List.getLast?_cons]
          rw [← q _ x _ t]
          exact q2 _ _
      · rw [if_neg h, List.filter_cons_of_neg h]
  rw [key l none]
  generalize (l.filter p).map (fun m => D.int (m : Nat)) = L
  have h1 : L2.atI (D.non :: L) (-1) = (D.non :: L)[L.length]? := by
    have : ixN (D.non :: L).length (-1) = some L.length := by
      unfold ixN
      rw [List.length_cons]
      rw [if_neg (by decide), if_pos (by omega)]
      congr 1
      omega
    unfold L2.atI
    rw [this]
    rfl
  rw [h1]
  cases L with
  | nil => rfl
  | cons x t =>
    rw [List.getLast?_eq_getElem?]
    simp
theorem tame_opt (o : Option Nat) : tame (optD o) := by
  cases o with
  | none => exact ⟨rfl, rfl⟩
  | some m => exact tame_int _
theorem s15_x (FL' FE FC FI FO : FV) (sc r : D) (f : Int) (X a b c a9 a12 a14 Y S : Sl) (hn : st.length ≤ 6) (B : Nat → Nat → List Int) (t : Nat → Nat → Int)
    (hL : ∀ k m : Nat, k < st.length → m < 100 → FL' [encSs (chg st k (m : Nat)), encPs ps, .int 9] = .ok (.tup [.int (t k m), encI (B k m)])) (hC : ∀ k : Nat, k < st.length → FC [made st ps, .int (k : Nat), .int 7] = .ok (made (chg st k 7) ps)) (hI : ∀ k : Nat, k < st.length → FI [encSs (chg st k 7), encPs ps] = .ok (made (chg st k 7) ps))
    (hE : ∀ k : Nat, FE [made (chg st k 7) ps, made (chg st k 7) ps] = .ok (.bl true)) (hO : ∀ k : Nat, k < st.length → FO [made st ps, .int (k : Nat)] = .ok (optD (lastP (fun m => decide ((k : Int) ∈ B k m)) 100))) :
    ∃ a11 a15, law_s15 FL' FE FC FI FO (LV sc r f st ps X a Y a9 S .no a12 .no a14 .no .no c .no .no .no .no) = .ok .nx (LV sc r f st ps X a Y a9 S a11 a12 .no a14 a15 .no c .no .no .no .no) := by
  have L := forS_fold (b := bName 11) (body := law_b3 FL' FE FC FI FO) (e := fun k : Nat => D.int (k : Nat)) (l := List.range st.length) (s := ()) (ρ := LV sc r f st ps X a Y a9 S .no a12 .no a14 .no .no c .no .no .no .no) (fun _ ρ => ∃ a11 a15, ρ = LV sc r f st ps X a Y a9 S a11 a12 .no a14 a15 .no c .no .no .no .no) (fun s _ => s) (by
    rintro k hk _ ρ ⟨a11, a15, rfl⟩
    have hk := List.mem_range.mp hk
    have hi := ix_st hk
    have e0 : ∀ s : Stg, encSt s = .tup [.int s.1, .int s.2] := fun _ => rfl
    rw [e0] at hi
    have hD : ∀ m : Int, ∃ d, addD (.tup (cutL (st.map encSt) none (some (k : Int)))) (.tup [.tup [.int (st.getD k (0, 0)).1, .int m]]) = some d ∧ addD d (.tup (cutL (st.map encSt) (some ((k : Int) + 1)) none)) = some (encSs (chg st k m)) := fun m => by
      have h := chg_D (st := st) (k := k) hn m
      cases ha : addD (.tup (cutL (st.map encSt) none (some (k : Int)))) (.tup [.tup [.int (st.getD k (0, 0)).1, .int m]]) with
      | none => rw [ha] at h; cases h
      | some d => rw [ha, Option.bind_some] at h; exact ⟨d, rfl, h⟩
    have e : ∀ x, lcS (bName 18) [18] (law_t2 FL') law_e13 ((List.range 100).map fun m => D.int (m : Nat)) [] (LV sc r f st ps X a Y a9 S (.sh (.int (k : Nat))) a12 .no a14 a15 .no c x .no .no .no) = .ok (.lst (((List.range 100).filter fun m => decide ((k : Int) ∈ B k m)).map fun m => D.int (m : Nat))) (LV sc r f st ps X a Y a9 S (.sh (.int (k : Nat))) a12 .no a14 a15 .no c x .no .no .no) := fun x => by
      refine lcS_filter (fun m => decide ((k : Int) ∈ B k m)) _ fun m hm => ?_
      have hm := List.mem_range.mp hm
      obtain ⟨d, d1, d2⟩ := hD (m : Nat)
      have hb := hL k m hk hm
      have hin := inX_tints false (B k m) k
      unfold encI at hb
      generalize (st.getD k (0, 0)).1 = u at hi d1
      generalize (st.getD k (0, 0)).2 = v at hi
      by_cases hkb : (k : Int) ∈ B k m <;> simp [lcS, wipeE, rst, law_t2, law_e13, hi, d1, d2, hb, hin, hkb]
    obtain ⟨d, d1, d2⟩ := hD 7
    have h1 := hC k hk
    have h2 := hI k hk
    have h3 := hE k
    have h4 := hO k hk
    have hlast := lastP_is (fun m => decide ((k : Int) ∈ B k m)) (List.range 100) none
    have n1 := neD_self (tame_opt (lastP (fun m => decide ((k : Int) ∈ B k m)) 100))
    have hadd : addD (.lst [.non]) (.lst (((List.range 100).filter fun m => decide ((k : Int) ∈ B k m)).map fun m => D.int (m : Nat))) = some (.lst (D.non :: (((List.range 100).filter fun m => decide ((k : Int) ∈ B k m)).map fun m => D.int (m : Nat)))) := by
      refine add_ll _ _ ?_
      have := List.length_filter_le (fun m => decide ((k : Int) ∈ B k m)) (List.range 100)
      simp at this ⊢
      omega
    have hlast' : L2.atI (D.non :: (((List.range 100).filter fun m => decide ((k : Int) ∈ B k m)).map fun m => D.int (m : Nat))) (-1) = some (optD (lastP (fun m => decide ((k : Int) ∈ B k m)) 100)) := hlast
    have e' := e .no
    refine ⟨LV sc r f st ps X a Y a9 S (.sh (.int (k : Nat))) a12 .no a14 (.ow (.lst (((List.range 100).filter fun m => decide ((k : Int) ∈ B k m)).map fun m => D.int (m : Nat)))) .no c .no .no .no .no, ?_, _, _, rfl⟩
    generalize (((List.range 100).filter fun m => decide ((k : Int) ∈ B k m)).map fun m => D.int (m : Nat)) = G at e' hadd hlast' ⊢
    generalize lastP (fun m => decide ((k : Int) ∈ B k m)) 100 = o at h4 hlast' n1
    have hr := rng1_nat 100 (by decide)
    generalize ((List.range 100).map fun m => D.int (m : Nat)) = R100 at hr e'
    unfold law_b3
    generalize rng1 = g at hr ⊢
    simp at hr
    generalize (st.getD k (0, 0)).1 = u at hi d1
    generalize (st.getD k (0, 0)).2 = v at hi
    generalize chg st k 7 = C7 at d2 h1 h2 h3
    simp [forS_cons, hr, noOw, e', h1, hi, d1, d2, h2, h3, eqArg, h4, hadd, hlast', n1]) ⟨.no, .no, rfl⟩
  obtain ⟨ρ', e, a11, a15, rfl⟩ := L
  refine ⟨a11, a15, ?_⟩
  have hr := rng1_nat st.length (by omega)
  unfold law_s15
  generalize rng1 = g at hr ⊢
  simp [hr, e]
theorem law_math : ∀ ns : List Int, ns.length ≤ 63 → F_law [.scr (ns.map D.int)] = .ok (.bl true) := by
  intro ns _
  have h0 : Dr.ok ⟨0, 61, 0⟩ := ⟨by decide, by decide, by decide, by decide⟩
  obtain ⟨st, s2, o2, hn, hS, e2⟩ := draw2 ns ⟨0, 61, 0⟩ h0 (.scr (ns.map D.int))
  obtain ⟨f, s3, o3, f1, f2, e3⟩ := draw3 ns s2 o2 (.scr (ns.map D.int)) (encSs st)
  obtain ⟨ps, s4, o4, hl, hP, e4⟩ := draw4 ns s3 o3 (.scr (ns.map D.int)) (encSs st) f ⟨f1, f2⟩
  have h : Ok st ps := ⟨hS, hn, hP, hl⟩
  obtain ⟨s5, o5, e5⟩ := draw5 F_Ride_init ns s4 o4 (.scr (ns.map D.int)) f st ps (made st ps) fun S P q1 q2 => h.ride q1 q2
  have mI := h.ride (rowS_enc st) (.inr rfl)
  have e6 := s6_x (st := st) (ps := ps) F__law_alike F_Ride_miles F_Ride_eq F_Ride_init (.scr (ns.map D.int)) (encR ns s5) f (miles_ok st ps) alike_self (by rw [eq_ok]; simp) (eq_tup st ps _) mI hn hl.2
  have e7 := s7_x (st := st) (ps := ps) F__law_rows (.scr (ns.map D.int)) (encR ns s5) f _ (lrows_ok st ps hn hP)
  have e8 := s8_x (st := st) (ps := ps) F__law_alike F_Ride_rows (.scr (ns.map D.int)) (encR ns s5) f (rows_ok st ps hn hl) (alike_self _ (rowsz hn))
  obtain ⟨a, b, c, ha, hb, hc, e9⟩ := s9_x (st := st) (ps := ps) F__law_sized F__law_minutes F__law_truth F_Ride_can_be F__law_alike F_Ride_minutes F_Ride_horses (.scr (ns.map D.int)) (encR ns s5) f (.sh (rowsD st ps)) hn rfl
    (sized_rows st.length hn) (fun cs _ => lmin_ok st ps cs hP) (fun cs hcs => by
      have h2 := canbe_ok st ps cs (by have := (rows_fin hn cs hcs).2; omega)
      rw [gaps_fin hn hl cs hcs, ← runM_ok ps cs st 0 0 0] at h2
      exact h2) truth_ok alike_self (fun cs hcs => minutes_ok st ps cs hP (rows_fin hn cs hcs).1) (fun cs hcs => horses_ok h (rows_fin hn cs hcs).1 (rows_fin hn cs hcs).2)
  obtain ⟨bf, bc⟩ := best_fn h
  have mm : ∀ q, bestC st ps 9 = some q → q.length ≤ 5 := fun q hq => by
    obtain ⟨m, e1, m1, _⟩ := best_ok st ps hn hP hl
    rw [e1] at hq
    cases hq
    exact (rows_fin hn q (List.mem_filter.mp m1).1).2
  have hlb := lbest_ok st ps 9 hn hP
  rw [bc] at hlb
  have e10 := s10_x (st := st) (ps := ps) F__law_best (.scr (ns.map D.int)) (encR ns s5) f (.sh (rowsD st ps)) a b c _ hlb
  have e11 := s11_x (st := st) (ps := ps) F__law_alike F_Ride_best F_Ride_fewest (.scr (ns.map D.int)) (encR ns s5) f a b c _ _ hn bf (alike_self _ (sz_all 5 _ (by simp) (by
    intro d hd
    simp only [List.mem_cons, List.not_mem_nil, or_false] at hd
    rcases hd with rfl | rfl
    · rfl
    · exact sz_ints 3 _ (by have := mm _ bc; omega)))) (fewest_ok hl) (few_min hn hl) (alike_self _ rfl)
  obtain ⟨a9, a12, a14, e12⟩ := s12_x (st := st) (ps := ps) F__law_best F_Ride_best_with F_Ride_saved (.scr (ns.map D.int)) (encR ns s5) f (.sh (rowsD st ps)) a b c (bestM st ps) (tv st ps (bestM st ps)) (fun k _ => lbest_ok st ps k hn hP) (fun k _ => bestwith_ok st ps k hn hP hl) (fun k _ => saved_ok h k)
  have e13 := s13_x (ps := ps) (.scr (ns.map D.int)) (encR ns s5) f (.sh (rowsD st ps)) a b c a9 a12 a14 (.sh (.tup [.int (tv st ps (bestM st ps)), encI (bestM st ps)])) hn hS
  have ht := turn_ok h
  have e14 := s14_x (st := st) (ps := ps) F_Ride_eq F_Ride_turned F_Ride_init (.scr (ns.map D.int)) (encR ns s5) f (.sh (rowsD st ps)) a b c a9 a12 a14 (.sh (.tup [.int (tv st ps (bestM st ps)), encI (bestM st ps)])) (encSs (turnS st)) (made (turnS st) ps) _ _ rfl (turned_ok h) (ht.ride (rowS_enc _) (.inr rfl)) (by rw [eq_ok]; simp)
  obtain ⟨a11, a15, e15⟩ := s15_x (st := st) (ps := ps) F__law_best F_Ride_eq F_Ride_with_change F_Ride_init F_Ride_most_change (.scr (ns.map D.int)) (encR ns s5) f (.sh (rowsD st ps)) a b c a9 a12 a14 (.sh (.tup [.int (tv st ps (bestM st ps)), encI (bestM st ps)])) (.sh (encSs (turnS st))) hn (fun k m => bestM (chg st k (m : Int)) ps) (fun k m => tv (chg st k (m : Int)) ps (bestM (chg st k (m : Int)) ps))
    (fun k m hk hm => by
      have q := chg_ok h hk (m := (m : Int)) ⟨by omega, by omega⟩
      have q2 := lbest_ok _ ps 9 q.n hP
      rw [(best_fn q).2] at q2
      exact q2) (fun k hk => change_ok h hk ⟨by decide, by decide⟩) (fun k hk => (chg_ok h hk ⟨by decide, by decide⟩).ride (rowS_enc _) (.inr rfl)) (fun k => by rw [eq_ok]; simp) (fun k hk => most_ok h hk)
  obtain ⟨r', e16⟩ := refused_ok h ns s5 o5
  have e1 : law_s1 (.sh (.scr (ns.map D.int)) :: List.replicate 21 .no) = .ok .nx (.sh (.scr (ns.map D.int)) :: .ow (encR ns ⟨0, 61, 0⟩) :: .no :: List.replicate 19 .no) := by
    simp [law_s1, encR]
  have e16' : law_s16 F__law_refused (LV (.scr (ns.map D.int)) (encR ns s5) f st ps (.sh (rowsD st ps)) a (.sh (.tup [.int (tv st ps (bestM st ps)), encI (bestM st ps)])) a9 (.sh (encSs (turnS st))) a11 a12 .no a14 a15 .no c .no .no .no .no) = .ok (.rt (.bl true)) (LV (.scr (ns.map D.int)) r' f st ps (.sh (rowsD st ps)) a (.sh (.tup [.int (tv st ps (bestM st ps)), encI (bestM st ps)])) a9 (.sh (encSs (turnS st))) a11 a12 .no a14 a15 .no c .no .no .no .no) := by
    unfold law_s16
    generalize F__law_refused = FR at e16
    simp [e16]
  have fin : b_law F__law_taken F_Ride_init F__law_mixed F__law_alike F_Ride_miles F_Ride_eq F__law_rows F_Ride_rows F__law_sized F__law_minutes F__law_truth F_Ride_can_be F_Ride_minutes F_Ride_horses F__law_best F_Ride_best F_Ride_fewest F_Ride_best_with F_Ride_saved F_Ride_turned F_Ride_with_change F_Ride_most_change F__law_refused (.sh (.scr (ns.map D.int)) :: List.replicate 21 .no) = .ok (.rt (.bl true)) (LV (.scr (ns.map D.int)) r' f st ps (.sh (rowsD st ps)) a (.sh (.tup [.int (tv st ps (bestM st ps)), encI (bestM st ps)])) a9 (.sh (encSs (turnS st))) a11 a12 .no a14 a15 .no c .no .no .no .no) := by
    unfold b_law
    rw [e_taken, e_mixed]
    rw [e_sCons, e1, Rs.sq_nx, e_sCons, e2, Rs.sq_nx, e_sCons, e3, Rs.sq_nx, e_sCons, e4, Rs.sq_nx, e_sCons, e5, Rs.sq_nx]
    rw [e_sCons]
    refine (congrArg (fun x => Rs.sq x _) e6).trans ?_
    rw [Rs.sq_nx, e_sCons, e7, Rs.sq_nx, e_sCons, e8, Rs.sq_nx, e_sCons, e9, Rs.sq_nx, e_sCons, e10, Rs.sq_nx]
    rw [e_sCons]
    refine (congrArg (fun x => Rs.sq x _) e11).trans ?_
    rw [Rs.sq_nx, e_sCons, e12, Rs.sq_nx, e_sCons, e13, Rs.sq_nx, e_sCons, e14, Rs.sq_nx, e_sCons, e15, Rs.sq_nx]
    exact e16'
  show fnV 21 _ _ = _
  rw [e_fnV]
  exact congrArg toV fin
end K20

set_option Elab.async false
set_option linter.all false
set_option maxRecDepth 100000
set_option maxHeartbeats 4000000
namespace K20
open PySem PySem.Spec PyProof.Rows L2 J
abbrev s_BadNumber : Stmt := inClass (top 2) 0
abbrev s_BadItem : Stmt := inClass (top 3) 0
abbrev s_TooMany : Stmt := inClass (top 4) 0
abbrev s_Refused : Stmt := inClass (top 5) 0
set_option maxHeartbeats 8000000 in
theorem all_mk {P : Program} {w : World} {K : PySem.W.Frag} {h : Heap} {mg : Str → Option Value} {fa : Addr} (X : K.In h) (G : h.Ns mainGlobals mg) (hfa : mg "law" = some (.ref fa)) (tp : (P.main.scope.names.lookup ("super" : Str)).isSome = false)
    {f_frozen : Addr}
    {f_is_row : Addr}
    {f_is_whole : Addr}
    {f_is_number : Addr}
    {f_is_stage : Addr}
    {f_is_pace : Addr}
    {f_want_row : Addr}
    {f_Ride_init : Addr}
    {f__law_subsets : Addr}
    {f__law_sized : Addr}
    {f__law_minutes : Addr}
    {f__law_rows : Addr}
    {f__law_best : Addr}
    {f_Ride_eq : Addr}
    {f__law_taken : Addr}
    {f__law_pick : Addr}
    {f_Ride_minutes : Addr}
    {f_want_number : Addr}
    {f_want_minutes : Addr}
    {f_subsets : Addr}
    {f_Ride_with_change : Addr}
    {f_Ride_best : Addr}
    {f_Ride_most_change : Addr}
    {f__law_whole : Addr}
    {f__law_refused_row : Addr}
    {f__law_raised : Addr}
    {f__law_refused : Addr}
    {f__law_mixed : Addr}
    {f__law_alike : Addr}
    {f_Ride_turned : Addr}
    {f_Ride_can_be : Addr}
    {f_Ride_rows : Addr}
    {f__law_truth : Addr}
    {f_Ride_fewest : Addr}
    {f_Ride_best_with : Addr}
    {f_Ride_saved : Addr}
    {f_Ride_miles : Addr}
    {f_Ride_horses : Addr}
    {f_law : Addr}
    {C_Ride : Addr}
    {tk_MOST_STAGES : Tok}
    {tk_MOST_TIRED : Tok}
    {od_frozen an_frozen : Option Addr} {sl_frozen : Array (Option Value)} {oc_frozen kV_frozen dc_frozen pm_frozen cd_frozen ct_frozen : Value}
    {od_is_row an_is_row : Option Addr} {sl_is_row : Array (Option Value)} {oc_is_row kV_is_row dc_is_row pm_is_row cd_is_row ct_is_row : Value}
    {od_is_whole an_is_whole : Option Addr} {sl_is_whole : Array (Option Value)} {oc_is_whole kV_is_whole dc_is_whole pm_is_whole cd_is_whole ct_is_whole : Value}
    {od_is_number an_is_number : Option Addr} {sl_is_number : Array (Option Value)} {oc_is_number kV_is_number dc_is_number pm_is_number cd_is_number ct_is_number : Value}
    {od_is_stage an_is_stage : Option Addr} {sl_is_stage : Array (Option Value)} {oc_is_stage kV_is_stage dc_is_stage pm_is_stage cd_is_stage ct_is_stage : Value}
    {od_is_pace an_is_pace : Option Addr} {sl_is_pace : Array (Option Value)} {oc_is_pace kV_is_pace dc_is_pace pm_is_pace cd_is_pace ct_is_pace : Value}
    {od_want_row an_want_row : Option Addr} {sl_want_row : Array (Option Value)} {oc_want_row kV_want_row dc_want_row pm_want_row cd_want_row ct_want_row : Value}
    {od_Ride_init an_Ride_init : Option Addr} {sl_Ride_init : Array (Option Value)} {oc_Ride_init kV_Ride_init dc_Ride_init pm_Ride_init cd_Ride_init ct_Ride_init : Value}
    {od__law_subsets an__law_subsets : Option Addr} {sl__law_subsets : Array (Option Value)} {oc__law_subsets kV__law_subsets dc__law_subsets pm__law_subsets cd__law_subsets ct__law_subsets : Value}
    {od__law_sized an__law_sized : Option Addr} {sl__law_sized : Array (Option Value)} {oc__law_sized kV__law_sized dc__law_sized pm__law_sized cd__law_sized ct__law_sized : Value}
    {od__law_minutes an__law_minutes : Option Addr} {sl__law_minutes : Array (Option Value)} {oc__law_minutes kV__law_minutes dc__law_minutes pm__law_minutes cd__law_minutes ct__law_minutes : Value}
    {od__law_rows an__law_rows : Option Addr} {sl__law_rows : Array (Option Value)} {oc__law_rows kV__law_rows dc__law_rows pm__law_rows cd__law_rows ct__law_rows : Value}
    {od__law_best an__law_best : Option Addr} {sl__law_best : Array (Option Value)} {oc__law_best kV__law_best dc__law_best pm__law_best cd__law_best ct__law_best : Value}
    {od_Ride_eq an_Ride_eq : Option Addr} {sl_Ride_eq : Array (Option Value)} {oc_Ride_eq kV_Ride_eq dc_Ride_eq pm_Ride_eq cd_Ride_eq ct_Ride_eq : Value}
    {od__law_taken an__law_taken : Option Addr} {sl__law_taken : Array (Option Value)} {oc__law_taken kV__law_taken dc__law_taken pm__law_taken cd__law_taken ct__law_taken : Value}
    {od__law_pick an__law_pick : Option Addr} {sl__law_pick : Array (Option Value)} {oc__law_pick kV__law_pick dc__law_pick pm__law_pick cd__law_pick ct__law_pick : Value}
    {od_Ride_minutes an_Ride_minutes : Option Addr} {sl_Ride_minutes : Array (Option Value)} {oc_Ride_minutes kV_Ride_minutes dc_Ride_minutes pm_Ride_minutes cd_Ride_minutes ct_Ride_minutes : Value}
    {od_want_number an_want_number : Option Addr} {sl_want_number : Array (Option Value)} {oc_want_number kV_want_number dc_want_number pm_want_number cd_want_number ct_want_number : Value}
    {od_want_minutes an_want_minutes : Option Addr} {sl_want_minutes : Array (Option Value)} {oc_want_minutes kV_want_minutes dc_want_minutes pm_want_minutes cd_want_minutes ct_want_minutes : Value}
    {od_subsets an_subsets : Option Addr} {sl_subsets : Array (Option Value)} {oc_subsets kV_subsets dc_subsets pm_subsets cd_subsets ct_subsets : Value}
    {od_Ride_with_change an_Ride_with_change : Option Addr} {sl_Ride_with_change : Array (Option Value)} {oc_Ride_with_change kV_Ride_with_change dc_Ride_with_change pm_Ride_with_change cd_Ride_with_change ct_Ride_with_change : Value}
    {od_Ride_best an_Ride_best : Option Addr} {sl_Ride_best : Array (Option Value)} {oc_Ride_best kV_Ride_best dc_Ride_best pm_Ride_best cd_Ride_best ct_Ride_best : Value}
    {od_Ride_most_change an_Ride_most_change : Option Addr} {sl_Ride_most_change : Array (Option Value)} {oc_Ride_most_change kV_Ride_most_change dc_Ride_most_change pm_Ride_most_change cd_Ride_most_change ct_Ride_most_change : Value}
    {od__law_whole an__law_whole : Option Addr} {sl__law_whole : Array (Option Value)} {oc__law_whole kV__law_whole dc__law_whole pm__law_whole cd__law_whole ct__law_whole : Value}
    {od__law_refused_row an__law_refused_row : Option Addr} {sl__law_refused_row : Array (Option Value)} {oc__law_refused_row kV__law_refused_row dc__law_refused_row pm__law_refused_row cd__law_refused_row ct__law_refused_row : Value}
    {od__law_raised an__law_raised : Option Addr} {sl__law_raised : Array (Option Value)} {oc__law_raised kV__law_raised dc__law_raised pm__law_raised cd__law_raised ct__law_raised : Value}
    {od__law_refused an__law_refused : Option Addr} {sl__law_refused : Array (Option Value)} {oc__law_refused kV__law_refused dc__law_refused pm__law_refused cd__law_refused ct__law_refused : Value}
    {od__law_mixed an__law_mixed : Option Addr} {sl__law_mixed : Array (Option Value)} {oc__law_mixed kV__law_mixed dc__law_mixed pm__law_mixed cd__law_mixed ct__law_mixed : Value}
    {od__law_alike an__law_alike : Option Addr} {sl__law_alike : Array (Option Value)} {oc__law_alike kV__law_alike dc__law_alike pm__law_alike cd__law_alike ct__law_alike : Value}
    {od_Ride_turned an_Ride_turned : Option Addr} {sl_Ride_turned : Array (Option Value)} {oc_Ride_turned kV_Ride_turned dc_Ride_turned pm_Ride_turned cd_Ride_turned ct_Ride_turned : Value}
    {od_Ride_can_be an_Ride_can_be : Option Addr} {sl_Ride_can_be : Array (Option Value)} {oc_Ride_can_be kV_Ride_can_be dc_Ride_can_be pm_Ride_can_be cd_Ride_can_be ct_Ride_can_be : Value}
    {od_Ride_rows an_Ride_rows : Option Addr} {sl_Ride_rows : Array (Option Value)} {oc_Ride_rows kV_Ride_rows dc_Ride_rows pm_Ride_rows cd_Ride_rows ct_Ride_rows : Value}
    {od__law_truth an__law_truth : Option Addr} {sl__law_truth : Array (Option Value)} {oc__law_truth kV__law_truth dc__law_truth pm__law_truth cd__law_truth ct__law_truth : Value}
    {od_Ride_fewest an_Ride_fewest : Option Addr} {sl_Ride_fewest : Array (Option Value)} {oc_Ride_fewest kV_Ride_fewest dc_Ride_fewest pm_Ride_fewest cd_Ride_fewest ct_Ride_fewest : Value}
    {od_Ride_best_with an_Ride_best_with : Option Addr} {sl_Ride_best_with : Array (Option Value)} {oc_Ride_best_with kV_Ride_best_with dc_Ride_best_with pm_Ride_best_with cd_Ride_best_with ct_Ride_best_with : Value}
    {od_Ride_saved an_Ride_saved : Option Addr} {sl_Ride_saved : Array (Option Value)} {oc_Ride_saved kV_Ride_saved dc_Ride_saved pm_Ride_saved cd_Ride_saved ct_Ride_saved : Value}
    {od_Ride_miles an_Ride_miles : Option Addr} {sl_Ride_miles : Array (Option Value)} {oc_Ride_miles kV_Ride_miles dc_Ride_miles pm_Ride_miles cd_Ride_miles ct_Ride_miles : Value}
    {od_Ride_horses an_Ride_horses : Option Addr} {sl_Ride_horses : Array (Option Value)} {oc_Ride_horses kV_Ride_horses dc_Ride_horses pm_Ride_horses cd_Ride_horses ct_Ride_horses : Value}
    {od_law an_law : Option Addr} {sl_law : Array (Option Value)} {oc_law kV_law dc_law pm_law cd_law ct_law : Value}
    {C_BadNumber : Addr}
    {C_BadItem : Addr}
    {C_TooMany : Addr}
    {C_Refused : Addr}
    {nm_BadNumber q_BadNumber : Str} {N_BadNumber : Addr} {bs_BadNumber bm_BadNumber : List Value} {sn_BadNumber : List Str} {sub_BadNumber : List Value} {ab_BadNumber : Bool} {col_BadNumber : Option Bool} {dd_BadNumber : Option Addr} {m0_BadNumber m1_BadNumber m2_BadNumber m3_BadNumber m5_BadNumber : Option Value}
    {fI_BadNumber cc_BadNumber cda_BadNumber : Addr} {odI_BadNumber anI_BadNumber cld_BadNumber cdd_BadNumber : Option Addr} {slI_BadNumber csl_BadNumber ccs_BadNumber : Array (Option Value)} {ocI_BadNumber dcI_BadNumber pmI_BadNumber ctI_BadNumber cl_BadNumber ccl_BadNumber : Value} {vs_BadNumber : Array Value} {fl_BadNumber : Str} {tf_BadNumber : Tok}
    {nm_BadItem q_BadItem : Str} {N_BadItem : Addr} {bs_BadItem bm_BadItem : List Value} {sn_BadItem : List Str} {sub_BadItem : List Value} {ab_BadItem : Bool} {col_BadItem : Option Bool} {dd_BadItem : Option Addr} {m0_BadItem m1_BadItem m2_BadItem m3_BadItem m5_BadItem : Option Value}
    {fI_BadItem cc_BadItem cda_BadItem : Addr} {odI_BadItem anI_BadItem cld_BadItem cdd_BadItem : Option Addr} {slI_BadItem csl_BadItem ccs_BadItem : Array (Option Value)} {ocI_BadItem dcI_BadItem pmI_BadItem ctI_BadItem cl_BadItem ccl_BadItem : Value} {vs_BadItem : Array Value} {fl_BadItem : Str} {tf_BadItem : Tok}
    {nm_TooMany q_TooMany : Str} {N_TooMany : Addr} {bs_TooMany bm_TooMany : List Value} {sn_TooMany : List Str} {sub_TooMany : List Value} {ab_TooMany : Bool} {col_TooMany : Option Bool} {dd_TooMany : Option Addr} {m0_TooMany m1_TooMany m2_TooMany m3_TooMany m5_TooMany : Option Value}
    {fI_TooMany cc_TooMany cda_TooMany : Addr} {odI_TooMany anI_TooMany cld_TooMany cdd_TooMany : Option Addr} {slI_TooMany csl_TooMany ccs_TooMany : Array (Option Value)} {ocI_TooMany dcI_TooMany pmI_TooMany ctI_TooMany cl_TooMany ccl_TooMany : Value} {vs_TooMany : Array Value} {fl_TooMany : Str} {tf_TooMany : Tok}
    {nm_Refused q_Refused : Str} {N_Refused : Addr} {bs_Refused bm_Refused : List Value} {sn_Refused : List Str} {sub_Refused : List Value} {ab_Refused : Bool} {col_Refused : Option Bool} {dd_Refused : Option Addr} {m0_Refused m1_Refused m2_Refused m3_Refused m5_Refused : Option Value}
    {fI_Refused cc_Refused cda_Refused : Addr} {odI_Refused anI_Refused cld_Refused cdd_Refused : Option Addr} {slI_Refused csl_Refused ccs_Refused : Array (Option Value)} {ocI_Refused dcI_Refused pmI_Refused ctI_Refused cl_Refused ccl_Refused : Value} {vs_Refused : Array Value} {fl_Refused : Str} {tf_Refused : Tok}
    (aC_Ride : PySem.W.nsIn K mainGlobals "Ride" = some (some (.ref C_Ride)))
    (pg_Ride : PySem.W.plainGet K C_Ride Str.empty = true)
    (hd_Ride : PySem.W.hasDictIn K C_Ride = true)
    (po_Ride : PySem.W.plainOver K C_Ride = true)
    (sa_Ride : PySem.W.findIn K (.ref C_Ride) "__setattr__" = some (some (.builtin "object.__setattr__")))
    (mk_Ride : PySem.W.makesIn K C_Ride = true)
    (mi_Ride : PySem.W.findIn K (.ref C_Ride) "__init__" = some (some (.ref f_Ride_init)))
    (fn_Ride_init : PySem.W.isFn K (.ref f_Ride_init) = true)
    (kC_Ride : PySem.W.keepIn K (.ref C_Ride) = true)
    (eq_Ride : PySem.W.findIn K (.ref C_Ride) "__eq__" = some (some (.ref f_Ride_eq)))
    (fn_Ride_eq : PySem.W.isFn K (.ref f_Ride_eq) = true)
    (ne_Ride : PySem.W.findIn K (.ref C_Ride) "__ne__" = some (some (.builtin "object.__ne__")))
    (et_Ride : PySem.W.subIn K (.type "tuple") (.ref C_Ride) = some false)
    (ob_Ride : PySem.W.mroIn K C_Ride (.type "object") = some true)
    (xa_Ride : PySem.W.findIn K (.ref C_Ride) "__class__" = some (some (.builtin "object.__class__")))
    (xc_Ride : PySem.W.isClsIn K C_Ride = true)
    (tC_Ride : PySem.W.typeIn K (.ref C_Ride) = some (.type "type"))
    (m_Ride_minutes : PySem.W.findIn K (.ref C_Ride) "minutes" = some (some (.ref f_Ride_minutes)))
    (fn_Ride_minutes : PySem.W.isFn K (.ref f_Ride_minutes) = true)
    (m_Ride_with_change : PySem.W.findIn K (.ref C_Ride) "with_change" = some (some (.ref f_Ride_with_change)))
    (fn_Ride_with_change : PySem.W.isFn K (.ref f_Ride_with_change) = true)
    (m_Ride_best : PySem.W.findIn K (.ref C_Ride) "best" = some (some (.ref f_Ride_best)))
    (fn_Ride_best : PySem.W.isFn K (.ref f_Ride_best) = true)
    (m_Ride_most_change : PySem.W.findIn K (.ref C_Ride) "most_change" = some (some (.ref f_Ride_most_change)))
    (fn_Ride_most_change : PySem.W.isFn K (.ref f_Ride_most_change) = true)
    (m_Ride_turned : PySem.W.findIn K (.ref C_Ride) "turned" = some (some (.ref f_Ride_turned)))
    (fn_Ride_turned : PySem.W.isFn K (.ref f_Ride_turned) = true)
    (m_Ride_can_be : PySem.W.findIn K (.ref C_Ride) "can_be" = some (some (.ref f_Ride_can_be)))
    (fn_Ride_can_be : PySem.W.isFn K (.ref f_Ride_can_be) = true)
    (m_Ride_rows : PySem.W.findIn K (.ref C_Ride) "rows" = some (some (.ref f_Ride_rows)))
    (fn_Ride_rows : PySem.W.isFn K (.ref f_Ride_rows) = true)
    (m_Ride_fewest : PySem.W.findIn K (.ref C_Ride) "fewest" = some (some (.ref f_Ride_fewest)))
    (fn_Ride_fewest : PySem.W.isFn K (.ref f_Ride_fewest) = true)
    (m_Ride_best_with : PySem.W.findIn K (.ref C_Ride) "best_with" = some (some (.ref f_Ride_best_with)))
    (fn_Ride_best_with : PySem.W.isFn K (.ref f_Ride_best_with) = true)
    (m_Ride_saved : PySem.W.findIn K (.ref C_Ride) "saved" = some (some (.ref f_Ride_saved)))
    (fn_Ride_saved : PySem.W.isFn K (.ref f_Ride_saved) = true)
    (m_Ride_miles : PySem.W.findIn K (.ref C_Ride) "miles" = some (some (.ref f_Ride_miles)))
    (fn_Ride_miles : PySem.W.isFn K (.ref f_Ride_miles) = true)
    (m_Ride_horses : PySem.W.findIn K (.ref C_Ride) "horses" = some (some (.ref f_Ride_horses)))
    (fn_Ride_horses : PySem.W.isFn K (.ref f_Ride_horses) = true)
    (na_Ride_stages : PySem.W.findIn K (.ref C_Ride) "stages" = some none)
    (na_Ride_paces : PySem.W.findIn K (.ref C_Ride) "paces" = some none)
    (cn_MOST_STAGES : PySem.W.nsIn K mainGlobals "MOST_STAGES" = some (some (.int 8 tk_MOST_STAGES)))
    (cn_MOST_TIRED : PySem.W.nsIn K mainGlobals "MOST_TIRED" = some (some (.int 4 tk_MOST_TIRED)))
    (a_frozen : PySem.W.nsIn K mainGlobals "frozen" = some (some (.ref f_frozen)))
    (l_frozen : K.lookup f_frozen = some ⟨oc_frozen, od_frozen, .func (PySem.W.fnOf "frozen" "frozen" (defArgs s_frozen) (defBody s_frozen) (defScope s_frozen) .none kV_frozen dc_frozen pm_frozen an_frozen cd_frozen ct_frozen), sl_frozen⟩)
    (c_frozen : PySem.W.codeIn K cd_frozen "frozen" = true)
    (k_frozen : PySem.W.keepIn K (.ref f_frozen) = true)
    (a_is_row : PySem.W.nsIn K mainGlobals "is_row" = some (some (.ref f_is_row)))
    (l_is_row : K.lookup f_is_row = some ⟨oc_is_row, od_is_row, .func (PySem.W.fnOf "is_row" "is_row" (defArgs s_is_row) (defBody s_is_row) (defScope s_is_row) .none kV_is_row dc_is_row pm_is_row an_is_row cd_is_row ct_is_row), sl_is_row⟩)
    (c_is_row : PySem.W.codeIn K cd_is_row "is_row" = true)
    (k_is_row : PySem.W.keepIn K (.ref f_is_row) = true)
    (a_is_whole : PySem.W.nsIn K mainGlobals "is_whole" = some (some (.ref f_is_whole)))
    (l_is_whole : K.lookup f_is_whole = some ⟨oc_is_whole, od_is_whole, .func (PySem.W.fnOf "is_whole" "is_whole" (defArgs s_is_whole) (defBody s_is_whole) (defScope s_is_whole) .none kV_is_whole dc_is_whole pm_is_whole an_is_whole cd_is_whole ct_is_whole), sl_is_whole⟩)
    (c_is_whole : PySem.W.codeIn K cd_is_whole "is_whole" = true)
    (k_is_whole : PySem.W.keepIn K (.ref f_is_whole) = true)
    (a_is_number : PySem.W.nsIn K mainGlobals "is_number" = some (some (.ref f_is_number)))
    (l_is_number : K.lookup f_is_number = some ⟨oc_is_number, od_is_number, .func (PySem.W.fnOf "is_number" "is_number" (defArgs s_is_number) (defBody s_is_number) (defScope s_is_number) .none kV_is_number dc_is_number pm_is_number an_is_number cd_is_number ct_is_number), sl_is_number⟩)
    (c_is_number : PySem.W.codeIn K cd_is_number "is_number" = true)
    (k_is_number : PySem.W.keepIn K (.ref f_is_number) = true)
    (a_is_stage : PySem.W.nsIn K mainGlobals "is_stage" = some (some (.ref f_is_stage)))
    (l_is_stage : K.lookup f_is_stage = some ⟨oc_is_stage, od_is_stage, .func (PySem.W.fnOf "is_stage" "is_stage" (defArgs s_is_stage) (defBody s_is_stage) (defScope s_is_stage) .none kV_is_stage dc_is_stage pm_is_stage an_is_stage cd_is_stage ct_is_stage), sl_is_stage⟩)
    (c_is_stage : PySem.W.codeIn K cd_is_stage "is_stage" = true)
    (k_is_stage : PySem.W.keepIn K (.ref f_is_stage) = true)
    (a_is_pace : PySem.W.nsIn K mainGlobals "is_pace" = some (some (.ref f_is_pace)))
    (l_is_pace : K.lookup f_is_pace = some ⟨oc_is_pace, od_is_pace, .func (PySem.W.fnOf "is_pace" "is_pace" (defArgs s_is_pace) (defBody s_is_pace) (defScope s_is_pace) .none kV_is_pace dc_is_pace pm_is_pace an_is_pace cd_is_pace ct_is_pace), sl_is_pace⟩)
    (c_is_pace : PySem.W.codeIn K cd_is_pace "is_pace" = true)
    (k_is_pace : PySem.W.keepIn K (.ref f_is_pace) = true)
    (a_want_row : PySem.W.nsIn K mainGlobals "want_row" = some (some (.ref f_want_row)))
    (l_want_row : K.lookup f_want_row = some ⟨oc_want_row, od_want_row, .func (PySem.W.fnOf "want_row" "want_row" (defArgs s_want_row) (defBody s_want_row) (defScope s_want_row) .none kV_want_row dc_want_row pm_want_row an_want_row cd_want_row ct_want_row), sl_want_row⟩)
    (c_want_row : PySem.W.codeIn K cd_want_row "want_row" = true)
    (k_want_row : PySem.W.keepIn K (.ref f_want_row) = true)
    (l_Ride_init : K.lookup f_Ride_init = some ⟨oc_Ride_init, od_Ride_init, .func (PySem.W.fnOf "__init__" "Ride.__init__" (defArgs s_Ride_init) (defBody s_Ride_init) (defScope s_Ride_init) .none kV_Ride_init dc_Ride_init pm_Ride_init an_Ride_init cd_Ride_init ct_Ride_init), sl_Ride_init⟩)
    (c_Ride_init : PySem.W.codeIn K cd_Ride_init "Ride.__init__" = true)
    (k_Ride_init : PySem.W.keepIn K (.ref f_Ride_init) = true)
    (a__law_subsets : PySem.W.nsIn K mainGlobals "_law_subsets" = some (some (.ref f__law_subsets)))
    (l__law_subsets : K.lookup f__law_subsets = some ⟨oc__law_subsets, od__law_subsets, .func (PySem.W.fnOf "_law_subsets" "_law_subsets" (defArgs s__law_subsets) (defBody s__law_subsets) (defScope s__law_subsets) .none kV__law_subsets dc__law_subsets pm__law_subsets an__law_subsets cd__law_subsets ct__law_subsets), sl__law_subsets⟩)
    (c__law_subsets : PySem.W.codeIn K cd__law_subsets "_law_subsets" = true)
    (k__law_subsets : PySem.W.keepIn K (.ref f__law_subsets) = true)
    (a__law_sized : PySem.W.nsIn K mainGlobals "_law_sized" = some (some (.ref f__law_sized)))
    (l__law_sized : K.lookup f__law_sized = some ⟨oc__law_sized, od__law_sized, .func (PySem.W.fnOf "_law_sized" "_law_sized" (defArgs s__law_sized) (defBody s__law_sized) (defScope s__law_sized) .none kV__law_sized dc__law_sized pm__law_sized an__law_sized cd__law_sized ct__law_sized), sl__law_sized⟩)
    (c__law_sized : PySem.W.codeIn K cd__law_sized "_law_sized" = true)
    (k__law_sized : PySem.W.keepIn K (.ref f__law_sized) = true)
    (a__law_minutes : PySem.W.nsIn K mainGlobals "_law_minutes" = some (some (.ref f__law_minutes)))
    (l__law_minutes : K.lookup f__law_minutes = some ⟨oc__law_minutes, od__law_minutes, .func (PySem.W.fnOf "_law_minutes" "_law_minutes" (defArgs s__law_minutes) (defBody s__law_minutes) (defScope s__law_minutes) .none kV__law_minutes dc__law_minutes pm__law_minutes an__law_minutes cd__law_minutes ct__law_minutes), sl__law_minutes⟩)
    (c__law_minutes : PySem.W.codeIn K cd__law_minutes "_law_minutes" = true)
    (k__law_minutes : PySem.W.keepIn K (.ref f__law_minutes) = true)
    (a__law_rows : PySem.W.nsIn K mainGlobals "_law_rows" = some (some (.ref f__law_rows)))
    (l__law_rows : K.lookup f__law_rows = some ⟨oc__law_rows, od__law_rows, .func (PySem.W.fnOf "_law_rows" "_law_rows" (defArgs s__law_rows) (defBody s__law_rows) (defScope s__law_rows) .none kV__law_rows dc__law_rows pm__law_rows an__law_rows cd__law_rows ct__law_rows), sl__law_rows⟩)
    (c__law_rows : PySem.W.codeIn K cd__law_rows "_law_rows" = true)
    (k__law_rows : PySem.W.keepIn K (.ref f__law_rows) = true)
    (a__law_best : PySem.W.nsIn K mainGlobals "_law_best" = some (some (.ref f__law_best)))
    (l__law_best : K.lookup f__law_best = some ⟨oc__law_best, od__law_best, .func (PySem.W.fnOf "_law_best" "_law_best" (defArgs s__law_best) (defBody s__law_best) (defScope s__law_best) .none kV__law_best dc__law_best pm__law_best an__law_best cd__law_best ct__law_best), sl__law_best⟩)
    (c__law_best : PySem.W.codeIn K cd__law_best "_law_best" = true)
    (k__law_best : PySem.W.keepIn K (.ref f__law_best) = true)
    (l_Ride_eq : K.lookup f_Ride_eq = some ⟨oc_Ride_eq, od_Ride_eq, .func (PySem.W.fnOf "__eq__" "Ride.__eq__" (defArgs s_Ride_eq) (defBody s_Ride_eq) (defScope s_Ride_eq) .none kV_Ride_eq dc_Ride_eq pm_Ride_eq an_Ride_eq cd_Ride_eq ct_Ride_eq), sl_Ride_eq⟩)
    (c_Ride_eq : PySem.W.codeIn K cd_Ride_eq "Ride.__eq__" = true)
    (k_Ride_eq : PySem.W.keepIn K (.ref f_Ride_eq) = true)
    (a__law_taken : PySem.W.nsIn K mainGlobals "_law_taken" = some (some (.ref f__law_taken)))
    (l__law_taken : K.lookup f__law_taken = some ⟨oc__law_taken, od__law_taken, .func (PySem.W.fnOf "_law_taken" "_law_taken" (defArgs s__law_taken) (defBody s__law_taken) (defScope s__law_taken) .none kV__law_taken dc__law_taken pm__law_taken an__law_taken cd__law_taken ct__law_taken), sl__law_taken⟩)
    (c__law_taken : PySem.W.codeIn K cd__law_taken "_law_taken" = true)
    (k__law_taken : PySem.W.keepIn K (.ref f__law_taken) = true)
    (a__law_pick : PySem.W.nsIn K mainGlobals "_law_pick" = some (some (.ref f__law_pick)))
    (l__law_pick : K.lookup f__law_pick = some ⟨oc__law_pick, od__law_pick, .func (PySem.W.fnOf "_law_pick" "_law_pick" (defArgs s__law_pick) (defBody s__law_pick) (defScope s__law_pick) .none kV__law_pick dc__law_pick pm__law_pick an__law_pick cd__law_pick ct__law_pick), sl__law_pick⟩)
    (c__law_pick : PySem.W.codeIn K cd__law_pick "_law_pick" = true)
    (k__law_pick : PySem.W.keepIn K (.ref f__law_pick) = true)
    (l_Ride_minutes : K.lookup f_Ride_minutes = some ⟨oc_Ride_minutes, od_Ride_minutes, .func (PySem.W.fnOf "minutes" "Ride.minutes" (defArgs s_Ride_minutes) (defBody s_Ride_minutes) (defScope s_Ride_minutes) .none kV_Ride_minutes dc_Ride_minutes pm_Ride_minutes an_Ride_minutes cd_Ride_minutes ct_Ride_minutes), sl_Ride_minutes⟩)
    (c_Ride_minutes : PySem.W.codeIn K cd_Ride_minutes "Ride.minutes" = true)
    (k_Ride_minutes : PySem.W.keepIn K (.ref f_Ride_minutes) = true)
    (a_want_number : PySem.W.nsIn K mainGlobals "want_number" = some (some (.ref f_want_number)))
    (l_want_number : K.lookup f_want_number = some ⟨oc_want_number, od_want_number, .func (PySem.W.fnOf "want_number" "want_number" (defArgs s_want_number) (defBody s_want_number) (defScope s_want_number) .none kV_want_number dc_want_number pm_want_number an_want_number cd_want_number ct_want_number), sl_want_number⟩)
    (c_want_number : PySem.W.codeIn K cd_want_number "want_number" = true)
    (k_want_number : PySem.W.keepIn K (.ref f_want_number) = true)
    (a_want_minutes : PySem.W.nsIn K mainGlobals "want_minutes" = some (some (.ref f_want_minutes)))
    (l_want_minutes : K.lookup f_want_minutes = some ⟨oc_want_minutes, od_want_minutes, .func (PySem.W.fnOf "want_minutes" "want_minutes" (defArgs s_want_minutes) (defBody s_want_minutes) (defScope s_want_minutes) .none kV_want_minutes dc_want_minutes pm_want_minutes an_want_minutes cd_want_minutes ct_want_minutes), sl_want_minutes⟩)
    (c_want_minutes : PySem.W.codeIn K cd_want_minutes "want_minutes" = true)
    (k_want_minutes : PySem.W.keepIn K (.ref f_want_minutes) = true)
    (a_subsets : PySem.W.nsIn K mainGlobals "subsets" = some (some (.ref f_subsets)))
    (l_subsets : K.lookup f_subsets = some ⟨oc_subsets, od_subsets, .func (PySem.W.fnOf "subsets" "subsets" (defArgs s_subsets) (defBody s_subsets) (defScope s_subsets) .none kV_subsets dc_subsets pm_subsets an_subsets cd_subsets ct_subsets), sl_subsets⟩)
    (c_subsets : PySem.W.codeIn K cd_subsets "subsets" = true)
    (k_subsets : PySem.W.keepIn K (.ref f_subsets) = true)
    (l_Ride_with_change : K.lookup f_Ride_with_change = some ⟨oc_Ride_with_change, od_Ride_with_change, .func (PySem.W.fnOf "with_change" "Ride.with_change" (defArgs s_Ride_with_change) (defBody s_Ride_with_change) (defScope s_Ride_with_change) .none kV_Ride_with_change dc_Ride_with_change pm_Ride_with_change an_Ride_with_change cd_Ride_with_change ct_Ride_with_change), sl_Ride_with_change⟩)
    (c_Ride_with_change : PySem.W.codeIn K cd_Ride_with_change "Ride.with_change" = true)
    (k_Ride_with_change : PySem.W.keepIn K (.ref f_Ride_with_change) = true)
    (l_Ride_best : K.lookup f_Ride_best = some ⟨oc_Ride_best, od_Ride_best, .func (PySem.W.fnOf "best" "Ride.best" (defArgs s_Ride_best) (defBody s_Ride_best) (defScope s_Ride_best) .none kV_Ride_best dc_Ride_best pm_Ride_best an_Ride_best cd_Ride_best ct_Ride_best), sl_Ride_best⟩)
    (c_Ride_best : PySem.W.codeIn K cd_Ride_best "Ride.best" = true)
    (k_Ride_best : PySem.W.keepIn K (.ref f_Ride_best) = true)
    (l_Ride_most_change : K.lookup f_Ride_most_change = some ⟨oc_Ride_most_change, od_Ride_most_change, .func (PySem.W.fnOf "most_change" "Ride.most_change" (defArgs s_Ride_most_change) (defBody s_Ride_most_change) (defScope s_Ride_most_change) .none kV_Ride_most_change dc_Ride_most_change pm_Ride_most_change an_Ride_most_change cd_Ride_most_change ct_Ride_most_change), sl_Ride_most_change⟩)
    (c_Ride_most_change : PySem.W.codeIn K cd_Ride_most_change "Ride.most_change" = true)
    (k_Ride_most_change : PySem.W.keepIn K (.ref f_Ride_most_change) = true)
    (a__law_whole : PySem.W.nsIn K mainGlobals "_law_whole" = some (some (.ref f__law_whole)))
    (l__law_whole : K.lookup f__law_whole = some ⟨oc__law_whole, od__law_whole, .func (PySem.W.fnOf "_law_whole" "_law_whole" (defArgs s__law_whole) (defBody s__law_whole) (defScope s__law_whole) .none kV__law_whole dc__law_whole pm__law_whole an__law_whole cd__law_whole ct__law_whole), sl__law_whole⟩)
    (c__law_whole : PySem.W.codeIn K cd__law_whole "_law_whole" = true)
    (k__law_whole : PySem.W.keepIn K (.ref f__law_whole) = true)
    (a__law_refused_row : PySem.W.nsIn K mainGlobals "_law_refused_row" = some (some (.ref f__law_refused_row)))
    (l__law_refused_row : K.lookup f__law_refused_row = some ⟨oc__law_refused_row, od__law_refused_row, .func (PySem.W.fnOf "_law_refused_row" "_law_refused_row" (defArgs s__law_refused_row) (defBody s__law_refused_row) (defScope s__law_refused_row) .none kV__law_refused_row dc__law_refused_row pm__law_refused_row an__law_refused_row cd__law_refused_row ct__law_refused_row), sl__law_refused_row⟩)
    (c__law_refused_row : PySem.W.codeIn K cd__law_refused_row "_law_refused_row" = true)
    (k__law_refused_row : PySem.W.keepIn K (.ref f__law_refused_row) = true)
    (a__law_raised : PySem.W.nsIn K mainGlobals "_law_raised" = some (some (.ref f__law_raised)))
    (l__law_raised : K.lookup f__law_raised = some ⟨oc__law_raised, od__law_raised, .func (PySem.W.fnOf "_law_raised" "_law_raised" (defArgs s__law_raised) (defBody s__law_raised) (defScope s__law_raised) .none kV__law_raised dc__law_raised pm__law_raised an__law_raised cd__law_raised ct__law_raised), sl__law_raised⟩)
    (c__law_raised : PySem.W.codeIn K cd__law_raised "_law_raised" = true)
    (k__law_raised : PySem.W.keepIn K (.ref f__law_raised) = true)
    (a__law_refused : PySem.W.nsIn K mainGlobals "_law_refused" = some (some (.ref f__law_refused)))
    (l__law_refused : K.lookup f__law_refused = some ⟨oc__law_refused, od__law_refused, .func (PySem.W.fnOf "_law_refused" "_law_refused" (defArgs s__law_refused) (defBody s__law_refused) (defScope s__law_refused) .none kV__law_refused dc__law_refused pm__law_refused an__law_refused cd__law_refused ct__law_refused), sl__law_refused⟩)
    (c__law_refused : PySem.W.codeIn K cd__law_refused "_law_refused" = true)
    (k__law_refused : PySem.W.keepIn K (.ref f__law_refused) = true)
    (a__law_mixed : PySem.W.nsIn K mainGlobals "_law_mixed" = some (some (.ref f__law_mixed)))
    (l__law_mixed : K.lookup f__law_mixed = some ⟨oc__law_mixed, od__law_mixed, .func (PySem.W.fnOf "_law_mixed" "_law_mixed" (defArgs s__law_mixed) (defBody s__law_mixed) (defScope s__law_mixed) .none kV__law_mixed dc__law_mixed pm__law_mixed an__law_mixed cd__law_mixed ct__law_mixed), sl__law_mixed⟩)
    (c__law_mixed : PySem.W.codeIn K cd__law_mixed "_law_mixed" = true)
    (k__law_mixed : PySem.W.keepIn K (.ref f__law_mixed) = true)
    (a__law_alike : PySem.W.nsIn K mainGlobals "_law_alike" = some (some (.ref f__law_alike)))
    (l__law_alike : K.lookup f__law_alike = some ⟨oc__law_alike, od__law_alike, .func (PySem.W.fnOf "_law_alike" "_law_alike" (defArgs s__law_alike) (defBody s__law_alike) (defScope s__law_alike) .none kV__law_alike dc__law_alike pm__law_alike an__law_alike cd__law_alike ct__law_alike), sl__law_alike⟩)
    (c__law_alike : PySem.W.codeIn K cd__law_alike "_law_alike" = true)
    (k__law_alike : PySem.W.keepIn K (.ref f__law_alike) = true)
    (l_Ride_turned : K.lookup f_Ride_turned = some ⟨oc_Ride_turned, od_Ride_turned, .func (PySem.W.fnOf "turned" "Ride.turned" (defArgs s_Ride_turned) (defBody s_Ride_turned) (defScope s_Ride_turned) .none kV_Ride_turned dc_Ride_turned pm_Ride_turned an_Ride_turned cd_Ride_turned ct_Ride_turned), sl_Ride_turned⟩)
    (c_Ride_turned : PySem.W.codeIn K cd_Ride_turned "Ride.turned" = true)
    (k_Ride_turned : PySem.W.keepIn K (.ref f_Ride_turned) = true)
    (l_Ride_can_be : K.lookup f_Ride_can_be = some ⟨oc_Ride_can_be, od_Ride_can_be, .func (PySem.W.fnOf "can_be" "Ride.can_be" (defArgs s_Ride_can_be) (defBody s_Ride_can_be) (defScope s_Ride_can_be) .none kV_Ride_can_be dc_Ride_can_be pm_Ride_can_be an_Ride_can_be cd_Ride_can_be ct_Ride_can_be), sl_Ride_can_be⟩)
    (c_Ride_can_be : PySem.W.codeIn K cd_Ride_can_be "Ride.can_be" = true)
    (k_Ride_can_be : PySem.W.keepIn K (.ref f_Ride_can_be) = true)
    (l_Ride_rows : K.lookup f_Ride_rows = some ⟨oc_Ride_rows, od_Ride_rows, .func (PySem.W.fnOf "rows" "Ride.rows" (defArgs s_Ride_rows) (defBody s_Ride_rows) (defScope s_Ride_rows) .none kV_Ride_rows dc_Ride_rows pm_Ride_rows an_Ride_rows cd_Ride_rows ct_Ride_rows), sl_Ride_rows⟩)
    (c_Ride_rows : PySem.W.codeIn K cd_Ride_rows "Ride.rows" = true)
    (k_Ride_rows : PySem.W.keepIn K (.ref f_Ride_rows) = true)
    (a__law_truth : PySem.W.nsIn K mainGlobals "_law_truth" = some (some (.ref f__law_truth)))
    (l__law_truth : K.lookup f__law_truth = some ⟨oc__law_truth, od__law_truth, .func (PySem.W.fnOf "_law_truth" "_law_truth" (defArgs s__law_truth) (defBody s__law_truth) (defScope s__law_truth) .none kV__law_truth dc__law_truth pm__law_truth an__law_truth cd__law_truth ct__law_truth), sl__law_truth⟩)
    (c__law_truth : PySem.W.codeIn K cd__law_truth "_law_truth" = true)
    (k__law_truth : PySem.W.keepIn K (.ref f__law_truth) = true)
    (l_Ride_fewest : K.lookup f_Ride_fewest = some ⟨oc_Ride_fewest, od_Ride_fewest, .func (PySem.W.fnOf "fewest" "Ride.fewest" (defArgs s_Ride_fewest) (defBody s_Ride_fewest) (defScope s_Ride_fewest) .none kV_Ride_fewest dc_Ride_fewest pm_Ride_fewest an_Ride_fewest cd_Ride_fewest ct_Ride_fewest), sl_Ride_fewest⟩)
    (c_Ride_fewest : PySem.W.codeIn K cd_Ride_fewest "Ride.fewest" = true)
    (k_Ride_fewest : PySem.W.keepIn K (.ref f_Ride_fewest) = true)
    (l_Ride_best_with : K.lookup f_Ride_best_with = some ⟨oc_Ride_best_with, od_Ride_best_with, .func (PySem.W.fnOf "best_with" "Ride.best_with" (defArgs s_Ride_best_with) (defBody s_Ride_best_with) (defScope s_Ride_best_with) .none kV_Ride_best_with dc_Ride_best_with pm_Ride_best_with an_Ride_best_with cd_Ride_best_with ct_Ride_best_with), sl_Ride_best_with⟩)
    (c_Ride_best_with : PySem.W.codeIn K cd_Ride_best_with "Ride.best_with" = true)
    (k_Ride_best_with : PySem.W.keepIn K (.ref f_Ride_best_with) = true)
    (l_Ride_saved : K.lookup f_Ride_saved = some ⟨oc_Ride_saved, od_Ride_saved, .func (PySem.W.fnOf "saved" "Ride.saved" (defArgs s_Ride_saved) (defBody s_Ride_saved) (defScope s_Ride_saved) .none kV_Ride_saved dc_Ride_saved pm_Ride_saved an_Ride_saved cd_Ride_saved ct_Ride_saved), sl_Ride_saved⟩)
    (c_Ride_saved : PySem.W.codeIn K cd_Ride_saved "Ride.saved" = true)
    (k_Ride_saved : PySem.W.keepIn K (.ref f_Ride_saved) = true)
    (l_Ride_miles : K.lookup f_Ride_miles = some ⟨oc_Ride_miles, od_Ride_miles, .func (PySem.W.fnOf "miles" "Ride.miles" (defArgs s_Ride_miles) (defBody s_Ride_miles) (defScope s_Ride_miles) .none kV_Ride_miles dc_Ride_miles pm_Ride_miles an_Ride_miles cd_Ride_miles ct_Ride_miles), sl_Ride_miles⟩)
    (c_Ride_miles : PySem.W.codeIn K cd_Ride_miles "Ride.miles" = true)
    (k_Ride_miles : PySem.W.keepIn K (.ref f_Ride_miles) = true)
    (l_Ride_horses : K.lookup f_Ride_horses = some ⟨oc_Ride_horses, od_Ride_horses, .func (PySem.W.fnOf "horses" "Ride.horses" (defArgs s_Ride_horses) (defBody s_Ride_horses) (defScope s_Ride_horses) .none kV_Ride_horses dc_Ride_horses pm_Ride_horses an_Ride_horses cd_Ride_horses ct_Ride_horses), sl_Ride_horses⟩)
    (c_Ride_horses : PySem.W.codeIn K cd_Ride_horses "Ride.horses" = true)
    (k_Ride_horses : PySem.W.keepIn K (.ref f_Ride_horses) = true)
    (a_law : PySem.W.nsIn K mainGlobals "law" = some (some (.ref f_law)))
    (l_law : K.lookup f_law = some ⟨oc_law, od_law, .func (PySem.W.fnOf "law" "law" (defArgs s_law) (defBody s_law) (defScope s_law) .none kV_law dc_law pm_law an_law cd_law ct_law), sl_law⟩)
    (c_law : PySem.W.codeIn K cd_law "law" = true)
    (k_law : PySem.W.keepIn K (.ref f_law) = true)
    (z_len : PySem.W.nsIn K mainGlobals "len" = some none)
    (z_abs : PySem.W.nsIn K mainGlobals "abs" = some none)
    (z_int : PySem.W.nsIn K mainGlobals "int" = some none)
    (z_tuple : PySem.W.nsIn K mainGlobals "tuple" = some none)
    (z_list : PySem.W.nsIn K mainGlobals "list" = some none)
    (z_sum : PySem.W.nsIn K mainGlobals "sum" = some none)
    (z_max : PySem.W.nsIn K mainGlobals "max" = some none)
    (z_min : PySem.W.nsIn K mainGlobals "min" = some none)
    (z_any : PySem.W.nsIn K mainGlobals "any" = some none)
    (z_all : PySem.W.nsIn K mainGlobals "all" = some none)
    (z_range : PySem.W.nsIn K mainGlobals "range" = some none)
    (z_isinstance : PySem.W.nsIn K mainGlobals "isinstance" = some none)
    (z_str : PySem.W.nsIn K mainGlobals "str" = some none)
    (z_bool : PySem.W.nsIn K mainGlobals "bool" = some none)
    (z_sorted : PySem.W.nsIn K mainGlobals "sorted" = some none)
    (z_set : PySem.W.nsIn K mainGlobals "set" = some none)
    (z_dict : PySem.W.nsIn K mainGlobals "dict" = some none)
    (z_enumerate : PySem.W.nsIn K mainGlobals "enumerate" = some none)
    (z_zip : PySem.W.nsIn K mainGlobals "zip" = some none)
    (z_repr : PySem.W.nsIn K mainGlobals "repr" = some none)
    (z_super : PySem.W.nsIn K mainGlobals "super" = some none)
    (nos : PySem.W.nsIn K cStatics "thirdparty.any" = some none)
    (xn : PySem.W.specialIn K (.builtin "object.__class__") "__get__" = some (some (.builtin "getset_descriptor.__get__")))
    (xt : PySem.W.takesIn K (.builtin "object.__class__") = some true)
    (aC_BadNumber : PySem.W.nsIn K mainGlobals "BadNumber" = some (some (.ref C_BadNumber)))
    (aC_BadItem : PySem.W.nsIn K mainGlobals "BadItem" = some (some (.ref C_BadItem)))
    (aC_TooMany : PySem.W.nsIn K mainGlobals "TooMany" = some (some (.ref C_TooMany)))
    (aC_Refused : PySem.W.nsIn K mainGlobals "Refused" = some (some (.ref C_Refused)))
    (xL_BadNumber : K.lookup C_BadNumber = some (excClassObj nm_BadNumber q_BadNumber C_BadNumber N_BadNumber bs_BadNumber bm_BadNumber true sn_BadNumber sub_BadNumber ab_BadNumber col_BadNumber dd_BadNumber m0_BadNumber m1_BadNumber m2_BadNumber m3_BadNumber m5_BadNumber "ValueError.__new__"))
    (rv_BadNumber : PySem.HandSPX.refsVE bm_BadNumber = true)
    (sa_BadNumber : PySem.W.findIn K (.ref C_BadNumber) "__setattr__" = some (some (.builtin "object.__setattr__")))
    (eC_BadNumber : PySem.W.subIn K (.ref C_BadNumber) (.type "BaseException") = some true)
    (tC_BadNumber : PySem.W.typeIn K (.ref C_BadNumber) = some (.type "type"))
    (kC_BadNumber : PySem.W.keepIn K (.ref C_BadNumber) = true)
    (i_BadNumber : PySem.W.findIn K (.ref C_BadNumber) "__init__" = some (some (.ref fI_BadNumber)))
    (t_BadNumber : PySem.W.typeIn K (.ref fI_BadNumber) = some (.type "function"))
    (l_BadNumber : K.lookup fI_BadNumber = some ⟨ocI_BadNumber, odI_BadNumber, .func (PySem.W.ksFn "__init__" "BadNumber.__init__" (defArgs s_BadNumber) (defBody s_BadNumber) (defScope s_BadNumber) .none .none dcI_BadNumber pmI_BadNumber anI_BadNumber (.ref cda_BadNumber) ctI_BadNumber cc_BadNumber), slI_BadNumber⟩)
    (c_BadNumber : PySem.W.codeIn K (.ref cda_BadNumber) "BadNumber.__init__" = true)
    (ce_BadNumber : K.lookup cc_BadNumber = some ⟨cl_BadNumber, cld_BadNumber, .cell (some (.ref C_BadNumber)), csl_BadNumber⟩)
    (co_BadNumber : K.lookup cda_BadNumber = some ⟨ccl_BadNumber, cdd_BadNumber, .fields vs_BadNumber, ccs_BadNumber⟩)
    (v_BadNumber : vs_BadNumber[2]? = some (.str fl_BadNumber tf_BadNumber))
    (fi_BadNumber : ((P.main.file : Str) == fl_BadNumber) = true)
    (su_BadNumber : PySem.W.ks_superIn K C_BadNumber C_BadNumber "__init__" = some (some (.builtin "ValueError.__init__")))
    (mr_BadNumber : PySem.W.mroIn K C_BadNumber (.ref C_BadNumber) = some true)
    (sv_BadNumber : PySem.W.subIn K (.ref C_BadNumber) (.type "ValueError") = some true)
    (n_BadNumber_value : PySem.W.findIn K (.ref C_BadNumber) "value" = some none)
    (ga_BadNumber : PySem.W.findIn K (.ref C_BadNumber) "__getattribute__" = some (some (.builtin "BaseException.__getattribute__")))
    (gg_BadNumber : PySem.W.findIn K (.ref C_BadNumber) "__getattr__" = some none)
    (hdi_BadNumber : PySem.W.hasDictIn K C_BadNumber = true)
    (xL_BadItem : K.lookup C_BadItem = some (excClassObj nm_BadItem q_BadItem C_BadItem N_BadItem bs_BadItem bm_BadItem true sn_BadItem sub_BadItem ab_BadItem col_BadItem dd_BadItem m0_BadItem m1_BadItem m2_BadItem m3_BadItem m5_BadItem "ValueError.__new__"))
    (rv_BadItem : PySem.HandSPX.refsVE bm_BadItem = true)
    (sa_BadItem : PySem.W.findIn K (.ref C_BadItem) "__setattr__" = some (some (.builtin "object.__setattr__")))
    (eC_BadItem : PySem.W.subIn K (.ref C_BadItem) (.type "BaseException") = some true)
    (tC_BadItem : PySem.W.typeIn K (.ref C_BadItem) = some (.type "type"))
    (kC_BadItem : PySem.W.keepIn K (.ref C_BadItem) = true)
    (i_BadItem : PySem.W.findIn K (.ref C_BadItem) "__init__" = some (some (.ref fI_BadItem)))
    (t_BadItem : PySem.W.typeIn K (.ref fI_BadItem) = some (.type "function"))
    (l_BadItem : K.lookup fI_BadItem = some ⟨ocI_BadItem, odI_BadItem, .func (PySem.W.ksFn "__init__" "BadItem.__init__" (defArgs s_BadItem) (defBody s_BadItem) (defScope s_BadItem) .none .none dcI_BadItem pmI_BadItem anI_BadItem (.ref cda_BadItem) ctI_BadItem cc_BadItem), slI_BadItem⟩)
    (c_BadItem : PySem.W.codeIn K (.ref cda_BadItem) "BadItem.__init__" = true)
    (ce_BadItem : K.lookup cc_BadItem = some ⟨cl_BadItem, cld_BadItem, .cell (some (.ref C_BadItem)), csl_BadItem⟩)
    (co_BadItem : K.lookup cda_BadItem = some ⟨ccl_BadItem, cdd_BadItem, .fields vs_BadItem, ccs_BadItem⟩)
    (v_BadItem : vs_BadItem[2]? = some (.str fl_BadItem tf_BadItem))
    (fi_BadItem : ((P.main.file : Str) == fl_BadItem) = true)
    (su_BadItem : PySem.W.ks_superIn K C_BadItem C_BadItem "__init__" = some (some (.builtin "ValueError.__init__")))
    (mr_BadItem : PySem.W.mroIn K C_BadItem (.ref C_BadItem) = some true)
    (sv_BadItem : PySem.W.subIn K (.ref C_BadItem) (.type "ValueError") = some true)
    (n_BadItem_index : PySem.W.findIn K (.ref C_BadItem) "index" = some none)
    (ga_BadItem : PySem.W.findIn K (.ref C_BadItem) "__getattribute__" = some (some (.builtin "BaseException.__getattribute__")))
    (gg_BadItem : PySem.W.findIn K (.ref C_BadItem) "__getattr__" = some none)
    (hdi_BadItem : PySem.W.hasDictIn K C_BadItem = true)
    (xL_TooMany : K.lookup C_TooMany = some (excClassObj nm_TooMany q_TooMany C_TooMany N_TooMany bs_TooMany bm_TooMany true sn_TooMany sub_TooMany ab_TooMany col_TooMany dd_TooMany m0_TooMany m1_TooMany m2_TooMany m3_TooMany m5_TooMany "ValueError.__new__"))
    (rv_TooMany : PySem.HandSPX.refsVE bm_TooMany = true)
    (sa_TooMany : PySem.W.findIn K (.ref C_TooMany) "__setattr__" = some (some (.builtin "object.__setattr__")))
    (eC_TooMany : PySem.W.subIn K (.ref C_TooMany) (.type "BaseException") = some true)
    (tC_TooMany : PySem.W.typeIn K (.ref C_TooMany) = some (.type "type"))
    (kC_TooMany : PySem.W.keepIn K (.ref C_TooMany) = true)
    (i_TooMany : PySem.W.findIn K (.ref C_TooMany) "__init__" = some (some (.ref fI_TooMany)))
    (t_TooMany : PySem.W.typeIn K (.ref fI_TooMany) = some (.type "function"))
    (l_TooMany : K.lookup fI_TooMany = some ⟨ocI_TooMany, odI_TooMany, .func (PySem.W.ksFn "__init__" "TooMany.__init__" (defArgs s_TooMany) (defBody s_TooMany) (defScope s_TooMany) .none .none dcI_TooMany pmI_TooMany anI_TooMany (.ref cda_TooMany) ctI_TooMany cc_TooMany), slI_TooMany⟩)
    (c_TooMany : PySem.W.codeIn K (.ref cda_TooMany) "TooMany.__init__" = true)
    (ce_TooMany : K.lookup cc_TooMany = some ⟨cl_TooMany, cld_TooMany, .cell (some (.ref C_TooMany)), csl_TooMany⟩)
    (co_TooMany : K.lookup cda_TooMany = some ⟨ccl_TooMany, cdd_TooMany, .fields vs_TooMany, ccs_TooMany⟩)
    (v_TooMany : vs_TooMany[2]? = some (.str fl_TooMany tf_TooMany))
    (fi_TooMany : ((P.main.file : Str) == fl_TooMany) = true)
    (su_TooMany : PySem.W.ks_superIn K C_TooMany C_TooMany "__init__" = some (some (.builtin "ValueError.__init__")))
    (mr_TooMany : PySem.W.mroIn K C_TooMany (.ref C_TooMany) = some true)
    (sv_TooMany : PySem.W.subIn K (.ref C_TooMany) (.type "ValueError") = some true)
    (n_TooMany_limit : PySem.W.findIn K (.ref C_TooMany) "limit" = some none)
    (ga_TooMany : PySem.W.findIn K (.ref C_TooMany) "__getattribute__" = some (some (.builtin "BaseException.__getattribute__")))
    (gg_TooMany : PySem.W.findIn K (.ref C_TooMany) "__getattr__" = some none)
    (hdi_TooMany : PySem.W.hasDictIn K C_TooMany = true)
    (xL_Refused : K.lookup C_Refused = some (excClassObj nm_Refused q_Refused C_Refused N_Refused bs_Refused bm_Refused true sn_Refused sub_Refused ab_Refused col_Refused dd_Refused m0_Refused m1_Refused m2_Refused m3_Refused m5_Refused "ValueError.__new__"))
    (rv_Refused : PySem.HandSPX.refsVE bm_Refused = true)
    (sa_Refused : PySem.W.findIn K (.ref C_Refused) "__setattr__" = some (some (.builtin "object.__setattr__")))
    (eC_Refused : PySem.W.subIn K (.ref C_Refused) (.type "BaseException") = some true)
    (tC_Refused : PySem.W.typeIn K (.ref C_Refused) = some (.type "type"))
    (kC_Refused : PySem.W.keepIn K (.ref C_Refused) = true)
    (i_Refused : PySem.W.findIn K (.ref C_Refused) "__init__" = some (some (.ref fI_Refused)))
    (t_Refused : PySem.W.typeIn K (.ref fI_Refused) = some (.type "function"))
    (l_Refused : K.lookup fI_Refused = some ⟨ocI_Refused, odI_Refused, .func (PySem.W.ksFn "__init__" "Refused.__init__" (defArgs s_Refused) (defBody s_Refused) (defScope s_Refused) .none .none dcI_Refused pmI_Refused anI_Refused (.ref cda_Refused) ctI_Refused cc_Refused), slI_Refused⟩)
    (c_Refused : PySem.W.codeIn K (.ref cda_Refused) "Refused.__init__" = true)
    (ce_Refused : K.lookup cc_Refused = some ⟨cl_Refused, cld_Refused, .cell (some (.ref C_Refused)), csl_Refused⟩)
    (co_Refused : K.lookup cda_Refused = some ⟨ccl_Refused, cdd_Refused, .fields vs_Refused, ccs_Refused⟩)
    (v_Refused : vs_Refused[2]? = some (.str fl_Refused tf_Refused))
    (fi_Refused : ((P.main.file : Str) == fl_Refused) = true)
    (su_Refused : PySem.W.ks_superIn K C_Refused C_Refused "__init__" = some (some (.builtin "ValueError.__init__")))
    (mr_Refused : PySem.W.mroIn K C_Refused (.ref C_Refused) = some true)
    (sv_Refused : PySem.W.subIn K (.ref C_Refused) (.type "ValueError") = some true)
    (n_Refused_reason : PySem.W.findIn K (.ref C_Refused) "reason" = some none)
    (n_Refused_names : PySem.W.findIn K (.ref C_Refused) "names" = some none)
    (ga_Refused : PySem.W.findIn K (.ref C_Refused) "__getattribute__" = some (some (.builtin "BaseException.__getattribute__")))
    (gg_Refused : PySem.W.findIn K (.ref C_Refused) "__getattr__" = some none)
    (hdi_Refused : PySem.W.hasDictIn K C_Refused = true)
    (eb_BadItem : PySem.W.subIn K (.ref C_BadItem) (.type "BaseException") = some true)
    (ec_BadItem : PySem.W.isClsIn K C_BadItem = true)
    (et_BadItem : PySem.W.typeIn K (.ref C_BadItem) = some (.type "type"))
    (e_BadItem_BadNumber : PySem.W.subIn K (.ref C_BadNumber) (.ref C_BadItem) = some false)
    (e_BadItem_BadItem : PySem.W.subIn K (.ref C_BadItem) (.ref C_BadItem) = some true)
    (e_BadItem_TooMany : PySem.W.subIn K (.ref C_TooMany) (.ref C_BadItem) = some false)
    (e_BadItem_Refused : PySem.W.subIn K (.ref C_Refused) (.ref C_BadItem) = some false)
    (eb_BadNumber : PySem.W.subIn K (.ref C_BadNumber) (.type "BaseException") = some true)
    (ec_BadNumber : PySem.W.isClsIn K C_BadNumber = true)
    (et_BadNumber : PySem.W.typeIn K (.ref C_BadNumber) = some (.type "type"))
    (e_BadNumber_BadNumber : PySem.W.subIn K (.ref C_BadNumber) (.ref C_BadNumber) = some true)
    (e_BadNumber_BadItem : PySem.W.subIn K (.ref C_BadItem) (.ref C_BadNumber) = some false)
    (e_BadNumber_TooMany : PySem.W.subIn K (.ref C_TooMany) (.ref C_BadNumber) = some false)
    (e_BadNumber_Refused : PySem.W.subIn K (.ref C_Refused) (.ref C_BadNumber) = some false)
    (eb_Refused : PySem.W.subIn K (.ref C_Refused) (.type "BaseException") = some true)
    (ec_Refused : PySem.W.isClsIn K C_Refused = true)
    (et_Refused : PySem.W.typeIn K (.ref C_Refused) = some (.type "type"))
    (e_Refused_BadNumber : PySem.W.subIn K (.ref C_BadNumber) (.ref C_Refused) = some false)
    (e_Refused_BadItem : PySem.W.subIn K (.ref C_BadItem) (.ref C_Refused) = some false)
    (e_Refused_TooMany : PySem.W.subIn K (.ref C_TooMany) (.ref C_Refused) = some false)
    (e_Refused_Refused : PySem.W.subIn K (.ref C_Refused) (.ref C_Refused) = some true)
    (eb_TooMany : PySem.W.subIn K (.ref C_TooMany) (.type "BaseException") = some true)
    (ec_TooMany : PySem.W.isClsIn K C_TooMany = true)
    (et_TooMany : PySem.W.typeIn K (.ref C_TooMany) = some (.type "type"))
    (e_TooMany_BadNumber : PySem.W.subIn K (.ref C_BadNumber) (.ref C_TooMany) = some false)
    (e_TooMany_BadItem : PySem.W.subIn K (.ref C_BadItem) (.ref C_TooMany) = some false)
    (e_TooMany_TooMany : PySem.W.subIn K (.ref C_TooMany) (.ref C_TooMany) = some true)
    (e_TooMany_Refused : PySem.W.subIn K (.ref C_Refused) (.ref C_TooMany) = some false)
    : ∃ fd : FuncData, (∀ (s : Shared) (v : Value), BindsTo s fd ⟨[v], []⟩ [("script", v)]) ∧ ∀ base : Heap, K.In base → base.Ns mainGlobals mg → FnG P w K mg base (L2.CX P w) 14 fa fd ["script"] (spTop K) := by
  have e := hfa.symm.trans (PySem.W.mg_of X G a_law)
  cases e
  have B : NoB mg := ⟨PySem.W.mg_none_of X G z_len, PySem.W.mg_none_of X G z_abs, PySem.W.mg_none_of X G z_int, PySem.W.mg_none_of X G z_tuple, PySem.W.mg_none_of X G z_list, PySem.W.mg_none_of X G z_sum, PySem.W.mg_none_of X G z_max, PySem.W.mg_none_of X G z_min, PySem.W.mg_none_of X G z_any, PySem.W.mg_none_of X G z_all, PySem.W.mg_none_of X G z_range, PySem.W.mg_none_of X G z_isinstance, PySem.W.mg_none_of X G z_str, PySem.W.mg_none_of X G z_bool, PySem.W.mg_none_of X G z_sorted, PySem.W.mg_none_of X G z_set, PySem.W.mg_none_of X G z_dict, PySem.W.mg_none_of X G z_enumerate, PySem.W.mg_none_of X G z_zip, PySem.W.mg_none_of X G z_repr⟩
  have hsup := PySem.W.mg_none_of X G z_super
  have hT : (mkT K [C_BadNumber, C_BadItem, C_TooMany, C_Refused] [C_Ride] [f_is_stage, f_is_pace] ["value", "index", "limit", "reason", "names", "stages", "paces"]).K = K := rfl
  have hinj : ∀ a b, (mkT K [C_BadNumber, C_BadItem, C_TooMany, C_Refused] [C_Ride] [f_is_stage, f_is_pace] ["value", "index", "limit", "reason", "names", "stages", "paces"]).fnm a = (mkT K [C_BadNumber, C_BadItem, C_TooMany, C_Refused] [C_Ride] [f_is_stage, f_is_pace] ["value", "index", "limit", "reason", "names", "stages", "paces"]).fnm b → a = b := mkF_inj (by decide +kernel) (by decide +kernel)
  have F_frozen := fun_mk (st := s_frozen) l_frozen c_frozen k_frozen
  have F_is_row := fun_mk (st := s_is_row) l_is_row c_is_row k_is_row
  have F_is_whole := fun_mk (st := s_is_whole) l_is_whole c_is_whole k_is_whole
  have F_is_number := fun_mk (st := s_is_number) l_is_number c_is_number k_is_number
  have F_is_stage := fun_mk (st := s_is_stage) l_is_stage c_is_stage k_is_stage
  have F_is_pace := fun_mk (st := s_is_pace) l_is_pace c_is_pace k_is_pace
  have F_want_row := fun_mk (st := s_want_row) l_want_row c_want_row k_want_row
  have F_Ride_init := fun_mk (st := s_Ride_init) l_Ride_init c_Ride_init k_Ride_init
  have F__law_subsets := fun_mk (st := s__law_subsets) l__law_subsets c__law_subsets k__law_subsets
  have F__law_sized := fun_mk (st := s__law_sized) l__law_sized c__law_sized k__law_sized
  have F__law_minutes := fun_mk (st := s__law_minutes) l__law_minutes c__law_minutes k__law_minutes
  have F__law_rows := fun_mk (st := s__law_rows) l__law_rows c__law_rows k__law_rows
  have F__law_best := fun_mk (st := s__law_best) l__law_best c__law_best k__law_best
  have F_Ride_eq := fun_mk (st := s_Ride_eq) l_Ride_eq c_Ride_eq k_Ride_eq
  have F__law_taken := fun_mk (st := s__law_taken) l__law_taken c__law_taken k__law_taken
  have F__law_pick := fun_mk (st := s__law_pick) l__law_pick c__law_pick k__law_pick
  have F_Ride_minutes := fun_mk (st := s_Ride_minutes) l_Ride_minutes c_Ride_minutes k_Ride_minutes
  have F_want_number := fun_mk (st := s_want_number) l_want_number c_want_number k_want_number
  have F_want_minutes := fun_mk (st := s_want_minutes) l_want_minutes c_want_minutes k_want_minutes
  have F_subsets := fun_mk (st := s_subsets) l_subsets c_subsets k_subsets
  have F_Ride_with_change := fun_mk (st := s_Ride_with_change) l_Ride_with_change c_Ride_with_change k_Ride_with_change
  have F_Ride_best := fun_mk (st := s_Ride_best) l_Ride_best c_Ride_best k_Ride_best
  have F_Ride_most_change := fun_mk (st := s_Ride_most_change) l_Ride_most_change c_Ride_most_change k_Ride_most_change
  have F__law_whole := fun_mk (st := s__law_whole) l__law_whole c__law_whole k__law_whole
  have F__law_refused_row := fun_mk (st := s__law_refused_row) l__law_refused_row c__law_refused_row k__law_refused_row
  have F__law_raised := fun_mk (st := s__law_raised) l__law_raised c__law_raised k__law_raised
  have F__law_refused := fun_mk (st := s__law_refused) l__law_refused c__law_refused k__law_refused
  have F__law_mixed := fun_mk (st := s__law_mixed) l__law_mixed c__law_mixed k__law_mixed
  have F__law_alike := fun_mk (st := s__law_alike) l__law_alike c__law_alike k__law_alike
  have F_Ride_turned := fun_mk (st := s_Ride_turned) l_Ride_turned c_Ride_turned k_Ride_turned
  have F_Ride_can_be := fun_mk (st := s_Ride_can_be) l_Ride_can_be c_Ride_can_be k_Ride_can_be
  have F_Ride_rows := fun_mk (st := s_Ride_rows) l_Ride_rows c_Ride_rows k_Ride_rows
  have F__law_truth := fun_mk (st := s__law_truth) l__law_truth c__law_truth k__law_truth
  have F_Ride_fewest := fun_mk (st := s_Ride_fewest) l_Ride_fewest c_Ride_fewest k_Ride_fewest
  have F_Ride_best_with := fun_mk (st := s_Ride_best_with) l_Ride_best_with c_Ride_best_with k_Ride_best_with
  have F_Ride_saved := fun_mk (st := s_Ride_saved) l_Ride_saved c_Ride_saved k_Ride_saved
  have F_Ride_miles := fun_mk (st := s_Ride_miles) l_Ride_miles c_Ride_miles k_Ride_miles
  have F_Ride_horses := fun_mk (st := s_Ride_horses) l_Ride_horses c_Ride_horses k_Ride_horses
  have F_law := fun_mk (st := s_law) l_law c_law k_law
  have cl_Ride : Cls K C_Ride := ⟨pg_Ride, hd_Ride, po_Ride, sa_Ride⟩
  refine ⟨PySem.W.fnOf "law" "law" (defArgs s_law) (defBody s_law) (defScope s_law) .none kV_law dc_law pm_law an_law cd_law ct_law, fun s v => .of_eq rfl, fun base _ _ => ?_⟩
  have x_BadNumber := ext1 (P := P) (w := w) (base := base) (T := mkT K [C_BadNumber, C_BadItem, C_TooMany, C_Refused] [C_Ride] [f_is_stage, f_is_pace] ["value", "index", "limit", "reason", "names", "stages", "paces"]) (c := 0) (n1 := 0) (pl := fun env => do return (← importBound (.Call (.Name "super" ⟨0, 0, 0, 0⟩) [] [] ⟨0, 0, 0, 0⟩) env).getD true) l_BadNumber (PySem.W.mg_of X G aC_BadNumber) c_BadNumber ⟨⟨_, _, _, ce_BadNumber⟩, ⟨_, _, _, _, _, _, co_BadNumber, v_BadNumber, fi_BadNumber⟩, su_BadNumber, mr_BadNumber, sv_BadNumber, nos, tp⟩ ⟨⟨_, _, _, _, _, _, _, _, _, _, _, _, _, _, _, xL_BadNumber, rv_BadNumber⟩, sa_BadNumber, eC_BadNumber, tC_BadNumber, kC_BadNumber⟩ i_BadNumber t_BadNumber n_BadNumber_value hsup rfl rfl (by decide +kernel) ⟨_, rfl, rfl⟩ rfl (by decide +kernel) (by decide +kernel) (fun us hl => match us, hl with | [_, _], _ => rfl) (fun _ => rfl)
  have x_BadItem := ext1 (P := P) (w := w) (base := base) (T := mkT K [C_BadNumber, C_BadItem, C_TooMany, C_Refused] [C_Ride] [f_is_stage, f_is_pace] ["value", "index", "limit", "reason", "names", "stages", "paces"]) (c := 1) (n1 := 1) (pl := fun env => do return (← importBound (.Call (.Name "super" ⟨0, 0, 0, 0⟩) [] [] ⟨0, 0, 0, 0⟩) env).getD true) l_BadItem (PySem.W.mg_of X G aC_BadItem) c_BadItem ⟨⟨_, _, _, ce_BadItem⟩, ⟨_, _, _, _, _, _, co_BadItem, v_BadItem, fi_BadItem⟩, su_BadItem, mr_BadItem, sv_BadItem, nos, tp⟩ ⟨⟨_, _, _, _, _, _, _, _, _, _, _, _, _, _, _, xL_BadItem, rv_BadItem⟩, sa_BadItem, eC_BadItem, tC_BadItem, kC_BadItem⟩ i_BadItem t_BadItem n_BadItem_index hsup rfl rfl (by decide +kernel) ⟨_, rfl, rfl⟩ rfl (by decide +kernel) (by decide +kernel) (fun us hl => match us, hl with | [_, _], _ => rfl) (fun _ => rfl)
  have x_TooMany := ext1 (P := P) (w := w) (base := base) (T := mkT K [C_BadNumber, C_BadItem, C_TooMany, C_Refused] [C_Ride] [f_is_stage, f_is_pace] ["value", "index", "limit", "reason", "names", "stages", "paces"]) (c := 2) (n1 := 2) (pl := fun env => do return (← importBound (.Call (.Name "super" ⟨0, 0, 0, 0⟩) [] [] ⟨0, 0, 0, 0⟩) env).getD true) l_TooMany (PySem.W.mg_of X G aC_TooMany) c_TooMany ⟨⟨_, _, _, ce_TooMany⟩, ⟨_, _, _, _, _, _, co_TooMany, v_TooMany, fi_TooMany⟩, su_TooMany, mr_TooMany, sv_TooMany, nos, tp⟩ ⟨⟨_, _, _, _, _, _, _, _, _, _, _, _, _, _, _, xL_TooMany, rv_TooMany⟩, sa_TooMany, eC_TooMany, tC_TooMany, kC_TooMany⟩ i_TooMany t_TooMany n_TooMany_limit hsup rfl rfl (by decide +kernel) ⟨_, rfl, rfl⟩ rfl (by decide +kernel) (by decide +kernel) (fun us hl => match us, hl with | [_, _], _ => rfl) (fun _ => rfl)
  have x_Refused := ext2 (P := P) (w := w) (base := base) (T := mkT K [C_BadNumber, C_BadItem, C_TooMany, C_Refused] [C_Ride] [f_is_stage, f_is_pace] ["value", "index", "limit", "reason", "names", "stages", "paces"]) (c := 3) (n1 := 3) (n2 := 4) (pl := fun env => do return (← importBound (.Call (.Name "super" ⟨0, 0, 0, 0⟩) [] [] ⟨0, 0, 0, 0⟩) env).getD true) l_Refused (PySem.W.mg_of X G aC_Refused) c_Refused ⟨⟨_, _, _, ce_Refused⟩, ⟨_, _, _, _, _, _, co_Refused, v_Refused, fi_Refused⟩, su_Refused, mr_Refused, sv_Refused, nos, tp⟩ ⟨⟨_, _, _, _, _, _, _, _, _, _, _, _, _, _, _, xL_Refused, rv_Refused⟩, sa_Refused, eC_Refused, tC_Refused, kC_Refused⟩ i_Refused t_Refused n_Refused_reason n_Refused_names hsup rfl rfl rfl (by decide +kernel) ⟨_, rfl, rfl⟩ rfl (by decide +kernel) (by decide +kernel) (by decide +kernel) (by decide +kernel) (fun us hl => match us, hl with | [_, _, _], _ => rfl) (fun _ => rfl)
  have h_BadItem : HdT K mg (mkT K [C_BadNumber, C_BadItem, C_TooMany, C_Refused] [C_Ride] [f_is_stage, f_is_pace] ["value", "index", "limit", "reason", "names", "stages", "paces"]) "BadItem" hd_BadItem := by
    refine ⟨_, PySem.W.mg_of X G aC_BadItem, fun c b hb => ?_⟩
    unfold hd_BadItem at hb
    by_cases eBadNumber : c = 0
    · subst eBadNumber; cases hb; exact exm_of eb_BadItem ec_BadItem et_BadItem e_BadItem_BadNumber
    by_cases eBadItem : c = 1
    · subst eBadItem; cases hb; exact exm_of eb_BadItem ec_BadItem et_BadItem e_BadItem_BadItem
    by_cases eTooMany : c = 2
    · subst eTooMany; cases hb; exact exm_of eb_BadItem ec_BadItem et_BadItem e_BadItem_TooMany
    by_cases eRefused : c = 3
    · subst eRefused; cases hb; exact exm_of eb_BadItem ec_BadItem et_BadItem e_BadItem_Refused
    simp only [if_neg eBadNumber, if_neg eBadItem, if_neg eTooMany, if_neg eRefused] at hb; cases hb
  have h_BadNumber : HdT K mg (mkT K [C_BadNumber, C_BadItem, C_TooMany, C_Refused] [C_Ride] [f_is_stage, f_is_pace] ["value", "index", "limit", "reason", "names", "stages", "paces"]) "BadNumber" hd_BadNumber := by
    refine ⟨_, PySem.W.mg_of X G aC_BadNumber, fun c b hb => ?_⟩
    unfold hd_BadNumber at hb
    by_cases eBadNumber : c = 0
    · subst eBadNumber; cases hb; exact exm_of eb_BadNumber ec_BadNumber et_BadNumber e_BadNumber_BadNumber
    by_cases eBadItem : c = 1
    · subst eBadItem; cases hb; exact exm_of eb_BadNumber ec_BadNumber et_BadNumber e_BadNumber_BadItem
    by_cases eTooMany : c = 2
    · subst eTooMany; cases hb; exact exm_of eb_BadNumber ec_BadNumber et_BadNumber e_BadNumber_TooMany
    by_cases eRefused : c = 3
    · subst eRefused; cases hb; exact exm_of eb_BadNumber ec_BadNumber et_BadNumber e_BadNumber_Refused
    simp only [if_neg eBadNumber, if_neg eBadItem, if_neg eTooMany, if_neg eRefused] at hb; cases hb
  have h_Refused : HdT K mg (mkT K [C_BadNumber, C_BadItem, C_TooMany, C_Refused] [C_Ride] [f_is_stage, f_is_pace] ["value", "index", "limit", "reason", "names", "stages", "paces"]) "Refused" hd_Refused := by
    refine ⟨_, PySem.W.mg_of X G aC_Refused, fun c b hb => ?_⟩
    unfold hd_Refused at hb
    by_cases eBadNumber : c = 0
    · subst eBadNumber; cases hb; exact exm_of eb_Refused ec_Refused et_Refused e_Refused_BadNumber
    by_cases eBadItem : c = 1
    · subst eBadItem; cases hb; exact exm_of eb_Refused ec_Refused et_Refused e_Refused_BadItem
    by_cases eTooMany : c = 2
    · subst eTooMany; cases hb; exact exm_of eb_Refused ec_Refused et_Refused e_Refused_TooMany
    by_cases eRefused : c = 3
    · subst eRefused; cases hb; exact exm_of eb_Refused ec_Refused et_Refused e_Refused_Refused
    simp only [if_neg eBadNumber, if_neg eBadItem, if_neg eTooMany, if_neg eRefused] at hb; cases hb
  have h_TooMany : HdT K mg (mkT K [C_BadNumber, C_BadItem, C_TooMany, C_Refused] [C_Ride] [f_is_stage, f_is_pace] ["value", "index", "limit", "reason", "names", "stages", "paces"]) "TooMany" hd_TooMany := by
    refine ⟨_, PySem.W.mg_of X G aC_TooMany, fun c b hb => ?_⟩
    unfold hd_TooMany at hb
    by_cases eBadNumber : c = 0
    · subst eBadNumber; cases hb; exact exm_of eb_TooMany ec_TooMany et_TooMany e_TooMany_BadNumber
    by_cases eBadItem : c = 1
    · subst eBadItem; cases hb; exact exm_of eb_TooMany ec_TooMany et_TooMany e_TooMany_BadItem
    by_cases eTooMany : c = 2
    · subst eTooMany; cases hb; exact exm_of eb_TooMany ec_TooMany et_TooMany e_TooMany_TooMany
    by_cases eRefused : c = 3
    · subst eRefused; cases hb; exact exm_of eb_TooMany ec_TooMany et_TooMany e_TooMany_Refused
    simp only [if_neg eBadNumber, if_neg eBadItem, if_neg eTooMany, if_neg eRefused] at hb; cases hb
  have xf_index : XfT K (mkT K [C_BadNumber, C_BadItem, C_TooMany, C_Refused] [C_Ride] [f_is_stage, f_is_pace] ["value", "index", "limit", "reason", "names", "stages", "paces"]) 1 "index" okX_index := by
    refine ⟨rfl, fun c hc => ?_⟩
    have hc := of_decide_eq_true hc
    obtain rfl := hc
    · exact ⟨⟨ga_BadItem, gg_BadItem, eC_BadItem, hdi_BadItem⟩, n_BadItem_index⟩
  have xf_limit : XfT K (mkT K [C_BadNumber, C_BadItem, C_TooMany, C_Refused] [C_Ride] [f_is_stage, f_is_pace] ["value", "index", "limit", "reason", "names", "stages", "paces"]) 2 "limit" okX_limit := by
    refine ⟨rfl, fun c hc => ?_⟩
    have hc := of_decide_eq_true hc
    obtain rfl := hc
    · exact ⟨⟨ga_TooMany, gg_TooMany, eC_TooMany, hdi_TooMany⟩, n_TooMany_limit⟩
  have xf_names : XfT K (mkT K [C_BadNumber, C_BadItem, C_TooMany, C_Refused] [C_Ride] [f_is_stage, f_is_pace] ["value", "index", "limit", "reason", "names", "stages", "paces"]) 4 "names" okX_names := by
    refine ⟨rfl, fun c hc => ?_⟩
    have hc := of_decide_eq_true hc
    obtain rfl := hc
    · exact ⟨⟨ga_Refused, gg_Refused, eC_Refused, hdi_Refused⟩, n_Refused_names⟩
  have xf_reason : XfT K (mkT K [C_BadNumber, C_BadItem, C_TooMany, C_Refused] [C_Ride] [f_is_stage, f_is_pace] ["value", "index", "limit", "reason", "names", "stages", "paces"]) 3 "reason" okX_reason := by
    refine ⟨rfl, fun c hc => ?_⟩
    have hc := of_decide_eq_true hc
    obtain rfl := hc
    · exact ⟨⟨ga_Refused, gg_Refused, eC_Refused, hdi_Refused⟩, n_Refused_reason⟩
  have xf_value : XfT K (mkT K [C_BadNumber, C_BadItem, C_TooMany, C_Refused] [C_Ride] [f_is_stage, f_is_pace] ["value", "index", "limit", "reason", "names", "stages", "paces"]) 0 "value" okX_value := by
    refine ⟨rfl, fun c hc => ?_⟩
    have hc := of_decide_eq_true hc
    obtain rfl := hc
    · exact ⟨⟨ga_BadNumber, gg_BadNumber, eC_BadNumber, hdi_BadNumber⟩, n_BadNumber_value⟩
  have fd_stages : FldT K (mkT K [C_BadNumber, C_BadItem, C_TooMany, C_Refused] [C_Ride] [f_is_stage, f_is_pace] ["value", "index", "limit", "reason", "names", "stages", "paces"]) 5 "stages" okF_stages := by
    refine ⟨rfl, fun c hc => ?_, hinj⟩
    have hc := of_decide_eq_true hc
    obtain rfl := hc
    · exact ⟨cl_Ride, na_Ride_stages⟩
  have fd_paces : FldT K (mkT K [C_BadNumber, C_BadItem, C_TooMany, C_Refused] [C_Ride] [f_is_stage, f_is_pace] ["value", "index", "limit", "reason", "names", "stages", "paces"]) 6 "paces" okF_paces := by
    refine ⟨rfl, fun c hc => ?_, hinj⟩
    have hc := of_decide_eq_true hc
    obtain rfl := hc
    · exact ⟨cl_Ride, na_Ride_paces⟩
  have con_MOST_STAGES : ConT mg (mkT K [C_BadNumber, C_BadItem, C_TooMany, C_Refused] [C_Ride] [f_is_stage, f_is_pace] ["value", "index", "limit", "reason", "names", "stages", "paces"]) "MOST_STAGES" (.int 8) := con_int (PySem.W.mg_of X G cn_MOST_STAGES)
  have con_MOST_TIRED : ConT mg (mkT K [C_BadNumber, C_BadItem, C_TooMany, C_Refused] [C_Ride] [f_is_stage, f_is_pace] ["value", "index", "limit", "reason", "names", "stages", "paces"]) "MOST_TIRED" (.int 4) := con_int (PySem.W.mg_of X G cn_MOST_TIRED)
  have con_is_stage : ConT mg (mkT K [C_BadNumber, C_BadItem, C_TooMany, C_Refused] [C_Ride] [f_is_stage, f_is_pace] ["value", "index", "limit", "reason", "names", "stages", "paces"]) "is_stage" (.fn 0) := con_fn (T := (mkT K [C_BadNumber, C_BadItem, C_TooMany, C_Refused] [C_Ride] [f_is_stage, f_is_pace] ["value", "index", "limit", "reason", "names", "stages", "paces"])) (n := 0) (PySem.W.mg_of X G a_is_stage)
  have con_is_pace : ConT mg (mkT K [C_BadNumber, C_BadItem, C_TooMany, C_Refused] [C_Ride] [f_is_stage, f_is_pace] ["value", "index", "limit", "reason", "names", "stages", "paces"]) "is_pace" (.fn 1) := con_fn (T := (mkT K [C_BadNumber, C_BadItem, C_TooMany, C_Refused] [C_Ride] [f_is_stage, f_is_pace] ["value", "index", "limit", "reason", "names", "stages", "paces"])) (n := 1) (PySem.W.mg_of X G a_is_pace)
  have i_Ride : IsC K mg (mkT K [C_BadNumber, C_BadItem, C_TooMany, C_Refused] [C_Ride] [f_is_stage, f_is_pace] ["value", "index", "limit", "reason", "names", "stages", "paces"]) "Ride" 0 := ⟨⟨cl_Ride, xa_Ride, xn, xt, ob_Ride, kit_selfC _⟩, PySem.W.mg_of X G aC_Ride, kit_tupC xc_Ride tC_Ride et_Ride⟩
  have c_frozen := cal_frozen (P := P) (w := w) (base := base) hT B F_frozen (PySem.W.mg_of X G a_frozen) 
  have c_is_row := cal_is_row (P := P) (w := w) (base := base) hT B F_is_row (PySem.W.mg_of X G a_is_row) 
  have c_is_whole := cal_is_whole (P := P) (w := w) (base := base) hT B F_is_whole (PySem.W.mg_of X G a_is_whole) 
  have c_is_number := cal_is_number (P := P) (w := w) (base := base) hT B F_is_number (PySem.W.mg_of X G a_is_number) c_is_whole
  have c_is_stage := cal_is_stage (P := P) (w := w) (base := base) hT B F_is_stage (PySem.W.mg_of X G a_is_stage) c_is_row c_is_number
  have c_is_pace := cal_is_pace (P := P) (w := w) (base := base) hT B F_is_pace (PySem.W.mg_of X G a_is_pace) c_is_number
  have tb : FnT P w K mg base (mkT K [C_BadNumber, C_BadItem, C_TooMany, C_Refused] [C_Ride] [f_is_stage, f_is_pace] ["value", "index", "limit", "reason", "names", "stages", "paces"]) 3 1 fnTbl := by
    refine fnT_of fun i F e => ?_
    unfold fnTbl at e
    by_cases e0 : i = 0
    · subst e0; cases e; exact ⟨_, CalV.mono c_is_stage (by decide), PySem.W.mg_of X G a_is_stage⟩
    by_cases e1 : i = 1
    · subst e1; cases e; exact ⟨_, CalV.mono c_is_pace (by decide), PySem.W.mg_of X G a_is_pace⟩
    simp only [if_neg e0, if_neg e1] at e; cases e
  have c_want_row := cal_want_row (P := P) (w := w) (base := base) hT B F_want_row (PySem.W.mg_of X G a_want_row) c_is_row (c_frozen 6) tb x_BadItem x_TooMany
  have k_Ride := cal_Ride_init (P := P) (w := w) (base := base) hT B F_Ride_init ⟨mk_Ride, mi_Ride, fn_Ride_init, kC_Ride⟩ (PySem.W.mg_of X G aC_Ride) c_want_row fd_stages fd_paces con_is_stage con_MOST_STAGES con_is_pace con_MOST_TIRED x_BadItem
  have c__law_subsets := cal__law_subsets (P := P) (w := w) (base := base) hT B F__law_subsets (PySem.W.mg_of X G a__law_subsets) 
  have c__law_sized := cal__law_sized (P := P) (w := w) (base := base) hT B F__law_sized (PySem.W.mg_of X G a__law_sized) c__law_subsets
  have c__law_minutes := cal__law_minutes (P := P) (w := w) (base := base) hT B F__law_minutes (PySem.W.mg_of X G a__law_minutes) 
  have c__law_rows := cal__law_rows (P := P) (w := w) (base := base) hT B F__law_rows (PySem.W.mg_of X G a__law_rows) c__law_sized c__law_minutes
  have c__law_best := cal__law_best (P := P) (w := w) (base := base) hT B F__law_best (PySem.W.mg_of X G a__law_best) c__law_rows
  have q_Ride := cal_Ride_eq (P := P) (w := w) (base := base) hT B F_Ride_eq ⟨eq_Ride, fn_Ride_eq, ne_Ride, ob_Ride, et_Ride⟩ i_Ride fd_stages fd_paces
  have c__law_taken := cal__law_taken (P := P) (w := w) (base := base) hT B F__law_taken (PySem.W.mg_of X G a__law_taken) 
  have c__law_pick := cal__law_pick (P := P) (w := w) (base := base) hT B F__law_pick (PySem.W.mg_of X G a__law_pick) c__law_taken
  have c_Ride_minutes := cal_Ride_minutes (P := P) (w := w) (base := base) hT B F_Ride_minutes cl_Ride ⟨m_Ride_minutes, fn_Ride_minutes, k_Ride_minutes⟩ (mkF_ne (by decide +kernel) (by decide +kernel)) c_is_number fd_stages fd_paces x_BadItem x_Refused
  have c_want_number := cal_want_number (P := P) (w := w) (base := base) hT B F_want_number (PySem.W.mg_of X G a_want_number) c_is_number x_BadNumber
  have c_want_minutes := cal_want_minutes (P := P) (w := w) (base := base) hT B F_want_minutes (PySem.W.mg_of X G a_want_minutes) c_want_number
  have c_subsets := cal_subsets (P := P) (w := w) (base := base) hT B F_subsets (PySem.W.mg_of X G a_subsets) 
  have c_Ride_with_change := cal_Ride_with_change (P := P) (w := w) (base := base) hT B F_Ride_with_change cl_Ride ⟨m_Ride_with_change, fn_Ride_with_change, k_Ride_with_change⟩ (mkF_ne (by decide +kernel) (by decide +kernel)) c_is_number k_Ride fd_stages fd_paces x_BadItem
  have c_Ride_best := cal_Ride_best (P := P) (w := w) (base := base) hT B F_Ride_best cl_Ride ⟨m_Ride_best, fn_Ride_best, k_Ride_best⟩ (mkF_ne (by decide +kernel) (by decide +kernel)) fd_paces fd_stages
  have c_Ride_most_change := cal_Ride_most_change (P := P) (w := w) (base := base) hT B F_Ride_most_change cl_Ride ⟨m_Ride_most_change, fn_Ride_most_change, k_Ride_most_change⟩ (mkF_ne (by decide +kernel) (by decide +kernel)) c_Ride_best c_Ride_with_change
  have c__law_whole := cal__law_whole (P := P) (w := w) (base := base) hT B F__law_whole (PySem.W.mg_of X G a__law_whole) 
  have c__law_refused_row := cal__law_refused_row (P := P) (w := w) (base := base) hT B F__law_refused_row (PySem.W.mg_of X G a__law_refused_row) c__law_whole
  have c__law_raised := cal__law_raised (P := P) (w := w) (base := base) hT B F__law_raised (PySem.W.mg_of X G a__law_raised) k_Ride h_TooMany h_BadItem xf_limit xf_index hinj
  have c__law_refused := cal__law_refused (P := P) (w := w) (base := base) hT B F__law_refused (PySem.W.mg_of X G a__law_refused) c_want_minutes c__law_pick c__law_refused_row c__law_raised c_subsets c_Ride_minutes c_Ride_with_change c_Ride_most_change h_BadItem h_BadNumber xf_index xf_value hinj
  have c__law_mixed := cal__law_mixed (P := P) (w := w) (base := base) hT B F__law_mixed (PySem.W.mg_of X G a__law_mixed) c__law_taken
  have c__law_alike := cal__law_alike (P := P) (w := w) (base := base) hT B F__law_alike (PySem.W.mg_of X G a__law_alike) 
  have c_Ride_turned := cal_Ride_turned (P := P) (w := w) (base := base) hT B F_Ride_turned cl_Ride ⟨m_Ride_turned, fn_Ride_turned, k_Ride_turned⟩ (mkF_ne (by decide +kernel) (by decide +kernel)) k_Ride fd_stages fd_paces
  have c_Ride_can_be := cal_Ride_can_be (P := P) (w := w) (base := base) hT B F_Ride_can_be cl_Ride ⟨m_Ride_can_be, fn_Ride_can_be, k_Ride_can_be⟩ (mkF_ne (by decide +kernel) (by decide +kernel)) fd_stages fd_paces
  have c_Ride_rows := cal_Ride_rows (P := P) (w := w) (base := base) hT B F_Ride_rows cl_Ride ⟨m_Ride_rows, fn_Ride_rows, k_Ride_rows⟩ (mkF_ne (by decide +kernel) (by decide +kernel)) c_subsets c_Ride_can_be fd_stages
  have c__law_truth := cal__law_truth (P := P) (w := w) (base := base) hT B F__law_truth (PySem.W.mg_of X G a__law_truth) 
  have c_Ride_fewest := cal_Ride_fewest (P := P) (w := w) (base := base) hT B F_Ride_fewest cl_Ride ⟨m_Ride_fewest, fn_Ride_fewest, k_Ride_fewest⟩ (mkF_ne (by decide +kernel) (by decide +kernel)) fd_stages fd_paces
  have c_Ride_best_with := cal_Ride_best_with (P := P) (w := w) (base := base) hT B F_Ride_best_with cl_Ride ⟨m_Ride_best_with, fn_Ride_best_with, k_Ride_best_with⟩ (mkF_ne (by decide +kernel) (by decide +kernel)) c_Ride_minutes c_Ride_rows
  have c_Ride_saved := cal_Ride_saved (P := P) (w := w) (base := base) hT B F_Ride_saved cl_Ride ⟨m_Ride_saved, fn_Ride_saved, k_Ride_saved⟩ (mkF_ne (by decide +kernel) (by decide +kernel)) c_Ride_best_with c_Ride_best
  have c_Ride_miles := cal_Ride_miles (P := P) (w := w) (base := base) hT B F_Ride_miles cl_Ride ⟨m_Ride_miles, fn_Ride_miles, k_Ride_miles⟩ (mkF_ne (by decide +kernel) (by decide +kernel)) fd_stages
  have c_Ride_horses := cal_Ride_horses (P := P) (w := w) (base := base) hT B F_Ride_horses cl_Ride ⟨m_Ride_horses, fn_Ride_horses, k_Ride_horses⟩ (mkF_ne (by decide +kernel) (by decide +kernel)) c_Ride_minutes fd_stages
  exact FnG.imp (ok_law (P := P) (w := w) (base := base) hT B F_law (PySem.W.mg_of X G a_law) c__law_taken c__law_mixed (c__law_alike 6) c__law_rows c__law_minutes c__law_truth c__law_sized c__law_best c__law_refused c_Ride_miles c_Ride_rows c_Ride_can_be c_Ride_minutes c_Ride_horses c_Ride_best c_Ride_fewest c_Ride_best_with c_Ride_saved c_Ride_turned c_Ride_with_change c_Ride_most_change k_Ride q_Ride fd_stages fd_paces h_Refused xf_reason xf_names hinj) (top_of hT law_math)
theorem walk {l : PySem.W.OpenLaw} {q : Program} {loose : List Str} {XP : (Str → Option Value) → Heap → Prop} {YP : World → Heap → Prop} {d : DefRec} {K : Params → PySem.W.Frag} (hn : l.most = some 63) (hdf : d.params.defaults = []) (hY : ∀ (w : World) (h : Heap), YP w h → (K w.params).In h)
    (F : ∀ (w : World) (mg : Str → Option Value) (fa : Addr) (h : Heap), (K w.params).In h → h.Ns mainGlobals mg → mg d.name = some (.ref fa) → ∃ fd : FuncData, (∀ (s : Shared) (u : Value), BindsTo s fd ⟨[u], []⟩ [("script", u)]) ∧ ∀ base : Heap, (K w.params).In base → base.Ns mainGlobals mg → FnG l.prog w (K w.params) mg base (L2.CX l.prog w) 14 fa fd ["script"] (spTop (K w.params))) :
    PySem.W.WalkO q loose XP YP l.row.toRowW d [] (fun f vs => PySem.call f vs) :=
  walkG (n := 63) (k := 14) (x := "script") (CX := fun w => L2.CX l.prog w) (sp := fun w => spTop (K w.params)) hn (by decide) hdf ⟨rfl, by decide, by decide⟩ hY F (fun w H a ns h1 h2 => ⟨a, ns, rfl, h2, h1, fun _ => rfl⟩) fun w H s e s' h => by
    obtain ⟨_, _, _, _, _, _, _, _, _, _, _, _, z⟩ := h
    exact z
end K20
open PySem PySem.W PyProof.Rows in
set_option maxRecDepth 100000 in
set_option maxHeartbeats 0 in
theorem PySem.Challenge.cw_coachstages_k20_whole_riders_holds : PySem.Challenge.rw_coachstages_k20_whole_riders.Holds := by
  w_on; o_law; k_head; (case hw => w_witness2)
  k_fill
  refine K20.walk (l := PySem.Challenge.rw_coachstages_k20_whole_riders) rfl rfl (fun w h Y => PySem.W.kIn_of Y) ?F
  case F =>
    intro w mg fa h KX G hmg
    refine' K20.all_mk KX G hmg (by decide +kernel) ?aC_Ride ?pg_Ride ?hd_Ride ?po_Ride ?sa_Ride ?mk_Ride ?mi_Ride ?fn_Ride_init ?kC_Ride ?eq_Ride ?fn_Ride_eq ?ne_Ride ?et_Ride ?ob_Ride ?xa_Ride ?xc_Ride ?tC_Ride ?m_Ride_minutes ?fn_Ride_minutes ?m_Ride_with_change ?fn_Ride_with_change ?m_Ride_best ?fn_Ride_best ?m_Ride_most_change ?fn_Ride_most_change ?m_Ride_turned ?fn_Ride_turned ?m_Ride_can_be ?fn_Ride_can_be ?m_Ride_rows ?fn_Ride_rows ?m_Ride_fewest ?fn_Ride_fewest ?m_Ride_best_with ?fn_Ride_best_with ?m_Ride_saved ?fn_Ride_saved ?m_Ride_miles ?fn_Ride_miles ?m_Ride_horses ?fn_Ride_horses ?na_Ride_stages ?na_Ride_paces ?cn_MOST_STAGES ?cn_MOST_TIRED ?a_frozen ?l_frozen ?c_frozen ?k_frozen ?a_is_row ?l_is_row ?c_is_row ?k_is_row ?a_is_whole ?l_is_whole ?c_is_whole ?k_is_whole ?a_is_number ?l_is_number ?c_is_number ?k_is_number ?a_is_stage ?l_is_stage ?c_is_stage ?k_is_stage ?a_is_pace ?l_is_pace ?c_is_pace ?k_is_pace ?a_want_row ?l_want_row ?c_want_row ?k_want_row ?l_Ride_init ?c_Ride_init ?k_Ride_init ?a__law_subsets ?l__law_subsets ?c__law_subsets ?k__law_subsets ?a__law_sized ?l__law_sized ?c__law_sized ?k__law_sized ?a__law_minutes ?l__law_minutes ?c__law_minutes ?k__law_minutes ?a__law_rows ?l__law_rows ?c__law_rows ?k__law_rows ?a__law_best ?l__law_best ?c__law_best ?k__law_best ?l_Ride_eq ?c_Ride_eq ?k_Ride_eq ?a__law_taken ?l__law_taken ?c__law_taken ?k__law_taken ?a__law_pick ?l__law_pick ?c__law_pick ?k__law_pick ?l_Ride_minutes ?c_Ride_minutes ?k_Ride_minutes ?a_want_number ?l_want_number ?c_want_number ?k_want_number ?a_want_minutes ?l_want_minutes ?c_want_minutes ?k_want_minutes ?a_subsets ?l_subsets ?c_subsets ?k_subsets ?l_Ride_with_change ?c_Ride_with_change ?k_Ride_with_change ?l_Ride_best ?c_Ride_best ?k_Ride_best ?l_Ride_most_change ?c_Ride_most_change ?k_Ride_most_change ?a__law_whole ?l__law_whole ?c__law_whole ?k__law_whole ?a__law_refused_row ?l__law_refused_row ?c__law_refused_row ?k__law_refused_row ?a__law_raised ?l__law_raised ?c__law_raised ?k__law_raised ?a__law_refused ?l__law_refused ?c__law_refused ?k__law_refused ?a__law_mixed ?l__law_mixed ?c__law_mixed ?k__law_mixed ?a__law_alike ?l__law_alike ?c__law_alike ?k__law_alike ?l_Ride_turned ?c_Ride_turned ?k_Ride_turned ?l_Ride_can_be ?c_Ride_can_be ?k_Ride_can_be ?l_Ride_rows ?c_Ride_rows ?k_Ride_rows ?a__law_truth ?l__law_truth ?c__law_truth ?k__law_truth ?l_Ride_fewest ?c_Ride_fewest ?k_Ride_fewest ?l_Ride_best_with ?c_Ride_best_with ?k_Ride_best_with ?l_Ride_saved ?c_Ride_saved ?k_Ride_saved ?l_Ride_miles ?c_Ride_miles ?k_Ride_miles ?l_Ride_horses ?c_Ride_horses ?k_Ride_horses ?a_law ?l_law ?c_law ?k_law ?z_len ?z_abs ?z_int ?z_tuple ?z_list ?z_sum ?z_max ?z_min ?z_any ?z_all ?z_range ?z_isinstance ?z_str ?z_bool ?z_sorted ?z_set ?z_dict ?z_enumerate ?z_zip ?z_repr ?z_super ?nos ?xn ?xt ?aC_BadNumber ?aC_BadItem ?aC_TooMany ?aC_Refused ?xL_BadNumber ?rv_BadNumber ?sa_BadNumber ?eC_BadNumber ?tC_BadNumber ?kC_BadNumber ?i_BadNumber ?t_BadNumber ?l_BadNumber ?c_BadNumber ?ce_BadNumber ?co_BadNumber ?v_BadNumber ?fi_BadNumber ?su_BadNumber ?mr_BadNumber ?sv_BadNumber ?n_BadNumber_value ?ga_BadNumber ?gg_BadNumber ?hdi_BadNumber ?xL_BadItem ?rv_BadItem ?sa_BadItem ?eC_BadItem ?tC_BadItem ?kC_BadItem ?i_BadItem ?t_BadItem ?l_BadItem ?c_BadItem ?ce_BadItem ?co_BadItem ?v_BadItem ?fi_BadItem ?su_BadItem ?mr_BadItem ?sv_BadItem ?n_BadItem_index ?ga_BadItem ?gg_BadItem ?hdi_BadItem ?xL_TooMany ?rv_TooMany ?sa_TooMany ?eC_TooMany ?tC_TooMany ?kC_TooMany ?i_TooMany ?t_TooMany ?l_TooMany ?c_TooMany ?ce_TooMany ?co_TooMany ?v_TooMany ?fi_TooMany ?su_TooMany ?mr_TooMany ?sv_TooMany ?n_TooMany_limit ?ga_TooMany ?gg_TooMany ?hdi_TooMany ?xL_Refused ?rv_Refused ?sa_Refused ?eC_Refused ?tC_Refused ?kC_Refused ?i_Refused ?t_Refused ?l_Refused ?c_Refused ?ce_Refused ?co_Refused ?v_Refused ?fi_Refused ?su_Refused ?mr_Refused ?sv_Refused ?n_Refused_reason ?n_Refused_names ?ga_Refused ?gg_Refused ?hdi_Refused ?eb_BadItem ?ec_BadItem ?et_BadItem ?e_BadItem_BadNumber ?e_BadItem_BadItem ?e_BadItem_TooMany ?e_BadItem_Refused ?eb_BadNumber ?ec_BadNumber ?et_BadNumber ?e_BadNumber_BadNumber ?e_BadNumber_BadItem ?e_BadNumber_TooMany ?e_BadNumber_Refused ?eb_Refused ?ec_Refused ?et_Refused ?e_Refused_BadNumber ?e_Refused_BadItem ?e_Refused_TooMany ?e_Refused_Refused ?eb_TooMany ?ec_TooMany ?et_TooMany ?e_TooMany_BadNumber ?e_TooMany_BadItem ?e_TooMany_TooMany ?e_TooMany_Refused
    (case aC_Ride => k_is)
    (case pg_Ride => k_is)
    (case hd_Ride => k_is)
    (case po_Ride => k_is)
    (case sa_Ride => k_is)
    (case mk_Ride => k_is)
    (case mi_Ride => k_is)
    (case fn_Ride_init => k_is)
    (case kC_Ride => k_is)
    (case eq_Ride => k_is)
    (case fn_Ride_eq => k_is)
    (case ne_Ride => k_is)
    (case et_Ride => k_is)
    (case ob_Ride => k_is)
    (case xa_Ride => k_is)
    (case xc_Ride => k_is)
    (case tC_Ride => k_is)
    (case m_Ride_minutes => k_is)
    (case fn_Ride_minutes => k_is)
    (case m_Ride_with_change => k_is)
    (case fn_Ride_with_change => k_is)
    (case m_Ride_best => k_is)
    (case fn_Ride_best => k_is)
    (case m_Ride_most_change => k_is)
    (case fn_Ride_most_change => k_is)
    (case m_Ride_turned => k_is)
    (case fn_Ride_turned => k_is)
    (case m_Ride_can_be => k_is)
    (case fn_Ride_can_be => k_is)
    (case m_Ride_rows => k_is)
    (case fn_Ride_rows => k_is)
    (case m_Ride_fewest => k_is)
    (case fn_Ride_fewest => k_is)
    (case m_Ride_best_with => k_is)
    (case fn_Ride_best_with => k_is)
    (case m_Ride_saved => k_is)
    (case fn_Ride_saved => k_is)
    (case m_Ride_miles => k_is)
    (case fn_Ride_miles => k_is)
    (case m_Ride_horses => k_is)
    (case fn_Ride_horses => k_is)
    (case na_Ride_stages => k_is)
    (case na_Ride_paces => k_is)
    (case cn_MOST_STAGES => k_is)
    (case cn_MOST_TIRED => k_is)
    (case a_frozen => k_is)
    (case l_frozen => k_is)
    (case c_frozen => k_is)
    (case k_frozen => k_is)
    (case a_is_row => k_is)
    (case l_is_row => k_is)
    (case c_is_row => k_is)
    (case k_is_row => k_is)
    (case a_is_whole => k_is)
    (case l_is_whole => k_is)
    (case c_is_whole => k_is)
    (case k_is_whole => k_is)
    (case a_is_number => k_is)
    (case l_is_number => k_is)
    (case c_is_number => k_is)
    (case k_is_number => k_is)
    (case a_is_stage => k_is)
    (case l_is_stage => k_is)
    (case c_is_stage => k_is)
    (case k_is_stage => k_is)
    (case a_is_pace => k_is)
    (case l_is_pace => k_is)
    (case c_is_pace => k_is)
    (case k_is_pace => k_is)
    (case a_want_row => k_is)
    (case l_want_row => k_is)
    (case c_want_row => k_is)
    (case k_want_row => k_is)
    (case l_Ride_init => k_is)
    (case c_Ride_init => k_is)
    (case k_Ride_init => k_is)
    (case a__law_subsets => k_is)
    (case l__law_subsets => k_is)
    (case c__law_subsets => k_is)
    (case k__law_subsets => k_is)
    (case a__law_sized => k_is)
    (case l__law_sized => k_is)
    (case c__law_sized => k_is)
    (case k__law_sized => k_is)
    (case a__law_minutes => k_is)
    (case l__law_minutes => k_is)
    (case c__law_minutes => k_is)
    (case k__law_minutes => k_is)
    (case a__law_rows => k_is)
    (case l__law_rows => k_is)
    (case c__law_rows => k_is)
    (case k__law_rows => k_is)
    (case a__law_best => k_is)
    (case l__law_best => k_is)
    (case c__law_best => k_is)
    (case k__law_best => k_is)
    (case l_Ride_eq => k_is)
    (case c_Ride_eq => k_is)
    (case k_Ride_eq => k_is)
    (case a__law_taken => k_is)
    (case l__law_taken => k_is)
    (case c__law_taken => k_is)
    (case k__law_taken => k_is)
    (case a__law_pick => k_is)
    (case l__law_pick => k_is)
    (case c__law_pick => k_is)
    (case k__law_pick => k_is)
    (case l_Ride_minutes => k_is)
    (case c_Ride_minutes => k_is)
    (case k_Ride_minutes => k_is)
    (case a_want_number => k_is)
    (case l_want_number => k_is)
    (case c_want_number => k_is)
    (case k_want_number => k_is)
    (case a_want_minutes => k_is)
    (case l_want_minutes => k_is)
    (case c_want_minutes => k_is)
    (case k_want_minutes => k_is)
    (case a_subsets => k_is)
    (case l_subsets => k_is)
    (case c_subsets => k_is)
    (case k_subsets => k_is)
    (case l_Ride_with_change => k_is)
    (case c_Ride_with_change => k_is)
    (case k_Ride_with_change => k_is)
    (case l_Ride_best => k_is)
    (case c_Ride_best => k_is)
    (case k_Ride_best => k_is)
    (case l_Ride_most_change => k_is)
    (case c_Ride_most_change => k_is)
    (case k_Ride_most_change => k_is)
    (case a__law_whole => k_is)
    (case l__law_whole => k_is)
    (case c__law_whole => k_is)
    (case k__law_whole => k_is)
    (case a__law_refused_row => k_is)
    (case l__law_refused_row => k_is)
    (case c__law_refused_row => k_is)
    (case k__law_refused_row => k_is)
    (case a__law_raised => k_is)
    (case l__law_raised => k_is)
    (case c__law_raised => k_is)
    (case k__law_raised => k_is)
    (case a__law_refused => k_is)
    (case l__law_refused => k_is)
    (case c__law_refused => k_is)
    (case k__law_refused => k_is)
    (case a__law_mixed => k_is)
    (case l__law_mixed => k_is)
    (case c__law_mixed => k_is)
    (case k__law_mixed => k_is)
    (case a__law_alike => k_is)
    (case l__law_alike => k_is)
    (case c__law_alike => k_is)
    (case k__law_alike => k_is)
    (case l_Ride_turned => k_is)
    (case c_Ride_turned => k_is)
    (case k_Ride_turned => k_is)
    (case l_Ride_can_be => k_is)
    (case c_Ride_can_be => k_is)
    (case k_Ride_can_be => k_is)
    (case l_Ride_rows => k_is)
    (case c_Ride_rows => k_is)
    (case k_Ride_rows => k_is)
    (case a__law_truth => k_is)
    (case l__law_truth => k_is)
    (case c__law_truth => k_is)
    (case k__law_truth => k_is)
    (case l_Ride_fewest => k_is)
    (case c_Ride_fewest => k_is)
    (case k_Ride_fewest => k_is)
    (case l_Ride_best_with => k_is)
    (case c_Ride_best_with => k_is)
    (case k_Ride_best_with => k_is)
    (case l_Ride_saved => k_is)
    (case c_Ride_saved => k_is)
    (case k_Ride_saved => k_is)
    (case l_Ride_miles => k_is)
    (case c_Ride_miles => k_is)
    (case k_Ride_miles => k_is)
    (case l_Ride_horses => k_is)
    (case c_Ride_horses => k_is)
    (case k_Ride_horses => k_is)
    (case a_law => k_is)
    (case l_law => k_is)
    (case c_law => k_is)
    (case k_law => k_is)
    (case z_len => k_is)
    (case z_abs => k_is)
    (case z_int => k_is)
    (case z_tuple => k_is)
    (case z_list => k_is)
    (case z_sum => k_is)
    (case z_max => k_is)
    (case z_min => k_is)
    (case z_any => k_is)
    (case z_all => k_is)
    (case z_range => k_is)
    (case z_isinstance => k_is)
    (case z_str => k_is)
    (case z_bool => k_is)
    (case z_sorted => k_is)
    (case z_set => k_is)
    (case z_dict => k_is)
    (case z_enumerate => k_is)
    (case z_zip => k_is)
    (case z_repr => k_is)
    (case z_super => k_is)
    (case nos => k_is)
    (case xn => k_is)
    (case xt => k_is)
    (case aC_BadNumber => k_is)
    (case aC_BadItem => k_is)
    (case aC_TooMany => k_is)
    (case aC_Refused => k_is)
    (case xL_BadNumber => k_is)
    (case rv_BadNumber => first | rfl | decide +kernel | k_is)
    (case sa_BadNumber => k_is)
    (case eC_BadNumber => k_is)
    (case tC_BadNumber => k_is)
    (case kC_BadNumber => k_is)
    (case i_BadNumber => k_is)
    (case t_BadNumber => k_is)
    (case l_BadNumber => k_is)
    (case c_BadNumber => k_is)
    (case ce_BadNumber => k_is)
    (case co_BadNumber => k_is)
    (case v_BadNumber => first | rfl | decide +kernel | k_is)
    (case fi_BadNumber => first | rfl | decide +kernel | k_is)
    (case su_BadNumber => ks_is)
    (case mr_BadNumber => k_is)
    (case sv_BadNumber => k_is)
    (case n_BadNumber_value => k_is)
    (case ga_BadNumber => k_is)
    (case gg_BadNumber => k_is)
    (case hdi_BadNumber => k_is)
    (case xL_BadItem => k_is)
    (case rv_BadItem => first | rfl | decide +kernel | k_is)
    (case sa_BadItem => k_is)
    (case eC_BadItem => k_is)
    (case tC_BadItem => k_is)
    (case kC_BadItem => k_is)
    (case i_BadItem => k_is)
    (case t_BadItem => k_is)
    (case l_BadItem => k_is)
    (case c_BadItem => k_is)
    (case ce_BadItem => k_is)
    (case co_BadItem => k_is)
    (case v_BadItem => first | rfl | decide +kernel | k_is)
    (case fi_BadItem => first | rfl | decide +kernel | k_is)
    (case su_BadItem => ks_is)
    (case mr_BadItem => k_is)
    (case sv_BadItem => k_is)
    (case n_BadItem_index => k_is)
    (case ga_BadItem => k_is)
    (case gg_BadItem => k_is)
    (case hdi_BadItem => k_is)
    (case xL_TooMany => k_is)
    (case rv_TooMany => first | rfl | decide +kernel | k_is)
    (case sa_TooMany => k_is)
    (case eC_TooMany => k_is)
    (case tC_TooMany => k_is)
    (case kC_TooMany => k_is)
    (case i_TooMany => k_is)
    (case t_TooMany => k_is)
    (case l_TooMany => k_is)
    (case c_TooMany => k_is)
    (case ce_TooMany => k_is)
    (case co_TooMany => k_is)
    (case v_TooMany => first | rfl | decide +kernel | k_is)
    (case fi_TooMany => first | rfl | decide +kernel | k_is)
    (case su_TooMany => ks_is)
    (case mr_TooMany => k_is)
    (case sv_TooMany => k_is)
    (case n_TooMany_limit => k_is)
    (case ga_TooMany => k_is)
    (case gg_TooMany => k_is)
    (case hdi_TooMany => k_is)
    (case xL_Refused => k_is)
    (case rv_Refused => first | rfl | decide +kernel | k_is)
    (case sa_Refused => k_is)
    (case eC_Refused => k_is)
    (case tC_Refused => k_is)
    (case kC_Refused => k_is)
    (case i_Refused => k_is)
    (case t_Refused => k_is)
    (case l_Refused => k_is)
    (case c_Refused => k_is)
    (case ce_Refused => k_is)
    (case co_Refused => k_is)
    (case v_Refused => first | rfl | decide +kernel | k_is)
    (case fi_Refused => first | rfl | decide +kernel | k_is)
    (case su_Refused => ks_is)
    (case mr_Refused => k_is)
    (case sv_Refused => k_is)
    (case n_Refused_reason => k_is)
    (case n_Refused_names => k_is)
    (case ga_Refused => k_is)
    (case gg_Refused => k_is)
    (case hdi_Refused => k_is)
    (case eb_BadItem => k_is)
    (case ec_BadItem => k_is)
    (case et_BadItem => k_is)
    (case e_BadItem_BadNumber => k_is)
    (case e_BadItem_BadItem => k_is)
    (case e_BadItem_TooMany => k_is)
    (case e_BadItem_Refused => k_is)
    (case eb_BadNumber => k_is)
    (case ec_BadNumber => k_is)
    (case et_BadNumber => k_is)
    (case e_BadNumber_BadNumber => k_is)
    (case e_BadNumber_BadItem => k_is)
    (case e_BadNumber_TooMany => k_is)
    (case e_BadNumber_Refused => k_is)
    (case eb_Refused => k_is)
    (case ec_Refused => k_is)
    (case et_Refused => k_is)
    (case e_Refused_BadNumber => k_is)
    (case e_Refused_BadItem => k_is)
    (case e_Refused_TooMany => k_is)
    (case e_Refused_Refused => k_is)
    (case eb_TooMany => k_is)
    (case ec_TooMany => k_is)
    (case et_TooMany => k_is)
    (case e_TooMany_BadNumber => k_is)
    (case e_TooMany_BadItem => k_is)
    (case e_TooMany_TooMany => k_is)
    (case e_TooMany_Refused => k_is)

