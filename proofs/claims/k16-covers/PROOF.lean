import PyProof.Rows.All
import Wide.All
import OpenK.AllK
import Wide.FinOn
import HandS.ForMost
import HandS.Exc
import HandS.WordsExc
import HandS.Style
import HandS.Wide
import HandS.IsInst
import HandS.Conv
import HandS.Defaults
import HandS.Zip
import HandS.Deep
import HandS.RaiseMore
import HandS.HeadEnd
import KE.KDictZip
import KE.KItemsList
import HandS.Head0
import HandS.Head1
import HandS.Head2
import HandS.HeadHook1
import HandS.HeadHook2
import HandS.HeadHook4
import PySem.Challenge.RW_linksums_k16_covers
set_option Elab.async false
set_option linter.all false
set_option maxRecDepth 100000
set_option maxHeartbeats 8000000
/-! VC, part 1: a def's promise where no repr runs around it; its call; repr of data; the law's end. -/
namespace VC
open PySem PySem.Spec PyProof.Rows L2

/-- a def keeps its promise wherever no guard (a running repr) stands around the call -/
structure FnG (P : Program) (w : World) (K : PySem.W.Frag) (mg : Str → Option Value) (base : Heap) (k : Nat) (f : Addr) (fd : FuncData) (ps : List Str) (sp : Sp) : Prop where
  len : ∀ vs H Q E, sp vs H Q E → vs.length = ps.length
  run : ∀ (A : Around) (outer : List Env) (s : Shared) (H : Hp) (args : Args) (us : List Value) (vs : List V) (Q : VK) (E : XK),
    A.guards = some [] → Room k A → Env0 P w K mg base A outer s H → BindsTo s fd args (ps.zip us) → Vals vs us → sp vs H Q E →
    codeAny (model P w) A (.call (.ref f) args) (CR (L2.CX P w) outer P w H s Q E) s

section
variable {P : Program} {w : World} {K : PySem.W.Frag} {mg : Str → Option Value} {base : Heap}

/-- from a body to the promise -/
theorem fnG_of {k : Nat} {f : Addr} {x qual : Str} {params : Arguments} {body : List Stmt} {scope : Scope} {dvs : List V} {kws : List (Str × V)} {fd : FuncData}
    {N ps : List Str} {sp : Sp} (F : FunD K x qual params body scope dvs kws f fd) (S : FnScope N ps scope)
    (len : ∀ vs H Q E, sp vs H Q E → vs.length = ps.length)
    (hbody : ∀ (cdv : Value) (A : Around) (outer : List Env) (s : Shared) (H : Hp) (vs : List V) (Q : VK) (E : XK),
      A.guards = some [] → Room k (A.deeper (envOfC qual scope s.heap.objs.size f cdv)) → sp vs H Q E →
      ∃ t, PSs (cxOf (L2.CX P w) P w K mg base N qual scope f cdv A outer s H E) body t ∧
        t { nx := fun _ H' => Q .non H', rt := Q } (start N vs) H) :
    FnG P w K mg base (k + 1) f fd ps sp := by
  obtain ⟨oc, od, dV, kV, doc, pm, an, cdv, ct, osl, rfl, lk, hcd, _, _⟩ := F.ex
  constructor
  · exact len
  · intro A outer s H args us vs Q E hgu hr e0 hb r hsp
    have hl := len _ _ _ _ hsp
    have kx := e0.mod.kin.keeps (fun b o e => (e0.bs b o e).1)
    have nolim := e0.mod.nolimit.keeps (fun b o e => (e0.bs b o e).1)
    apply codeAny_call_function hr.depth (kx _ _ lk) rfl S.co S.gen rfl (PySem.W.codeRec_of kx hcd)
    apply hb
    apply wpAny_newFunctionEnv_cells S.kind
    · intro y hy
      obtain ⟨n, v⟩ := y
      rcases S.par n (List.of_mem_zip hy).1 with q | q
      · exact .inl q
      · exact .inr ⟨q, PySem.W.cellsFrom_some _ _ _ (.inl q)⟩
    · intro env he s1 x
      subst he
      refine ⟨nolim.keeps x.toInCall.keep, codeAny_func ?_⟩
      obtain ⟨t, ht, hq⟩ := hbody cdv A outer s H vs Q E hgu (hr.deeper _) hsp
      have I := inv_start (CX := L2.CX P w) (E := E) (qual := qual) (f := f) (cd := cdv) S hr.hd e0 hl r x
      apply wpAny_mono (ht.run [] s1 (start N vs) H _ I hq)
      · intro fl s' hs
        cases fl with
        | ret u =>
          obtain ⟨v, σ', H', J, rv, q⟩ := hs
          exact ⟨v, H', J.os, J.bare, J.base, J.hok, rv, q⟩
        | next =>
          obtain ⟨σ', H', J, q⟩ := hs
          exact ⟨.non, H', J.os, J.bare, J.base, J.hok, rfl, q⟩
        | brk =>
          obtain ⟨_, _, _, q⟩ := hs
          exact q.elim
        | cont =>
          obtain ⟨_, _, _, q⟩ := hs
          exact q.elim
      · intro e s' hs
        exact hs
end

section
variable {X : Cx} {k : Nat} {f : Addr} {fd : FuncData} {ps : List Str} {sp : Sp} {E : XK}

theorem fnG_run {pins : List (Addr × Obj)} {σ : L2.St} {H : Hp} {s : Shared} {Q : VK} {args : Args} {us : List Value} {vs : List V}
    (F : FnG X.prog X.w X.K X.mg X.base k f fd ps sp) (hgu : X.A.guards = some []) (hr : Room k X.A)
    (hb : BindsTo s fd args (ps.zip us)) (hx : Passes (L2.CX X.prog X.w) X E) (I : Inv X pins σ H s) (r : Vals vs us) (h : sp vs H Q E) :
    wpAny (model X.prog X.w) X.A (call (.ref f) args.pos args.kw) (EP X pins σ Q) X.xe s := by
  apply wpAny_call
  apply codeAny_mono (F.run X.A X.stack s H args us vs Q E hgu hr I.env0 hb r h)
  intro res s' hq
  cases res with
  | error e => exact hx pins σ H s e s' I hq
  | ok fl =>
    cases fl with
    | ret u => exact I.after hq
    | next => exact hq.elim
    | brk => exact hq.elim
    | cont => exact hq.elim

theorem star_cons {e : Expr} {es : List Expr} {env : Env} (h : ∀ z p, e ≠ .Starred z p) : starEach (e :: es) env = (false, eval e env) :: starEach es env := by
  cases e <;> first | rfl | (exact absurd rfl (h _ _))

theorem noStar_any {pos : Pos} {env : Env} : ∀ {es : List Expr}, (∀ e ∈ es, ∀ z p, e ≠ .Starred z p) → (backTo pos (starEach es env)).any (·.1) = false
  | [], _ => rfl
  | e :: es, h => by
    rw [star_cons (h e List.mem_cons_self)]
    show (false || (backTo pos (starEach es env)).any (·.1)) = false
    rw [noStar_any fun x hx => h x (List.mem_cons_of_mem _ hx)]
    rfl

theorem kw_all {pos : Pos} {env : Env} : ∀ {kws : List Keyword}, (∀ q ∈ kws, q.arg.isSome = true) → (backToKw pos (keywordEach kws env)).all (·.1.isSome) = true
  | [], _ => rfl
  | q :: kws, h => by
    obtain ⟨a, e, p⟩ := q
    show (a.isSome && (backToKw pos (keywordEach kws env)).all (·.1.isSome)) = true
    rw [kw_all fun x hx => h x (List.mem_cons_of_mem _ hx), show a.isSome = true from h ⟨a, e, p⟩ List.mem_cons_self]
    rfl
theorem kw_none {pos : Pos} {env : Env} : ∀ {kws : List Keyword}, (∀ q ∈ kws, q.arg.isSome = true) → (backToKw pos (keywordEach kws env)).any (·.1.isNone) = false
  | [], _ => rfl
  | q :: kws, h => by
    obtain ⟨a, e, p⟩ := q
    show (a.isNone || (backToKw pos (keywordEach kws env)).any (·.1.isNone)) = false
    rw [kw_none fun x hx => h x (List.mem_cons_of_mem _ hx)]
    have := h ⟨a, e, p⟩ List.mem_cons_self
    cases a with
    | none => cases this
    | some _ => rfl
theorem kw_names {pos : Pos} {env : Env} : ∀ {kws : List Keyword}, (backToKw pos (keywordEach kws env)).filterMap (·.1) = kws.filterMap (·.arg)
  | [] => rfl
  | q :: kws => by
    obtain ⟨a, e, p⟩ := q
    show List.filterMap (·.1) ((a, _) :: backToKw pos (keywordEach kws env)) = _
    cases a with
    | none => simpa [List.filterMap_cons] using kw_names (pos := pos) (env := env) (kws := kws)
    | some _ => simpa [List.filterMap_cons] using kw_names (pos := pos) (env := env) (kws := kws)

/-- f(..), by position and by keyword -/
theorem pe_callG {x : Str} {p pos : Pos} {es : List Expr} {kws : List Keyword} {t tk : TA} {ks : List Str} {ar : {α : Type} → α → List α → List α → List α}
    (F : FnG X.prog X.w X.K X.mg X.base k f fd ps sp) (hgu : X.A.guards = some []) (hr : Room k X.A)
    (hg : Gl X x) (hm : X.mg x = some (.ref f)) (hk : PySem.W.keepIn X.K (.ref f) = true)
    (hb : ∀ (s : Shared) (us ws : List Value), X.K.In s.heap → us.length = es.length → ws.length = ks.length → BindsTo s fd ⟨us, ks.zip ws⟩ (ps.zip (ar Value.none us ws)))
    (hv : ∀ (vs zs : List V) (us ws : List Value), Vals vs us → Vals zs ws → Vals (ar V.non vs zs) (ar Value.none us ws))
    (hx : Passes (L2.CX X.prog X.w) X E) (ha : PA X es t) (ht : es = [] → t = tNil) (hkw : PK X kws tk)
    (hes : ∀ e ∈ es, ∀ z p, e ≠ .Starred z p) (hks : kws.map (·.arg) = ks.map some)
    (hdb : (x == ("__debug__" : Str)) = false) :
    PE X (.Call (.Name x p) es kws pos) (fun σ H Q => t σ H fun vs H1 => tk σ H1 fun zs H2 => vs.length = es.length ∧ zs.length = ks.length ∧ sp (ar V.non vs zs) H2 Q E) := by
  have hsome : ∀ q ∈ kws, q.arg.isSome = true := by
    intro q hq
    have : q.arg ∈ kws.map (·.arg) := List.mem_map_of_mem hq
    rw [hks] at this
    obtain ⟨a, _, e⟩ := List.mem_map.mp this
    rw [← e]; rfl
  have hnames : kws.filterMap (·.arg) = ks := by
    have h1 : kws.filterMap (·.arg) = (kws.map (·.arg)).filterMap id := by
      rw [List.filterMap_map]; rfl
    rw [h1, hks, List.filterMap_map]
    show List.filterMap some ks = ks
    exact List.filterMap_some
  have fin : ∀ (pins : List (Addr × Obj)) (σ : L2.St) (Q : VK) (us ws : List Value) (vs zs : List V) (s2 : Shared) (H2 : Hp), Inv X pins σ H2 s2 → Vals vs us → Vals zs ws → vs.length = es.length → zs.length = ks.length → sp (ar V.non vs zs) H2 Q E →
      wpAny (model X.prog X.w) X.A (call (.ref f) us (ks.zip ws)) (EP X pins σ Q) X.xe s2 := by
    intro pins σ Q us ws vs zs s2 H2 I2 r rz l1 l2 q
    exact fnG_run (args := ⟨us, ks.zip ws⟩) F hgu hr (hb s2 us ws I2.kIn (r.length.symm.trans l1) (rz.length.symm.trans l2)) hx I2 (hv _ _ _ _ r rz) q
  have hone : ((backTo pos (starEach es X.env)).any (·.1) || (backToKw pos (keywordEach kws X.env)).any (·.1.isNone)) = false := by
    rw [noStar_any hes, kw_none hsome]
    rfl
  constructor
  intro pins s σ H Q I h
  apply wpAny_Call_Name_kw
  refine ld_glob I hg hm ?_ hdb
  cases es with
  | nil =>
    have e0 := ht rfl
    subst e0
    refine PySem.W.callWith_KW0 (h₀ := X.base) I.ok.mod.kin hk (kw_all hsome) ?_ hone
    apply thn (hkw.run pos pins s σ H _ I h)
    rintro ws s2 ⟨zs, H2, I2, rz, l1, l2, q⟩
    refine ⟨I2.kIn, ?_⟩
    rw [kw_names, hnames]
    exact fin pins σ Q [] ws [] zs s2 H2 I2 .nil rz rfl l2 q
  | cons e es =>
    refine PySem.W.callWith_KW (h₀ := X.base) I.ok.mod.kin hk (kw_all hsome) ?_ hone (star_cons (hes e List.mem_cons_self))
    apply thn (ha.run pos pins s σ H _ I h)
    rintro us s1 ⟨vs, H1, I1, r, q1⟩
    apply thn (hkw.run pos pins s1 σ H1 _ I1 q1)
    rintro ws s2 ⟨zs, H2, I2, rz, l1, l2, q⟩
    refine ⟨I2.kIn, ?_⟩
    rw [kw_names, hnames]
    exact fin pins σ Q us ws vs zs s2 H2 I2 r rz l1 l2 q
end

/-! ### repr of data -/
theorem call_reprD {X : Cx} (hgu : X.A.guards = some []) (hu : X.A.units + 64 < cLine) :
    CallR X (.builtin "repr") (fun xs H Q => ∃ (a : Addr) (d : PyData), xs = [.ref a] ∧ Dp X.K H (.ref a) d ∧ d.showable = true ∧ d.hasDict = false ∧ d.depth ≤ 60 ∧ d.shown.length ≤ sizeLine ∧ Q (.str d.shown) H) := by
  intro pins s σ H xs us Q I r h
  obtain ⟨a, d, rfl, hd, hs, hnd, hdep, hsz, q⟩ := h
  have e := Vals.ref1 r
  subst e
  obtain ⟨as, rd⟩ := Dp.reads I d (.ref a) (.ref a) hd rfl
  refine repr_of_reads' rd hs (fun z => by rw [hnd] at z; cases z) hgu (by omega) (fun b o e => e) ?_ hsz
  intro h' u tk hk
  exact ⟨.str d.shown, H, I.kept hk, ⟨_, rfl⟩, q⟩
theorem op_powW {X : Cx} : OpR X (binaryOp .Pow) (rI (fun i j => 0 ≤ j ∧ (Builtin.Int.intBits i : Int) * j ≤ 2 ^ 27) fun i j => .int (i ^ j.toNat)) :=
  opI fun _ _ _ _ _ _ _ hc q => pow_int hc.1 hc.2 q
theorem call_repr_str {X : Cx} : CallR X (.builtin "repr") (fun xs H Q => ∃ z, xs = [.str z] ∧ (reprText z).length ≤ sizeLine ∧ Q (.str (reprText z)) H) := by
  intro pins s σ H xs us Q I r h
  obtain ⟨z, rfl, hz, q⟩ := h
  obtain ⟨u, rfl, t, rfl⟩ := vals1 r
  exact PySem.P.repr_of_str ⟨.str _, H, I.tok _, ⟨_, rfl⟩, q⟩ hz
theorem call_repr_bool {X : Cx} : CallR X (.builtin "repr") (fun xs H Q => ∃ b, xs = [.bl b] ∧ Q (.str (if b then "True" else "False")) H) := by
  intro pins s σ H xs us Q I r h
  obtain ⟨z, rfl, q⟩ := h
  obtain ⟨u, rfl, r1⟩ := vals1 r
  cases r1
  exact PySem.P.repr_of_bool ⟨.str _, H, I.tok _, ⟨_, rfl⟩, q⟩

/-! ### the law's end -/
/-- at the law's entry nothing but the script is tracked -/
structure Scr (K : PySem.W.Frag) (H : Hp) (a : Addr) (xs : List V) : Prop where
  only : ∀ b, b ≠ a → H b = none
  here : (∃ o, H a = some (.frz o (.lst xs))) ∨ (H a = none ∧ SqL K H a xs)

theorem cx_none {P : Program} {w : World} {H : Hp} {s : Shared} {e : Value} {s' : Shared} (h : L2.CX P w [] H s (fun _ _ _ => False) e s') : False := by
  obtain ⟨_, _, _, _, _, _, _, _, _, _, _, _, z⟩ := h
  exact z

section
variable {P : Program} {w : World} {K : PySem.W.Frag} {mg mb : Str → Option Value}
theorem law_runG {k : Nat} {fa a : Addr} {fd : FuncData} {x : Str} {sp : Sp} {s1 : Shared} {vs : List Value} {ns : List Int}
    (KX : K.In s1.heap) (g1 : s1.heap.Ns mainGlobals mg) (g2 : s1.heap.Ns builtinsNs mb) (g3 : ∀ x : Str, x ≠ "__name__" → mb x = bootBuiltins x)
    (g4 : s1.heap.NoLimit) (g5 : s1.gens = #[]) (ha : s1.heap.get? a = some { cls := .type "list", data := .seq vs.toArray })
    (hi : IntsAre vs ns) (hl : ns.length ≤ sizeLine) (hr : Room k callerA)
    (F : ∀ base : Heap, K.In base → base.Ns mainGlobals mg → FnG P w K mg base k fa fd [x] sp)
    (hbind : ∀ (s : Shared) (u : Value), BindsTo s fd ⟨[u], []⟩ [(x, u)])
    (hsp : ∀ H : Hp, Scr K H a (ns.map V.int) → sp [.ref a] H (fun v _ => v = .bl true) fun _ _ _ => False) :
    codeAny (model P w) callerA (.call (.ref fa) ⟨[.ref a], []⟩) (fun r s' => r = .ok (.ret (.bool true)) ∧ OldK s1.heap s'.heap ∧ s'.os = s1.os ∧ AllBare s'.gens) s1 := by
  have rv := vals_ints hi
  have lenV := hi.length
  have main : ∀ H : Hp, Scr K H a (ns.map V.int) → HOk P w H s1.heap → (H a ≠ none → K.lookup a = none) →
      codeAny (model P w) callerA (.call (.ref fa) ⟨[.ref a], []⟩) (fun r s' => r = .ok (.ret (.bool true)) ∧ OldK s1.heap s'.heap ∧ s'.os = s1.os ∧ AllBare s'.gens) s1 := by
    intro H hS hok hK
    have onlyA : ∀ b, H b ≠ none → b = a := by
      intro b hb
      by_cases e : b = a
      · exact e
      · exact absurd (hS.only b e) hb
    have notDict : ∀ (b : Addr) (o : Obj) (es : Array DictEntry) (ep : Nat), s1.heap.get? b = some o → o.data = .dict es ep → H b = none := by
      intro b o es ep e d
      by_cases hb : H b = none
      · exact hb
      · have e' := onlyA b hb
        subst e'
        rw [ha] at e
        cases e
        cases (show Data.seq vs.toArray _ = Data.dict es ep from d)
    have ns' : ∀ (b : Addr) (m : Str → Option Value), s1.heap.Ns b m → (hidT s1.heap H).Ns b m := by
      rintro b m ⟨o, es, ep, e, d, r⟩
      exact ⟨o, es, ep, hidT_get e (notDict b o es ep e d), d, r⟩
    have kb : K.In (hidT s1.heap H) := by
      intro b o e
      apply hidT_get (KX b o e)
      by_cases hb : H b = none
      · exact hb
      · have e' := onlyA b hb
        subst e'
        rw [hK hb] at e
        cases e
    obtain ⟨mc, c1, c2⟩ := g4
    have modOk : Mod K mg (hidT s1.heap H) := ⟨kb, ns' _ _ g1, ⟨mb, ns' _ _ g2, g3⟩, ⟨mc, ns' _ _ c1, c2⟩⟩
    have env : Env0 P w K mg (hidT s1.heap H) callerA [] s1 H :=
      ⟨rfl, modOk, fun b o e => of_hidT e, Nat.le_of_eq (hidT_size _ _), trivial, fun b hb => (nomatch hb), hok, .of_eq g5⟩
    have call := (F _ kb (ns' _ _ g1)).run callerA [] s1 H ⟨[.ref a], []⟩ [.ref a] [.ref a] _ _ rfl hr env (hbind s1 (.ref a)) (.cons rfl .nil) (hsp H hS)
    refine codeAny_mono call ?_
    intro r s' h
    cases r with
    | error e => exact (cx_none h).elim
    | ok fl =>
      cases fl with
      | next => exact h.elim
      | brk => exact h.elim
      | cont => exact h.elim
      | ret u =>
        obtain ⟨v, H', os, bare, un, hok', r', q⟩ := h
        have q' : v = .bl true := q
        subst q'
        have eu : u = Value.bool true := r'
        subst eu
        refine ⟨rfl, OldK.of_keep ?_, os, bare⟩
        intro b o e
        by_cases hb : H b = none
        · exact un.keep b o e hb (by intro z; cases z) (by intro z; cases z)
        · have e' := onlyA b hb
          subst e'
          rcases hS.here with ⟨ob, z⟩ | ⟨z, _⟩
          · have z2 := un.frzs b ob _ z
            have o1 := (hok b _ z).1
            have o2 := (hok' b _ z2).1
            rw [e] at o1
            cases o1
            exact o2
          · exact absurd z hb
  cases hk : K.lookup a with
  | some o =>
    have e := KX a o hk
    rw [ha] at e
    cases e
    refine main (fun _ => none) ⟨fun _ _ => rfl, .inr ⟨rfl, .inr ⟨_, vs.toArray, _, hk, rfl, rfl, rfl, ?_, ?_⟩⟩⟩ (fun b u z => ?_) (fun z => absurd rfl z)
    · rw [List.size_toArray, lenV]
      exact hl
    · simpa using rv
    · cases (show (none : Option HO) = some u from z)
  | none =>
    refine main (fun b => if b = a then some (.frz { cls := .type "list", data := .seq vs.toArray } (.lst (ns.map V.int))) else none) ⟨fun b hb => if_neg hb, .inl ⟨_, if_pos rfl⟩⟩ (fun b u z => ?_) (fun _ => hk)
    by_cases hb : b = a
    · cases (if_pos hb).symm.trans z
      subst hb
      exact ⟨ha, by rw [List.length_map]; exact hl, vs, _, rv, ha⟩
    · cases (if_neg hb).symm.trans z
end

/-- the goal behind the head -/
theorem law_endG {l : PySem.W.OpenLaw} {n k : Nat} {q : Program} {loose : List Str} {XP : (Str → Option Value) → Heap → Prop} {YP : World → Heap → Prop} {d : DefRec} {x : Str}
    (hn : l.most = some n) (hn2 : n ≤ sizeLine) (hdf : d.params.defaults = []) (hr : Room k callerA)
    (F : ∀ (w : World) (mg : Str → Option Value) (fa : Addr) (h : Heap), YP w h → h.Ns mainGlobals mg → mg d.name = some (.ref fa) →
      ∃ (K : PySem.W.Frag) (fd : FuncData) (sp : Sp), K.In h ∧ (∀ (s : Shared) (u : Value), BindsTo s fd ⟨[u], []⟩ [(x, u)]) ∧
        (∀ (H : Hp) (a : Addr) (ns : List Int), ns.length ≤ n → Scr K H a (ns.map V.int) → sp [.ref a] H (fun v _ => v = .bl true) fun _ _ _ => False) ∧
        ∀ base : Heap, K.In base → base.Ns mainGlobals mg → FnG l.prog w K mg base k fa fd [x] sp) :
    PySem.W.WalkO q loose XP YP l.row.toRowW d [] (fun f vs => PySem.call f vs) := by
  apply Att.attach_call hn hdf
  intro w s0 s1 mg mb fa o pm cd doc a vs ns G Y ho hd hcd hmg hobj hints hlen hg
  obtain ⟨K, fd, sp, KX, hb, hsp, hF⟩ := F w mg fa _ Y G.T.g hmg
  exact law_runG KX G.T.g G.T.b G.T.builtins G.T.nolimit hg hobj hints (Nat.le_trans hlen hn2) hr hF hb (fun H hS => hsp H a ns hlen hS)
end VC

/-! VC, part 2: the tree of a def, its weakest precondition. -/
namespace VC
open PySem PySem.Spec PyProof.Rows L2

inductive Tg where
  | name (i : Nat)
  | tup (is : List Nat)
mutual
inductive Ex where
  | var (i : Nat)
  | con (c : Const)
  | glb (x : Str)
  | bin (op : Operator) (a b : Ex)
  | neg (a : Ex)
  | cmp (op : CmpOp) (a b : Ex)
  | chn (o p : CmpOp) (a b c : Ex)
  | and (a b : Ex)
  | or (a b : Ex)
  | not (a : Ex)
  | ite (c : Ts) (a b : Ex)
  | tup (es : Exs)
  | lst (es : Exs)
  | idx (a i : Ex)
  | sl2 (a lo hi : Ex)
  | sl1 (a lo : Ex)
  | sl0 (a hi : Ex)
  | rev (a : Ex)
  | call (f : Str) (es : Exs) (ks : List Str) (kes : Exs)
  | blt (f : Str) (es : Exs)
  | isi (a : Ex) (t : Str)
  | lrg (es : Exs)
  | lzp (a b : Ex)
  | mth (m : Str) (o : Ex) (es : Exs)
  | comp (e : Ex) (tg : Tg) (it : Ir) (cs : Cd) (own : List (Str × Nat))
inductive Exs where
  | nil
  | cons (e : Ex) (es : Exs)
inductive Ts where
  | val (e : Ex)
  | cmp (op : CmpOp) (a b : Ex)
  | chn (o p : CmpOp) (a b c : Ex)
  | not (a : Ts)
  | and (a b : Ts)
  | or (a b : Ts)
inductive Cd where
  | no
  | one (t : Ts)
inductive Ir where
  | seq (e : Ex)
  | rng (es : Exs)
  | enm (e : Ex)
  | zip (a b : Ex)
end

mutual
inductive Sm where
  | expr (e : Ex)
  | ret (e : Ex)
  | retN
  | asg (i : Nat) (e : Ex)
  | unp (is : List Nat) (e : Ex)
  | par (is : List Nat) (es : Exs)
  | setI (o i e : Ex)
  | aug (i : Nat) (op : Operator) (e : Ex)
  | augI (o i : Ex) (op : Operator) (e : Ex)
  | ife (c : Ts) (a b : Ss)
  | forI (tg : Tg) (it : Ir) (b : Ss)
  | whl (c : Ts) (b : Ss)
  | pass
  | brk
  | cont
  | never
inductive Ss where
  | nil
  | cons (s : Sm) (r : Ss)
end

/-- a def: parameters, all names by slot, the body -/
structure Fn where
  ps : List Str
  N : List Str
  body : Ss
def Exs.len : Exs → Nat
  | .nil => 0
  | .cons _ r => r.len + 1

/-- defs and constants of a text; how defs are called by keywords (positional ones, names) -/
structure Tab where
  fns : List (Str × Fn)
  cons : List (Str × V)
  kp : List (Str × Nat × List Str)

/-! ### values -/
def conV : Const → Option V
  | .none => some .non
  | .bool b => some (.bl b)
  | .int i => some (.int i)
  | .str x => some (.str x)
  | _ => none

/-- a new object -/
def alloc (H : Hp) (o : HO) (Q : VK) : Prop := ∀ p H1, H p = none → Same H H1 → H1 p = some o → Q (.ref p) H1
theorem same_new {H : Hp} {p : Addr} {o : HO} (h : H p = none) : Same H (upd H p o) := fun a u e => by
  rw [upd_ne (ne_of_none e h)]; exact e
theorem alloc.at_ {H : Hp} {o : HO} {Q : VK} (h : alloc H o Q) : ∀ p, H p = none → Q (.ref p) (upd H p o) := fun p hp => h p _ hp (same_new hp) upd_same

def onL (K : PySem.W.Frag) (H : Hp) (a : Addr) (F : List V → Prop) : Prop := match H a with
  | some (.lst xs) => F xs
  | some (.frz _ (.lst xs)) => F xs
  | none => ∃ xs, SqL K H a xs ∧ F xs
  | _ => False
theorem onL.to {K : PySem.W.Frag} {H : Hp} {a : Addr} {F : List V → Prop} (h : onL K H a F) : ∃ xs, SqL K H a xs ∧ F xs := by
  unfold onL at h
  split at h
  · exact ⟨_, .inl (.inl (by assumption)), h⟩
  · exact ⟨_, .inl (.inr ⟨_, by assumption⟩), h⟩
  · exact h
  · exact h.elim
theorem onL_of {K : PySem.W.Frag} {H : Hp} {a : Addr} {xs : List V} {F : List V → Prop} (h : H a = some (.lst xs)) : onL K H a F = F xs := by
  unfold onL; rw [h]
def onT (K : PySem.W.Frag) (H : Hp) (a : Addr) (F : List V → Prop) : Prop := match H a with
  | some (.tup xs) => F xs
  | _ => False
theorem onT.to {K : PySem.W.Frag} {H : Hp} {a : Addr} {F : List V → Prop} (h : onT K H a F) : ∃ xs, SqT K H a xs ∧ F xs := by
  unfold onT at h
  split at h
  · exact ⟨_, .inl (.inl (by assumption)), h⟩
  · exact h.elim
theorem onT_of {K : PySem.W.Frag} {H : Hp} {a : Addr} {xs : List V} {F : List V → Prop} (h : H a = some (.tup xs)) : onT K H a F = F xs := by
  unfold onT; rw [h]
def onS (K : PySem.W.Frag) (H : Hp) (a : Addr) (F : List V → Prop) : Prop := match H a with
  | some (.tup xs) => F xs
  | _ => onL K H a F
theorem onS.to {K : PySem.W.Frag} {H : Hp} {a : Addr} {F : List V → Prop} (h : onS K H a F) : ∃ xs, (SqL K H a xs ∨ SqT K H a xs) ∧ F xs := by
  unfold onS at h
  split at h
  · exact ⟨_, .inr (.inl (.inl (by assumption))), h⟩
  · obtain ⟨xs, h1, h2⟩ := h.to
    exact ⟨xs, .inl h1, h2⟩
theorem onS_l {K : PySem.W.Frag} {H : Hp} {a : Addr} {xs : List V} {F : List V → Prop} (h : H a = some (.lst xs)) : onS K H a F = F xs := by
  unfold onS onL; rw [h]
theorem onS_t {K : PySem.W.Frag} {H : Hp} {a : Addr} {xs : List V} {F : List V → Prop} (h : H a = some (.tup xs)) : onS K H a F = F xs := by
  unfold onS; rw [h]

/-! ### operators by values -/
def opBin (op : Operator) (x y : V) (H : Hp) (Q : VK) : Prop := match op, x, y with
  | .Add, .int i, .int j => Q (.int (i + j)) H
  | .Add, .str s, .str t => s.length + t.length ≤ sizeLine ∧ Q (.str (s ++ t)) H
  | .Add, .ref a, .ref b => ∃ xs ys, H a = some (.lst xs) ∧ H b = some (.lst ys) ∧ xs.length + ys.length ≤ sizeLine ∧ alloc H (.lst (xs ++ ys)) Q
  | .Sub, .int i, .int j => Q (.int (i - j)) H
  | .Mult, .int i, .int j => CMulW i j ∧ Q (.int (i * j)) H
  | .Mult, .ref a, .int k => ∃ xs, H a = some (.lst xs) ∧ -(2 ^ 63) ≤ k ∧ k < 2 ^ 63 ∧ xs.length * k.toNat ≤ sizeLine ∧ alloc H (.lst (List.replicate k.toNat xs).flatten) Q
  | .FloorDiv, .int i, .int j => CDivW i j ∧ Q (.int (i / j)) H
  | .Mod, .int i, .int j => 0 < j ∧ Q (.int (i % j)) H
  | .Pow, .int i, .int j => (0 ≤ j ∧ (Builtin.Int.intBits i : Int) * j ≤ 2 ^ 27) ∧ Q (.int (i ^ j.toNat)) H
  | _, _, _ => False

def opIp (op : Operator) (x y : V) (H : Hp) (Q : VK) : Prop := match op, x, y with
  | .Add, .int i, .int j => Q (.int (i + j)) H
  | .Sub, .int i, .int j => Q (.int (i - j)) H
  | .Mult, .int i, .int j => (CMul i j ∧ Q (.int (i * j)) H)
  | .Add, .ref a, .ref b => ∃ xs ys, H a = some (.lst xs) ∧ H b = some (.lst ys) ∧ xs.length + ys.length ≤ sizeLine ∧ Q (.ref a) (upd H a (.lst (xs ++ ys)))
  | _, _, _ => False

/-- equality of things -/
def eqW (K : PySem.W.Frag) (neg : Bool) (x y : V) (H : Hp) (Q : VK) : Prop := match x, y with
  | .int i, .int j => Q (.bl (neg ^^ decide (i = j))) H
  | .bl i, .bl j => Q (.bl (neg ^^ decide (i = j))) H
  | .str i, .str j => Q (.bl (neg ^^ decide (i = j))) H
  | _, _ => ∃ d e, Dp K H x d ∧ Dp K H y e ∧ SeqAt.shaped d = true ∧ SeqAt.shaped e = true ∧ Q (.bl (neg ^^ PyData.eqv d e)) H

def opCmp (K : PySem.W.Frag) (op : CmpOp) (x y : V) (H : Hp) (Q : VK) : Prop := match op with
  | .Lt => match x, y with
    | .int i, .int j => Q (.bl (decide (i < j))) H
    | _, _ => False
  | .LtE => match x, y with
    | .int i, .int j => Q (.bl (decide (i ≤ j))) H
    | _, _ => False
  | .Gt => match x, y with
    | .int i, .int j => Q (.bl (decide (j < i))) H
    | _, _ => False
  | .GtE => match x, y with
    | .int i, .int j => Q (.bl (decide (j ≤ i))) H
    | _, _ => False
  | .Eq => eqW K false x y H Q
  | .NotEq => eqW K true x y H Q
  | .In => match y with
    | .ref p => onS K H p fun xs => flatV x = true ∧ xs.all flatV = true ∧ Q (.bl (inV x xs)) H
    | _ => False
  | .NotIn => match y with
    | .ref p => onS K H p fun xs => flatV x = true ∧ xs.all flatV = true ∧ Q (.bl (!inV x xs)) H
    | _ => False
  | .Is => y = .non ∧ Q (.bl (decide (x = .non))) H
  | .IsNot => y = .non ∧ Q (.bl (!decide (x = .non))) H

def idxW (K : PySem.W.Frag) (x y : V) (H : Hp) (Q : VK) : Prop := match x, y with
  | .ref p, .int i => onS K H p fun xs => ∃ v, atI xs i = some v ∧ Q v H
  | .str z, .int i => z.length ≤ sizeLine ∧ ∃ c, atI z.cps.toList i = some c ∧ Q (.str ⟨#[c]⟩) H
  | _, _ => False

def slW (K : PySem.W.Frag) (x : V) (lo hi : Option Int) (H : Hp) (Q : VK) : Prop := match x with
  | .ref p => onL K H p fun xs => alloc H (.lst (cutV xs lo hi)) Q
  | _ => False

def tyName (K : PySem.W.Frag) (H : Hp) : V → Option String
  | .non => some "NoneType"
  | .bl _ => some "bool"
  | .int _ => some "int"
  | .str _ => some "str"
  | .ref a => match H a with
    | some (.lst _) => some "list"
    | some (.tup _) => some "tuple"
    | some (.dK _) => some "dict"
    | some (.dT _) => some "dict"
    | _ => none
  | _ => none

def bltW (K : PySem.W.Frag) (f : Str) (xs : List V) (H : Hp) (Q : VK) : Prop :=
  if f = "len" then match xs with
    | [.ref p] => onS K H p fun ys => Q (.int ys.length) H
    | [.str z] => z.length ≤ sizeLine ∧ Q (.int z.length) H
    | _ => False
  else if f = "int" then match xs with
    | [.int i] => Q (.int i) H
    | [.bl b] => Q (.int (if b then 1 else 0)) H
    | _ => False
  else if f = "repr" then match xs with
    | [.ref a] => ∃ d : PyData, Dp K H (.ref a) d ∧ d.showable = true ∧ d.hasDict = false ∧ d.depth ≤ 60 ∧ d.shown.length ≤ sizeLine ∧ Q (.str d.shown) H
    | _ => False
  else if f = "list" then match xs with
    | [.ref p] => onS K H p fun ys => alloc H (.lst ys) Q
    | _ => False
  else if f = "sum" then match xs with
    | [.ref p] => onL K H p fun ys => ∃ ns : List Int, ys = ns.map V.int ∧ Q (.int ns.sum) H
    | _ => False
  else if f = "max" then match xs with
    | [.int i, .int j] => Q (.int (if j > i then j else i)) H
    | [.ref p] => onL K H p fun ys => ∃ ns : List Int, ys = ns.map V.int ∧ 0 < ns.length ∧ ∀ m, m ∈ ns → (∀ y, y ∈ ns → y ≤ m) → Q (.int m) H
    | _ => False
  else if f = "min" then match xs with
    | [.int i, .int j] => Q (.int (if j < i then j else i)) H
    | [.ref p] => onL K H p fun ys => ∃ ns : List Int, ys = ns.map V.int ∧ 0 < ns.length ∧ ∀ m, m ∈ ns → (∀ y, y ∈ ns → m ≤ y) → Q (.int m) H
    | _ => False
  else if f = "all" then match xs with
    | [.ref p] => onL K H p fun ys => ∃ bs : List Bool, ys = bs.map V.bl ∧ Q (.bl (bs.all id)) H
    | _ => False
  else if f = "sorted" then match xs with
    | [.ref p] => onL K H p fun ys => ∃ ns : List Int, ys = ns.map V.int ∧ ns.length < 64 ∧ ∀ ms : List Int, ms.Perm ns → ms.Pairwise (· ≤ ·) → alloc H (.lst (ms.map V.int)) Q
    | _ => False
  else False

def mthW (K : PySem.W.Frag) (m : Str) (x : V) (xs : List V) (H : Hp) (Q : VK) : Prop :=
  if m = "append" then match x, xs with
    | .ref l, [y] => ∃ ys, H l = some (.lst ys) ∧ ys.length < sizeLine ∧ Q .non (upd H l (.lst (ys ++ [y])))
    | _, _ => False
  else if m = "pop" then match x, xs with
    | .ref l, [] => ∃ ys y, H l = some (.lst ys) ∧ ys[ys.length - 1]? = some y ∧ Q y (upd H l (.lst ys.dropLast))
    | _, _ => False
  else if m = "clear" then match x, xs with
    | .ref l, [] => ∃ ys, H l = some (.lst ys) ∧ Q .non (upd H l (.lst []))
    | _, _ => False
  else if m = "index" then match x, xs with
    | .ref l, [y] => ∃ ys j z, H l = some (.lst ys) ∧ flatV y = true ∧ ys.all flatV = true ∧ ys[j]? = some z ∧ eqV z y = true ∧ (∀ m z', m < j → ys[m]? = some z' → eqV z' y = false) ∧ Q (.int (j : Nat)) H
    | _, _ => False
  else False

/-! ### what is walked -/
inductive Src where
  | lst (a : Addr) (xs : List V)
  | tup (a : Addr) (xs : List V)
  | rng (lo : Int) (c : Int) (n : Nat)
  | enm (a : Addr) (xs : List V)
  | zip (a b : Addr) (xs ys : List V)
def Src.len : Src → Nat
  | .lst _ xs => xs.length
  | .tup _ xs => xs.length
  | .rng _ _ n => n
  | .enm _ xs => xs.length
  | .zip _ _ xs ys => min xs.length ys.length
def Src.ok (K : PySem.W.Frag) (H : Hp) : Src → Prop
  | .lst a xs => SqL K H a xs
  | .tup a xs => SqT K H a xs
  | .rng _ _ _ => True
  | .enm a xs => SqL K H a xs
  | .zip a b xs ys => SqL K H a xs ∧ SqL K H b ys
/-- the values that the target gets at turn i -/
def setAll (σ : L2.St) : List Nat → List V → L2.St
  | j :: js, v :: vs => setAll (σ.set j (some v)) js vs
  | _, _ => σ
def Src.step (K : PySem.W.Frag) (tg : Tg) (i : Nat) (σ : L2.St) (H : Hp) (Q : L2.St → Hp → Prop) : Src → Prop
  | .lst _ xs => match tg with
    | .name j => ∃ x, xs[i]? = some x ∧ Q (σ.set j (some x)) H
    | .tup js => ∃ p, xs[i]? = some (.ref p) ∧ onT K H p fun ys => ys.length = js.length ∧ Q (setAll σ js ys) H
  | .tup _ xs => match tg with
    | .name j => ∃ x, xs[i]? = some x ∧ Q (σ.set j (some x)) H
    | .tup js => ∃ p, xs[i]? = some (.ref p) ∧ onT K H p fun ys => ys.length = js.length ∧ Q (setAll σ js ys) H
  | .rng lo c _ => match tg with
    | .name j => Q (σ.set j (some (.int (lo + (i : Nat) * c)))) H
    | .tup _ => False
  | .enm _ xs => match tg with
    | .tup [j, k] => ∃ x, xs[i]? = some x ∧ ∀ H1, Same H H1 → Q ((σ.set j (some (.int (i : Nat)))).set k (some x)) H1
    | _ => False
  | .zip _ _ xs ys => match tg with
    | .tup [j, k] => ∃ x y, xs[i]? = some x ∧ ys[i]? = some y ∧ ∀ H1, Same H H1 → Q ((σ.set j (some x)).set k (some y)) H1
    | _ => False

/-- a loop over it, by what holds ahead of turn i -/
def forW (K : PySem.W.Frag) (s : Src) (tg : Tg) (tb : TS) (D : Ends) (σ : L2.St) (H : Hp) : Prop :=
  ∃ W : Nat → L2.St → Hp → Prop, W 0 σ H ∧
    (∀ i σ H, i < s.len → W i σ H → s.ok K H ∧ s.step K tg i σ H fun σ2 H2 => tb { nx := W (i + 1), ct := W (i + 1), bk := D.nx, rt := D.rt } σ2 H2) ∧
    ∀ σ H, W s.len σ H → s.ok K H ∧ D.nx σ H
/-- a comprehension over it, its list at d -/
def lcW (K : PySem.W.Frag) (s : Src) (tg : Tg) (tt : TT) (te : TE) (σ : L2.St) (d : Addr) (Q : VK) (H : Hp) : Prop :=
  ∃ W : Nat → Hp → Prop, W 0 H ∧
    (∀ i H, i < s.len → W i H → s.ok K H ∧ s.step K tg i σ H fun σ2 H2 => tt σ2 H2 fun b H3 =>
      if b = true then te σ2 H3 fun y H4 => ∃ acc, H4 d = some (.lst acc) ∧ acc.length < sizeLine ∧ W (i + 1) (upd H4 d (.lst (acc ++ [y]))) else W (i + 1) H3) ∧
    ∀ H, W s.len H → s.ok K H ∧ Q (.ref d) H
/-- a while, by what holds ahead of a turn, and a number that falls -/
def whileW (c : TT) (tb : TS) (D : Ends) (σ : L2.St) (H : Hp) : Prop :=
  ∃ W : Nat → L2.St → Hp → Prop, (∃ m, W m σ H) ∧
    ∀ m σ H, W m σ H → c σ H fun b H1 => if b = true then tb { nx := fun σ' H' => ∃ m', m' < m ∧ W m' σ' H', ct := fun σ' H' => ∃ m', m' < m ∧ W m' σ' H', bk := D.nx, rt := D.rt } σ H1 else D.nx σ H1

/-- the arguments in the parameters' order -/
def arrange (ps ks : List Str) {α : Type} (dflt : α) (vs zs : List α) : List α :=
  if ks.isEmpty then vs else vs ++ (ps.drop vs.length).map fun p => ((ks.zip zs).lookup p).getD dflt

/-- a new list of new pairs -/
def lzpW (H1 : Hp) (xs ys : List V) (Q : VK) : Prop := ∀ (r : Addr) (ts : List Addr) (H2 : Hp), H1 r = none → Same H1 H2 → ts.length = min xs.length ys.length → ts.Nodup → r ∉ ts → (∀ t, t ∈ ts → H1 t = none) → H2 r = some (.lst (ts.map V.ref)) →
    (∀ (j : Nat) (t : Addr) (x y : V), ts[j]? = some t → xs[j]? = some x → ys[j]? = some y → H2 t = some (.tup [x, y])) → Q (.ref r) H2
/-- what the wp hangs on: the written part, the promises of the defs, their parameters, constants -/
structure Cn where
  K : PySem.W.Frag
  G : Str → Sp
  ps : Str → List Str
  cs : Str → Option V

def rngW (vs : List V) (Q : Int → Int → Nat → Prop) : Prop := match vs with
  | [.int j] => -(2 ^ 62) ≤ j ∧ j < 2 ^ 62 ∧ Q 0 1 j.toNat
  | [.int i, .int j] => (-(2 ^ 62) ≤ i ∧ i < 2 ^ 62 ∧ -(2 ^ 62) ≤ j ∧ j < 2 ^ 62) ∧ Q i 1 (j - i).toNat
  | [.int i, .int j, .int c] => c = -1 ∧ (-(2 ^ 62) ≤ i ∧ i < 2 ^ 62 ∧ -(2 ^ 62) ≤ j ∧ j < 2 ^ 62) ∧ Q i (-1) (i - j).toNat
  | _ => False

mutual
def wpE (c : Cn) (E : XK) : Ex → TE
  | .var i => fun σ H Q => match σ[i]? with
    | some (some v) => Q v H
    | _ => False
  | .con k => fun _ H Q => match conV k with
    | some v => Q v H
    | none => False
  | .glb x => fun _ H Q => match c.cs x with
    | some v => Q v H
    | none => False
  | .bin op a b => fun σ H Q => wpE c E a σ H fun x H1 => wpE c E b σ H1 fun y H2 => opBin op x y H2 Q
  | .neg a => fun σ H Q => wpE c E a σ H fun x H1 => match x with
    | .int i => Q (.int (-i)) H1
    | _ => False
  | .cmp op a b => fun σ H Q => wpE c E a σ H fun x H1 => wpE c E b σ H1 fun y H2 => opCmp c.K op x y H2 Q
  | .chn o p a b d => fun σ H Q => wpE c E a σ H fun x H1 => wpE c E b σ H1 fun y H2 => opCmp c.K o x y H2 fun z H3 => match z with
    | .bl true => wpE c E d σ H3 fun w H4 => opCmp c.K p y w H4 Q
    | .bl false => Q (.bl false) H3
    | _ => False
  | .and a b => fun σ H Q => wpE c E a σ H fun x H1 => match x with
    | .bl true => wpE c E b σ H1 Q
    | .bl false => Q (.bl false) H1
    | _ => False
  | .or a b => fun σ H Q => wpE c E a σ H fun x H1 => match x with
    | .bl false => wpE c E b σ H1 Q
    | .bl true => Q (.bl true) H1
    | _ => False
  | .not a => fun σ H Q => wpE c E a σ H fun x H1 => match x with
    | .bl b => Q (.bl (!b)) H1
    | _ => False
  | .ite t a b => fun σ H Q => wpT c E t σ H fun k H1 => if k = true then wpE c E a σ H1 Q else wpE c E b σ H1 Q
  | .tup es => fun σ H Q => wpEs c E es σ H fun xs H1 => xs.length ≤ sizeLine ∧ alloc H1 (.tup xs) Q
  | .lst es => fun σ H Q => wpEs c E es σ H fun xs H1 => xs.length ≤ sizeLine ∧ alloc H1 (.lst xs) Q
  | .idx a i => fun σ H Q => wpE c E a σ H fun x H1 => wpE c E i σ H1 fun y H2 => idxW c.K x y H2 Q
  | .sl2 a lo hi => fun σ H Q => wpE c E a σ H fun x H1 => wpE c E lo σ H1 fun y H2 => match y with
    | .int i => wpE c E hi σ H2 fun z H3 => match z with
      | .int j => slW c.K x (some i) (some j) H3 Q
      | _ => False
    | _ => False
  | .sl1 a lo => fun σ H Q => wpE c E a σ H fun x H1 => wpE c E lo σ H1 fun y H2 => match y with
    | .int i => slW c.K x (some i) none H2 Q
    | _ => False
  | .sl0 a hi => fun σ H Q => wpE c E a σ H fun x H1 => wpE c E hi σ H1 fun y H2 => match y with
    | .int j => slW c.K x none (some j) H2 Q
    | _ => False
  | .rev a => fun σ H Q => wpE c E a σ H fun x H1 => match x with
    | .ref p => onL c.K H1 p fun xs => alloc H1 (.lst xs.reverse) Q
    | _ => False
  | .call f es ks kes => fun σ H Q => wpEs c E es σ H fun vs H1 => wpEs c E kes σ H1 fun zs H2 => vs.length = es.len ∧ zs.length = ks.length ∧ c.G f (arrange (c.ps f) ks V.non vs zs) H2 Q E
  | .blt f es => fun σ H Q => wpEs c E es σ H fun vs H1 => bltW c.K f vs H1 Q
  | .isi a t => fun σ H Q => wpE c E a σ H fun x H1 => ∃ n b, tyName c.K H1 x = some n ∧ kitB n t.toString = some b ∧ Q (.bl b) H1
  | .lrg es => fun σ H Q => wpEs c E es σ H fun vs H1 => match vs with
    | [.int j] => RgOk 0 j ∧ alloc H1 (.lst (rgV 0 j)) Q
    | [.int i, .int j] => RgOk i j ∧ alloc H1 (.lst (rgV i j)) Q
    | _ => False
  | .lzp a b => fun σ H Q => wpE c E a σ H fun x H1 => wpE c E b σ H1 fun y H2 => match x, y with
    | .ref a, .ref b => onL c.K H2 a fun xs => onL c.K H2 b fun ys => lzpW H2 xs ys Q
    | _, _ => False
  | .mth m o es => fun σ H Q => wpE c E o σ H fun x H1 => match x with
    | .ref a => match H1 a with
      | some (.lst _) => wpEs c E es σ H1 fun vs H2 => mthW c.K m x vs H2 Q
      | _ => False
    | _ => False
  | .comp e tg it cs own => fun σ H Q => wpI c E it σ H fun s H1 => ∀ d, H1 d = none →
      lcW c.K s tg (wpTs c cs) (wpE c E0 e) (wipe σ (own.map (·.2))) d Q (upd H1 d (.lst []))
def wpEs (c : Cn) (E : XK) : Exs → TA
  | .nil => fun _ H Q => Q [] H
  | .cons e es => fun σ H Q => wpE c E e σ H fun x H1 => wpEs c E es σ H1 fun xs H2 => Q (x :: xs) H2
def wpT (c : Cn) (E : XK) : Ts → TT
  | .val e => fun σ H Q => wpE c E e σ H fun x H1 => match x with
    | .bl b => Q b H1
    | _ => False
  | .cmp op a b => fun σ H Q => wpE c E a σ H fun x H1 => wpE c E b σ H1 fun y H2 => opCmp c.K op x y H2 fun z H3 => match z with
    | .bl k => Q k H3
    | _ => False
  | .chn o p a b d => fun σ H Q => wpE c E a σ H fun x H1 => wpE c E b σ H1 fun y H2 => opCmp c.K o x y H2 fun z H3 => match z with
    | .bl true => wpE c E d σ H3 fun w H4 => opCmp c.K p y w H4 fun z H5 => match z with
      | .bl k => Q k H5
      | _ => False
    | .bl false => Q false H3
    | _ => False
  | .not a => fun σ H Q => wpT c E a σ H fun b H1 => Q (!b) H1
  | .and a b => fun σ H Q => wpT c E a σ H fun k H1 => if k = true then wpT c E b σ H1 Q else Q false H1
  | .or a b => fun σ H Q => wpT c E a σ H fun k H1 => if k = true then Q true H1 else wpT c E b σ H1 Q
def wpTs (c : Cn) : Cd → TT
  | .no => fun _ H Q => Q true H
  | .one t => wpT c E0 t
def wpI (c : Cn) (E : XK) : Ir → L2.St → Hp → (Src → Hp → Prop) → Prop
  | .seq e => fun σ H R => wpE c E e σ H fun x H1 => match x with
    | .ref a => onL c.K H1 a fun xs => R (.lst a xs) H1
    | _ => False
  | .rng es => fun σ H R => wpEs c E es σ H fun vs H1 => rngW vs fun lo st n => R (.rng lo st n) H1
  | .enm e => fun σ H R => wpE c E e σ H fun x H1 => match x with
    | .ref a => onL c.K H1 a fun xs => R (.enm a xs) H1
    | _ => False
  | .zip e1 e2 => fun σ H R => wpE c E e1 σ H fun x H1 => wpE c E e2 σ H1 fun y H2 => match x, y with
    | .ref a, .ref b => onL c.K H2 a fun xs => onL c.K H2 b fun ys => R (.zip a b xs ys) H2
    | _, _ => False
end

mutual
def wpS (c : Cn) (E : XK) : Sm → TS
  | .expr e => fun D σ H => wpE c E e σ H fun _ H1 => D.nx σ H1
  | .ret e => fun D σ H => wpE c E e σ H D.rt
  | .retN => fun D _ H => D.rt .non H
  | .asg i e => fun D σ H => wpE c E e σ H fun x H1 => D.nx (σ.set i (some x)) H1
  | .unp is e => fun D σ H => wpE c E e σ H fun x H1 => match x with
    | .ref a => onT c.K H1 a fun xs => xs.length = is.length ∧ D.nx (setAll σ is xs) H1
    | _ => False
  | .par is es => fun D σ H => wpEs c E es σ H fun xs H1 => xs.length = is.length ∧ D.nx (setAll σ is xs) H1
  | .setI o i e => fun D σ H => wpE c E e σ H fun v H1 => wpE c E o σ H1 fun x H2 => wpE c E i σ H2 fun y H3 => match x, y with
    | .ref p, .int k => ∃ xs j, H3 p = some (.lst xs) ∧ ixN xs.length k = some j ∧ D.nx σ (upd H3 p (.lst (xs.set j v)))
    | _, _ => False
  | .aug i op e => fun D σ H => match σ[i]? with
    | some (some x) => wpE c E e σ H fun y H1 => opIp op x y H1 fun z H2 => D.nx (σ.set i (some z)) H2
    | _ => False
  | .augI o i op e => fun D σ H => wpE c E o σ H fun x H1 => wpE c E i σ H1 fun y H2 => match x, y with
    | .ref p, .int k => ∃ xs u, H2 p = some (.lst xs) ∧ 0 ≤ k ∧ xs[k.toNat]? = some u ∧ wpE c E e σ H2 fun w H3 => opIp op u w H3 fun z H4 =>
        ∃ ys, H4 p = some (.lst ys) ∧ k < ys.length ∧ D.nx σ (upd H4 p (.lst (ys.set k.toNat z)))
    | _, _ => False
  | .ife t a b => fun D σ H => wpT c E t σ H fun k H1 => if k = true then wpSs c E a D σ H1 else wpSs c E b D σ H1
  | .forI tg it b => fun D σ H => wpI c E it σ H fun s H1 => forW c.K s tg (wpSs c E b) D σ H1
  | .whl t b => fun D σ H => whileW (wpT c E t) (wpSs c E b) D σ H
  | .pass => fun D σ H => D.nx σ H
  | .brk => fun D σ H => D.bk σ H
  | .cont => fun D σ H => D.ct σ H
  | .never => fun _ _ _ => False
def wpSs (c : Cn) (E : XK) : Ss → TS
  | .nil => fun D σ H => D.nx σ H
  | .cons s r => fun D σ H => wpS c E s { D with nx := wpSs c E r D } σ H
end

/-- what a table's defs promise, k calls deep -/
def SPn (T : Tab) (K : PySem.W.Frag) : Nat → Str → Sp
  | 0, _ => fun _ _ _ _ => False
  | k + 1, x => fun vs H Q E => match T.fns.lookup x with
    | none => False
    | some F => vs.length = F.ps.length ∧ wpSs ⟨K, SPn T K k, fun f => ((T.fns.lookup f).map (·.ps)).getD [], fun y => T.cons.lookup y⟩ E F.body { nx := fun _ H' => Q .non H', rt := Q } (start F.N vs) H
/-- a call's way is one of the def's -/
def Tab.way (T : Tab) (x : Str) (n : Nat) (ks : List Str) : Bool := match T.fns.lookup x with
  | some F => (ks.isEmpty && n == F.ps.length) || T.kp.contains (x, n, ks)
  | none => false
def cnOf (T : Tab) (K : PySem.W.Frag) (k : Nat) : Cn := ⟨K, SPn T K k, fun f => ((T.fns.lookup f).map (·.ps)).getD [], fun y => T.cons.lookup y⟩

example (c : Cn) (E : XK) : wpE c E (.bin .Add (.var 0) (.con (.int 1))) = fun σ H Q => (match σ[0]? with
    | some (some v) => opBin .Add v (.int 1) H Q
    | _ => False) := rfl
end VC

/-! VC, part 3: the operators by values are the model's. -/
namespace VC
open PySem PySem.Spec PyProof.Rows L2

section
variable {X : Cx}
theorem PE.imp {e : Expr} {t t' : TE} (h : PE X e t) (i : ∀ σ H Q, t' σ H Q → t σ H Q) : PE X e t' := ⟨fun pins s σ H Q I q => h.run pins s σ H Q I (i _ _ _ q)⟩
theorem PT.imp {e : Expr} {t t' : TT} (h : PT X e t) (i : ∀ σ H Q, t' σ H Q → t σ H Q) : PT X e t' := ⟨fun pins s σ H Q I q => h.run pins s σ H Q I (i _ _ _ q)⟩
theorem PW.imp {e : Expr} {t t' : TT} (h : PW X e t) (i : ∀ σ H Q, t' σ H Q → t σ H Q) : PW X e t' := ⟨fun wh pins s σ H Q I q => h.run wh pins s σ H Q I (i _ _ _ q)⟩
theorem PA.imp {e : List Expr} {t t' : TA} (h : PA X e t) (i : ∀ σ H Q, t' σ H Q → t σ H Q) : PA X e t' := ⟨fun pos pins s σ H Q I q => h.run pos pins s σ H Q I (i _ _ _ q)⟩
theorem PS.imp {e : Stmt} {t t' : TS} (h : PS X e t) (i : ∀ D σ H, t' D σ H → t D σ H) : PS X e t' := ⟨fun pins s σ H Q I q => h.run pins s σ H Q I (i _ _ _ q)⟩

theorem opBin_ok {op : Operator} : OpR X (binaryOp op) (opBin op) := by
  intro pins s σ H x y v u Q I rx ry h
  unfold opBin at h
  split at h
  · exact op_add pins s σ H _ _ v u Q I rx ry ⟨_, _, rfl, rfl, h⟩
  · exact op_add_str pins s σ H _ _ v u Q I rx ry ⟨_, _, rfl, rfl, h⟩
  · obtain ⟨xs, ys, h1, h2, h3, h4⟩ := h
    exact op_cat pins s σ H _ _ v u Q I rx ry ⟨_, _, xs, ys, rfl, rfl, h1, h2, h3, h4.at_⟩
  · exact op_sub pins s σ H _ _ v u Q I rx ry ⟨_, _, rfl, rfl, h⟩
  · exact op_mulW pins s σ H _ _ v u Q I rx ry ⟨_, _, rfl, rfl, h⟩
  · obtain ⟨xs, h1, h2, h3, h4, h5⟩ := h
    exact op_rep pins s σ H _ _ v u Q I rx ry ⟨_, _, xs, rfl, rfl, h1, h2, h3, h4, h5.at_⟩
  · exact op_fdivW pins s σ H _ _ v u Q I rx ry ⟨_, _, rfl, rfl, h⟩
  · exact op_mod pins s σ H _ _ v u Q I rx ry ⟨_, _, rfl, rfl, h⟩
  · exact op_powW pins s σ H _ _ v u Q I rx ry ⟨_, _, rfl, rfl, h⟩
  · exact h.elim

theorem opIp_ok {op : Operator} : OpR X (inplaceOp op) (opIp op) := by
  intro pins s σ H x y v u Q I rx ry h
  unfold opIp at h
  split at h
  · exact iop_add pins s σ H _ _ v u Q I rx ry ⟨_, _, rfl, rfl, h⟩
  · exact iop_sub pins s σ H _ _ v u Q I rx ry ⟨_, _, rfl, rfl, h⟩
  · exact iop_mul pins s σ H _ _ v u Q I rx ry ⟨_, _, rfl, rfl, h⟩
  · obtain ⟨xs, ys, h1, h2, h3, h4⟩ := h
    exact iop_ext pins s σ H _ _ v u Q I rx ry ⟨_, _, xs, ys, rfl, rfl, h1, h2, h3, h4⟩
  · exact h.elim

theorem decV {α : Type} [DecidableEq α] {f : α → V} (hf : ∀ a b, f a = f b → a = b) (a b : α) : decide (f a = f b) = decide (a = b) := by
  by_cases e : a = b
  · subst e; simp
  · rw [decide_eq_false e, decide_eq_false fun q => e (hf _ _ q)]

theorem eqW_ok (hu : X.A.units + 64 < cLine) : OpR X (compareOp .Eq) (eqW X.K false) := by
  intro pins s σ H x y v u Q I rx ry h
  unfold eqW at h
  split at h
  · refine op_eq pins s σ H _ _ v u Q I rx ry ⟨rfl, ?_⟩
    rw [decV (f := V.int) (fun a b e => by cases e; rfl)]
    simpa using h
  · refine op_eq pins s σ H _ _ v u Q I rx ry ⟨rfl, ?_⟩
    rw [decV (f := V.bl) (fun a b e => by cases e; rfl)]
    simpa using h
  · refine op_eq pins s σ H _ _ v u Q I rx ry ⟨rfl, ?_⟩
    rw [decV (f := V.str) (fun a b e => by cases e; rfl)]
    simpa using h
  · obtain ⟨d, e, h1, h2, h3, h4, h5⟩ := h
    exact op_eqD hu pins s σ H _ _ v u Q I rx ry ⟨d, e, h1, h2, h3, h4, by simpa using h5⟩
theorem neW_ok (hu : X.A.units + 64 < cLine) : OpR X (compareOp .NotEq) (eqW X.K true) := by
  intro pins s σ H x y v u Q I rx ry h
  unfold eqW at h
  split at h
  · refine op_ne pins s σ H _ _ v u Q I rx ry ⟨rfl, ?_⟩
    rw [decV (f := V.int) (fun a b e => by cases e; rfl)]
    simpa using h
  · refine op_ne pins s σ H _ _ v u Q I rx ry ⟨rfl, ?_⟩
    rw [decV (f := V.bl) (fun a b e => by cases e; rfl)]
    simpa using h
  · refine op_ne pins s σ H _ _ v u Q I rx ry ⟨rfl, ?_⟩
    rw [decV (f := V.str) (fun a b e => by cases e; rfl)]
    simpa using h
  · obtain ⟨d, e, h1, h2, h3, h4, h5⟩ := h
    exact op_neD hu pins s σ H _ _ v u Q I rx ry ⟨d, e, h1, h2, h3, h4, by simpa using h5⟩

theorem opCmp_ok (hu : X.A.units + 64 < cLine) {op : CmpOp} : OpR X (compareOp op) (opCmp X.K op) := by
  intro pins s σ H x y v u Q I rx ry h
  unfold opCmp at h
  split at h
  · split at h
    · exact op_lt pins s σ H _ _ v u Q I rx ry ⟨_, _, rfl, rfl, h⟩
    · exact h.elim
  · split at h
    · exact op_le pins s σ H _ _ v u Q I rx ry ⟨_, _, rfl, rfl, h⟩
    · exact h.elim
  · split at h
    · exact op_gt pins s σ H _ _ v u Q I rx ry ⟨_, _, rfl, rfl, h⟩
    · exact h.elim
  · split at h
    · exact op_ge pins s σ H _ _ v u Q I rx ry ⟨_, _, rfl, rfl, h⟩
    · exact h.elim
  · exact eqW_ok hu pins s σ H _ _ v u Q I rx ry h
  · exact neW_ok hu pins s σ H _ _ v u Q I rx ry h
  · split at h
    · obtain ⟨xs, h1, h2, h3, h4⟩ := h.to
      exact op_in_seq pins s σ H _ _ v u Q I rx ry ⟨_, xs, rfl, h1, h2, h3, h4⟩
    · exact h.elim
  · split at h
    · obtain ⟨xs, h1, h2, h3, h4⟩ := h.to
      exact op_notIn_seq pins s σ H _ _ v u Q I rx ry ⟨_, xs, rfl, h1, h2, h3, h4⟩
    · exact h.elim
  · exact op_isN pins s σ H _ _ v u Q I rx ry h
  · exact op_notN pins s σ H _ _ v u Q I rx ry h

theorem idxW_ok : IxR X (idxW X.K) := by
  intro value slice pins s σ H x y v u Q I rx ry h hs
  unfold idxW at h
  split at h
  · obtain ⟨xs, h1, w, h2, h3⟩ := h.to
    rcases h1 with h1 | h1
    · exact ix_list value slice pins s σ H _ _ v u Q I rx ry ⟨_, xs, _, w, rfl, rfl, h1, h2, h3⟩ hs
    · exact ix_tup value slice pins s σ H _ _ v u Q I rx ry ⟨_, xs, _, w, rfl, rfl, h1, h2, h3⟩ hs
  · obtain ⟨h1, c, h2, h3⟩ := h
    exact ix_str value slice pins s σ H _ _ v u Q I rx ry ⟨_, _, c, rfl, rfl, h1, h2, h3⟩ hs
  · exact h.elim

theorem slW_ok : SlR X (slW X.K) := by
  intro pins s σ H x v vl vu lo hi sl Q I rx h1 h2 h3 h
  unfold slW at h
  split at h
  · obtain ⟨xs, q1, q2⟩ := h.to
    exact sl_list pins s σ H _ v vl vu lo hi sl Q I rx h1 h2 h3 ⟨_, xs, rfl, q1, q2.at_⟩
  · exact h.elim

/-- the built-in behind a name -/
def bltV (f : Str) : Value :=
  if f = "len" then .builtin "len" else if f = "int" then .type "int" else if f = "repr" then .builtin "repr" else if f = "list" then .type "list"
  else if f = "sum" then .builtin "sum" else if f = "max" then .builtin "max" else if f = "min" then .builtin "min" else if f = "all" then .builtin "all"
  else if f = "sorted" then .builtin "sorted" else .none

theorem bltW_ok (hc : X.calm = true) (hgu : X.A.guards = some []) (hu : X.A.units + 64 < cLine) (f : Str) : CallR X (bltV f) (bltW X.K f) := by
  intro pins s σ H xs us Q I r h
  unfold bltW at h
  unfold bltV
  split at h
  · rename_i e; rw [if_pos e]
    split at h
    · obtain ⟨ys, h1, h2⟩ := h.to
      exact call_len_seq pins s σ H _ us Q I r ⟨_, ys, rfl, h1, h2⟩
    · exact call_len_str pins s σ H _ us Q I r ⟨_, rfl, h⟩
    · exact h.elim
  rename_i e; rw [if_neg e]
  split at h
  · rename_i e; rw [if_pos e]
    split at h
    · exact call_int1 pins s σ H _ us Q I r (.inl ⟨_, rfl, h⟩)
    · exact call_int1 pins s σ H _ us Q I r (.inr ⟨_, rfl, h⟩)
    · exact h.elim
  rename_i e; rw [if_neg e]
  split at h
  · rename_i e; rw [if_pos e]
    split at h
    · obtain ⟨d, h1, h2, h3, h4, h5, h6⟩ := h
      exact call_reprD hgu hu pins s σ H _ us Q I r ⟨_, d, rfl, h1, h2, h3, h4, h5, h6⟩
    · exact h.elim
  rename_i e; rw [if_neg e]
  split at h
  · rename_i e; rw [if_pos e]
    split at h
    · obtain ⟨ys, h1, h2⟩ := h.to
      exact call_list_of pins s σ H _ us Q I r ⟨_, ys, rfl, h1, h2.at_⟩
    · exact h.elim
  rename_i e; rw [if_neg e]
  split at h
  · rename_i e; rw [if_pos e]
    split at h
    · obtain ⟨ys, h1, ns, rfl, h2⟩ := h.to
      exact cr_sum hc pins s σ H _ us Q I r ⟨_, ns, rfl, h1, h2⟩
    · exact h.elim
  rename_i e; rw [if_neg e]
  split at h
  · rename_i e; rw [if_pos e]
    split at h
    · exact call_max2 hc pins s σ H _ us Q I r ⟨_, _, rfl, h⟩
    · obtain ⟨ys, h1, ns, rfl, h2⟩ := h.to
      exact cr_max hc pins s σ H _ us Q I r ⟨_, ns, rfl, h1, h2⟩
    · exact h.elim
  rename_i e; rw [if_neg e]
  split at h
  · rename_i e; rw [if_pos e]
    split at h
    · exact call_min2 hc pins s σ H _ us Q I r ⟨_, _, rfl, h⟩
    · obtain ⟨ys, h1, ns, rfl, h2⟩ := h.to
      exact cr_min hc pins s σ H _ us Q I r ⟨_, ns, rfl, h1, h2⟩
    · exact h.elim
  rename_i e; rw [if_neg e]
  split at h
  · rename_i e; rw [if_pos e]
    split at h
    · obtain ⟨ys, h1, ns, rfl, h2⟩ := h.to
      exact cr_all hc pins s σ H _ us Q I r ⟨_, ns, rfl, h1, h2⟩
    · exact h.elim
  rename_i e; rw [if_neg e]
  split at h
  · rename_i e; rw [if_pos e]
    split at h
    · obtain ⟨ys, h1, ns, rfl, h2, h3⟩ := h.to
      refine cr_sorted pins s σ H _ us Q I r ⟨_, ns, rfl, h1, h2, ?_⟩
      intro ms p hp hs hn
      exact (h3 ms hp hs).at_ p hn
    · exact h.elim
  · exact h.elim

def mthT (m : Str) : String × String := if m = "append" then ("list", "list.append") else if m = "pop" then ("list", "list.pop") else if m = "clear" then ("list", "list.clear") else if m = "index" then ("list", "list.index") else ("", "")

theorem mthW_ok (m : Str) : MtR X (mthT m).2 (mthW X.K m) := by
  intro pins s σ H x xs v us Q I rx r h
  unfold mthW at h
  unfold mthT
  split at h
  · rename_i e; rw [if_pos e]
    split at h
    · obtain ⟨ys, h1, h2, h3⟩ := h
      exact mt_append pins s σ H _ _ v us Q I rx r ⟨_, ys, _, rfl, rfl, h1, h2, h3⟩
    · exact h.elim
  rename_i e; rw [if_neg e]
  split at h
  · rename_i e; rw [if_pos e]
    split at h
    · obtain ⟨ys, y, h1, h2, h3⟩ := h
      exact mt_pop pins s σ H _ _ v us Q I rx r ⟨_, ys, y, rfl, rfl, h1, h2, h3⟩
    · exact h.elim
  rename_i e; rw [if_neg e]
  split at h
  · rename_i e; rw [if_pos e]
    split at h
    · obtain ⟨ys, h1, h3⟩ := h
      exact mt_clear pins s σ H _ _ v us Q I rx r ⟨_, ys, rfl, rfl, h1, h3⟩
    · exact h.elim
  rename_i e; rw [if_neg e]
  split at h
  · rename_i e; rw [if_pos e]
    split at h
    · obtain ⟨ys, j, z, h1, h2, h3, h4, h5, h6, h7⟩ := h
      exact mt_index pins s σ H _ _ v us Q I rx r ⟨_, ys, _, j, z, rfl, rfl, .inl (.inl h1), h2, h3, h4, h5, h6, h7⟩
    · exact h.elim
  · exact h.elim
theorem mthW_ty {m : Str} {x : V} {xs : List V} {H : Hp} {Q : VK} (h : mthW X.K m x xs H Q) : tyV X.K "list" x H := by
  unfold mthW at h
  repeat' split at h
  all_goals first | exact h.elim | (obtain ⟨ys, h1, _⟩ := h; exact .inl ⟨rfl, _, .inl (.inl h1)⟩) | (obtain ⟨ys, y, h1, _⟩ := h; exact .inl ⟨rfl, _, .inl (.inl h1)⟩) | (obtain ⟨ys, y, z, h1, _⟩ := h; exact .inl ⟨rfl, _, .inl (.inl h1)⟩)

/-- o[i] op= e on a list: the read -/
theorem get_list : PGet X (fun o i H Q => ∃ p xs k j v, o = .ref p ∧ i = .int k ∧ H p = some (.lst xs) ∧ 0 ≤ k ∧ k.toNat = j ∧ xs[j]? = some v ∧ Q v H) := by
  intro pins s σ H o i ov iv Q I ro ri h
  obtain ⟨p, xs, k, j, v, rfl, rfl, hp, h0, rfl, hv, q⟩ := h
  cases ro
  obtain ⟨t, rfl⟩ := ri
  obtain ⟨its, r, pl, hz⟩ := I.list (xs := xs) (.inl (.inl hp))
  obtain ⟨w, ew, rw'⟩ := r.get hv
  have hlt : k.toNat < xs.length := (List.getElem?_eq_some_iff.mp hv).1
  have hn := line63
  exact wpAny_getItem_list pl.isList h0 (by omega) (by simpa using ew) ⟨v, H, I, rw', q⟩
end
end VC

/-! VC, part 4: a tree is that of a text; the walk of what is walked. -/
namespace VC
open PySem PySem.Spec PyProof.Rows L2

def visB (sc : Scope) (x : Str) : Bool := match sc.names.lookup x with
  | some .local => true
  | some .cell => true
  | some .free => true
  | _ => false
theorem visB_ok {sc : Scope} {x : Str} (h : visB sc x = true) : Vis sc x := by
  unfold visB at h
  split at h
  · exact .inl (by assumption)
  · exact .inr (.inl (by assumption))
  · exact .inr (.inr (by assumption))
  · cases h
def locB (sc : Scope) (x : Str) : Bool := match sc.names.lookup x with
  | some .local => true
  | some .cell => true
  | _ => false
theorem locB_ok {sc : Scope} {x : Str} (h : locB sc x = true) : L2.Loc sc x := by
  unfold locB at h
  split at h
  · exact .inl (by assumption)
  · exact .inr (by assumption)
  · cases h
def localB (sc : Scope) (x : Str) : Bool := match sc.names.lookup x with
  | some .local => true
  | _ => false
theorem localB_ok {sc : Scope} {x : Str} (h : localB sc x = true) : sc.names.lookup x = some .local := by
  unfold localB at h
  split at h
  · assumption
  · cases h
def glB (sc : Scope) (x : Str) : Bool := (match sc.names.lookup x with
  | some .globalImplicit => true
  | _ => false) && !(x == ("__debug__" : Str)) && !(x == ("__name__" : Str))
theorem glB_ok {sc : Scope} {x : Str} (h : glB sc x = true) : sc.names.lookup x = some .globalImplicit ∧ (x == ("__debug__" : Str)) = false ∧ x ≠ "__name__" := by
  unfold glB at h
  simp only [Bool.and_eq_true, Bool.not_eq_true'] at h
  obtain ⟨⟨h1, h2⟩, h3⟩ := h
  refine ⟨?_, h2, fun e => ?_⟩
  · split at h1
    · assumption
    · cases h1
  · rw [e] at h3; simp at h3

def conEq : Const → Const → Bool
  | .none, .none => true
  | .bool a, .bool b => a == b
  | .int a, .int b => a == b
  | .str a, .str b => a == b
  | _, _ => false
theorem conEq_ok {a b : Const} (h : conEq a b = true) : a = b ∧ (conV b).isSome = true := by
  unfold conEq at h
  split at h
  · exact ⟨rfl, rfl⟩
  · exact ⟨by rw [eq_of_beq h], rfl⟩
  · exact ⟨by rw [eq_of_beq h], rfl⟩
  · exact ⟨by rw [eq_of_beq h], rfl⟩
  · cases h

/-- names of built-ins that a tree may use -/
def bltNames : List Str := ["len", "int", "repr", "list", "sum", "max", "min", "all", "sorted", "range", "enumerate", "zip", "isinstance", "bool", "tuple", "str", "dict"]
def bltF (f : Str) : Bool := (["len", "int", "repr", "list", "sum", "max", "min", "all", "sorted"] : List Str).contains f

def noSet : Expr → Bool
  | .Set _ _ _ => false
  | _ => true
theorem noSet_ok {e : Expr} (h : noSet e = true) (env : Env) (x : Value) : foldedSetIterable e env x = pure x := by
  cases e <;> first | rfl | (cases h)
def noComp : Expr → Bool
  | .ListComp _ _ _ _ => false
  | .SetComp _ _ _ _ => false
  | .DictComp _ _ _ _ _ => false
  | _ => true
theorem noComp_ok {e : Expr} (h : noComp e = true) (t : Option Expr) (l : Nat) (env : Env) : swapsWith e t l env = pure false := by
  cases e <;> first | rfl | (cases h)
def noStar : Expr → Bool
  | .Starred _ _ => false
  | _ => true
theorem noStar_ok {e : Expr} (h : noStar e = true) : ∀ z p, e ≠ .Starred z p := by
  intro z p q; subst q; cases h
/-- a receiver of a method -/
def plainRecv : Expr → Bool
  | .Call _ _ _ _ => false
  | _ => true
theorem plainRecv_ok {o : Expr} (h : plainRecv o = true) (m : Str) (env : Env) (w : Sem Value) : attributeBase o m env w = w := by
  cases o <;> first | rfl | (cases h)
def noSlice : Expr → Bool
  | .Slice _ _ _ _ => false
  | _ => true
theorem noSlice_ok {e : Expr} (h : noSlice e = true) : PlainIx e := by
  intro o i
  cases e <;> first | rfl | (cases h)
theorem noSlice_aug {e : Expr} (h : noSlice e = true) (ov iv new : Value) : augStore e ov iv new = (do
    holding [new, ov, iv] (setItem ov iv new)
    release [new, ov, iv] []
    pure Flow.next) := by
  cases e <;> first | rfl | (cases h)
/-- a test by its own value -/
def plainTest : Expr → Bool
  | .UnaryOp .Not _ _ => false
  | .BoolOp _ _ _ => false
  | .IfExp _ _ _ _ => false
  | .Compare _ _ _ _ => false
  | _ => true
theorem plainTest_ok {e : Expr} (h : plainTest e = true) (env : Env) (whole : Sem Value) : PySem.isTrue e env whole = (do let v ← whole; standAt e.pos; holding [v] (truthy v)) := by
  cases e <;> first | rfl | (cases h) | skip
  rename_i op x p
  cases op <;> first | rfl | (cases h)

def ckTs (ok : Str → Bool) (N : List Str) : List Nat → List Expr → Bool
  | [], [] => true
  | j :: js, .Name x _ :: es => decide (N[j]? = some x) && ok x && ckTs ok N js es
  | _, _ => false
def ckTg (ok : Str → Bool) (N : List Str) : Tg → Expr → Bool
  | .name j, .Name x _ => decide (N[j]? = some x) && ok x
  | .tup js, .Tuple es _ _ => ckTs ok N js es
  | _, _ => false
def tgIn (vs : List Nat) : Tg → Bool
  | .name j => vs.contains j
  | .tup js => js.all fun j => vs.contains j

mutual
def ckE (kk : Str → Nat → List Str → Bool) (N : List Str) (sc : Scope) : Ex → Expr → Bool
  | .var i, e => match e with
    | .Name x _ => decide (N[i]? = some x) && visB sc x && !(x == ("__debug__" : Str)) && !(x == ("__classdict__" : Str))
    | _ => false
  | .con c, e => match e with
    | .Constant d _ _ => conEq c d
    | _ => false
  | .glb x, e => match e with
    | .Name y _ => x == y && glB sc y
    | _ => false
  | .bin op a b, e => match e with
    | .BinOp x op' y _ => decide (op = op') && ckE kk N sc a x && ckE kk N sc b y
    | _ => false
  | .neg a, e => match e with
    | .UnaryOp .USub x _ => ckE kk N sc a x
    | _ => false
  | .cmp op a b, e => match e with
    | .Compare x [op'] [y] _ => decide (op = op') && ckE kk N sc a x && ckE kk N sc b y && noSet y
    | _ => false
  | .chn o p a b c, e => match e with
    | .Compare x [o', p'] [y, z] _ => decide (o = o') && decide (p = p') && ckE kk N sc a x && ckE kk N sc b y && ckE kk N sc c z && noSet y && noSet z
    | _ => false
  | .and a b, e => match e with
    | .BoolOp .And (x :: y :: r) p => ckE kk N sc a x && (match r with
      | [] => ckE kk N sc b y
      | _ => ckE kk N sc b (.BoolOp .And (y :: r) p))
    | _ => false
  | .or a b, e => match e with
    | .BoolOp .Or (x :: y :: r) p => ckE kk N sc a x && (match r with
      | [] => ckE kk N sc b y
      | _ => ckE kk N sc b (.BoolOp .Or (y :: r) p))
    | _ => false
  | .not a, e => match e with
    | .UnaryOp .Not x _ => ckE kk N sc a x
    | _ => false
  | .ite t a b, e => match e with
    | .IfExp z x y _ => ckT kk N sc t z && ckE kk N sc a x && ckE kk N sc b y
    | _ => false
  | .tup es, e => match e with
    | .Tuple xs _ _ => ckEs kk N sc es xs
    | _ => false
  | .lst es, e => match e with
    | .List xs _ => ckEs kk N sc es xs
    | _ => false
  | .idx a i, e => match e with
    | .Subscript x y _ => ckE kk N sc a x && ckE kk N sc i y && noSlice y
    | _ => false
  | .sl2 a lo hi, e => match e with
    | .Subscript x (.Slice (some l) (some h) none _) _ => ckE kk N sc a x && ckE kk N sc lo l && ckE kk N sc hi h
    | _ => false
  | .sl1 a lo, e => match e with
    | .Subscript x (.Slice (some l) none none _) _ => ckE kk N sc a x && ckE kk N sc lo l
    | _ => false
  | .sl0 a hi, e => match e with
    | .Subscript x (.Slice none (some h) none _) _ => ckE kk N sc a x && ckE kk N sc hi h
    | _ => false
  | .rev a, e => match e with
    | .Subscript x (.Slice none none (some (.UnaryOp .USub (.Constant (.int 1) _ _) _)) _) _ => ckE kk N sc a x
    | _ => false
  | .call f es ks kes, e => match e with
    | .Call (.Name x _) xs kws _ => f == x && glB sc x && kk x xs.length ks && ckEs kk N sc es xs && decide (kws.map (·.arg) = ks.map some) && ckKs kk N sc kes kws
    | _ => false
  | .blt f es, e => match e with
    | .Call (.Name x _) xs [] _ => f == x && glB sc x && bltF x && ckEs kk N sc es xs && !xs.isEmpty
    | _ => false
  | .isi a t, e => match e with
    | .Call (.Name f _) [x, .Name y _] [] _ => f == ("isinstance" : Str) && glB sc f && glB sc y && t == y && (["int", "bool", "list", "tuple", "str", "dict"] : List Str).contains y && ckE kk N sc a x && noStar x
    | _ => false
  | .lrg es, e => match e with
    | .Call (.Name f _) [.Call (.Name g _) xs [] _] [] _ => f == ("list" : Str) && glB sc f && g == ("range" : Str) && glB sc g && decide (1 ≤ xs.length ∧ xs.length ≤ 2) && ckEs kk N sc es xs
    | _ => false
  | .lzp a b, e => match e with
    | .Call (.Name f _) [.Call (.Name g _) [x, y] [] _] [] _ => f == ("list" : Str) && glB sc f && g == ("zip" : Str) && glB sc g && ckE kk N sc a x && noStar x && ckE kk N sc b y && noStar y
    | _ => false
  | .mth m o es, e => match e with
    | .Call (.Attribute x m' apos) xs [] cpos => m == m' && (["append", "pop", "clear", "index"] : List Str).contains m' && ckE kk N sc o x && ckEs kk N sc es xs && (apos.endLine == cpos.line) && decide (xs.length < 30) && plainRecv x
    | _ => false
  | .comp b tg it cs own, e => match e with
    | .ListComp x [⟨t, iter, ifs, 0⟩] scope _ => blkC N sc scope own && ckI kk N sc it t iter && noSet iter && ckTg (fun y => locB (relS scope sc) y && (localB (relS scope sc) y || decide (scope.names.lookup y = some .cell))) N tg t &&
        tgIn (own.map (·.2)) tg && ckC kk N (relS scope sc) cs ifs && ckE kk N (relS scope sc) b x
    | _ => false
def ckEs (kk : Str → Nat → List Str → Bool) (N : List Str) (sc : Scope) : Exs → List Expr → Bool
  | .nil, es => match es with
    | [] => true
    | _ => false
  | .cons e r, es => match es with
    | x :: xs => ckE kk N sc e x && noStar x && ckEs kk N sc r xs
    | _ => false
def ckKs (kk : Str → Nat → List Str → Bool) (N : List Str) (sc : Scope) : Exs → List Keyword → Bool
  | .nil, es => match es with
    | [] => true
    | _ => false
  | .cons e r, es => match es with
    | ⟨_, x, _⟩ :: xs => ckE kk N sc e x && ckKs kk N sc r xs
    | _ => false
def ckT (kk : Str → Nat → List Str → Bool) (N : List Str) (sc : Scope) : Ts → Expr → Bool
  | .val a, e => plainTest e && ckE kk N sc a e
  | .cmp op a b, e => match e with
    | .Compare x [op'] [y] _ => decide (op = op') && ckE kk N sc a x && ckE kk N sc b y && noSet y
    | _ => false
  | .chn o p a b c, e => match e with
    | .Compare x [o', p'] [y, z] _ => decide (o = o') && decide (p = p') && ckE kk N sc a x && ckE kk N sc b y && ckE kk N sc c z && noSet y && noSet z
    | _ => false
  | .not a, e => match e with
    | .UnaryOp .Not x _ => ckT kk N sc a x
    | _ => false
  | .and a b, e => match e with
    | .BoolOp .And (x :: y :: r) p => ckT kk N sc a x && (match r with
      | [] => ckT kk N sc b y
      | _ => ckT kk N sc b (.BoolOp .And (y :: r) p))
    | _ => false
  | .or a b, e => match e with
    | .BoolOp .Or (x :: y :: r) p => ckT kk N sc a x && (match r with
      | [] => ckT kk N sc b y
      | _ => ckT kk N sc b (.BoolOp .Or (y :: r) p))
    | _ => false
def ckC (kk : Str → Nat → List Str → Bool) (N : List Str) (sc : Scope) : Cd → List Expr → Bool
  | .no, es => match es with
    | [] => true
    | _ => false
  | .one t, es => match es with
    | [x] => ckT kk N sc t x
    | _ => false
def ckI (kk : Str → Nat → List Str → Bool) (N : List Str) (sc : Scope) : Ir → Expr → Expr → Bool
  | .seq a, _, e => ckE kk N sc a e
  | .rng es, _, e => match e with
    | .Call (.Name g _) xs [] _ => g == ("range" : Str) && glB sc g && decide (1 ≤ xs.length ∧ xs.length ≤ 3) && ckEs kk N sc es xs
    | _ => false
  | .enm a, tg, e => match tg, e with
    | .Tuple _ _ _, .Call (.Name g _) [x] [] _ => g == ("enumerate" : Str) && glB sc g && ckE kk N sc a x && noStar x
    | _, _ => false
  | .zip a b, tg, e => match tg, e with
    | .Tuple _ _ _, .Call (.Name g _) [x, y] [] _ => g == ("zip" : Str) && glB sc g && ckE kk N sc a x && noStar x && ckE kk N sc b y && noStar y
    | _, _ => false
end

def allLocal (sc : Scope) (ts : List Expr) : Bool := ts.all fun | .Name id _ => localB sc id | _ => false
/-- a, b = x, y whose stores are swapped -/
def swapB (sc : Scope) (ts vs : List Expr) : Bool :=
  (ts.length == 2 || ts.length == 3) && vs.length == ts.length && (vs.all noStar) &&
  (ts.all fun | .Name id pos => localB sc id && pos.line == (ts.head?.map (·.pos.line)).getD 0 | _ => false) && !(vs.all (foldedForSure 8)) && !(vs.all (constantsAlone 8))

mutual
def ckS (kk : Str → Nat → List Str → Bool) (N : List Str) (sc : Scope) : Sm → Stmt → Bool
  | .expr e, s => match s with
    | .Expr x _ => ckE kk N sc e x && noComp x
    | _ => false
  | .ret e, s => match s with
    | .Return (some x) _ => ckE kk N sc e x
    | _ => false
  | .retN, s => match s with
    | .Return none _ => true
    | _ => false
  | .asg i e, s => match s with
    | .Assign [.Name x p] v pos => decide (N[i]? = some x) && locB sc x && ckE kk N sc e v && (noComp v || (match v with
      | .ListComp _ [_] _ _ => true
      | _ => false))
    | _ => false
  | .unp is e, s => match s with
    | .Assign [.Tuple ts k p] v pos => ckTs (locB sc) N is ts && ckE kk N sc e v && noComp v && (match v with
      | .Tuple _ _ _ => !allLocal sc ts
      | _ => true)
    | _ => false
  | .par is es, s => match s with
    | .Assign [.Tuple ts _ _] (.Tuple vs _ _) _ => ckTs (localB sc) N is ts && decide is.Nodup && ckEs kk N sc es vs && swapB sc ts vs
    | _ => false
  | .setI o i e, s => match s with
    | .Assign [.Subscript x y _] v _ => ckE kk N sc e v && ckE kk N sc o x && ckE kk N sc i y && noSlice y && noComp v
    | _ => false
  | .aug i op e, s => match s with
    | .AugAssign (.Name x _) op' v _ => decide (N[i]? = some x) && locB sc x && decide (op = op') && ckE kk N sc e v
    | _ => false
  | .augI o i op e, s => match s with
    | .AugAssign (.Subscript x y _) op' v _ => ckE kk N sc o x && ckE kk N sc i y && noSlice y && decide (op = op') && ckE kk N sc e v
    | _ => false
  | .ife t a b, s => match s with
    | .If x p q _ => ckT kk N sc t x && ckSs kk N sc a p && ckSs kk N sc b q
    | _ => false
  | .forI tg it b, s => match s with
    | .For t iter body [] _ => ckI kk N sc it t iter && noSet iter && ckTg (locB sc) N tg t && ckSs kk N sc b body
    | _ => false
  | .whl t b, s => match s with
    | .While x body [] _ => ckT kk N sc t x && ckSs kk N sc b body
    | _ => false
  | .pass, s => match s with
    | .Pass _ => true
    | _ => false
  | .brk, s => match s with
    | .Break _ => true
    | _ => false
  | .cont, s => match s with
    | .Continue _ => true
    | _ => false
  | .never, _ => true
def ckSs (kk : Str → Nat → List Str → Bool) (N : List Str) (sc : Scope) : Ss → List Stmt → Bool
  | .nil, ss => match ss with
    | [] => true
    | _ => false
  | .cons a r, ss => match ss with
    | x :: xs => ckS kk N sc a x && ckSs kk N sc r xs
    | _ => false
end
end VC

/-! VC, part 5: a text runs as its tree's wp says. -/
namespace VC
open PySem PySem.Spec PyProof.Rows L2

/-! ### targets and walks -/
def gNames : List Nat → TGs
  | [] => gNil
  | j :: js => gCons (gName j) (gNames js)
def tgR (K : PySem.W.Frag) : Tg → TG
  | .name j => gName j
  | .tup js => gTup K js.length (gNames js)
theorem gNames_of : ∀ {js : List Nat} {ys : List V} {σ : L2.St} {H : Hp} {Q : L2.St → Hp → Prop}, ys.length = js.length → Q (setAll σ js ys) H → gNames js ys σ H Q
  | [], [], _, _, _, _, q => ⟨rfl, q⟩
  | j :: js, y :: ys, σ, H, Q, h, q => ⟨y, ys, rfl, gNames_of (js := js) (ys := ys) (by simpa using h) q⟩
theorem gTup_of {K : PySem.W.Frag} {js : List Nat} {p : Addr} {ys : List V} {σ : L2.St} {H : Hp} {Q : L2.St → Hp → Prop} (hp : SqT K H p ys) (hl : ys.length = js.length) (q : Q (setAll σ js ys) H) : gTup K js.length (gNames js) (.ref p) σ H Q :=
  ⟨p, ys, rfl, hp, hl, gNames_of hl q⟩

/-- the model's iterator is the source -/
structure SrcIs (K : PySem.W.Frag) (tg : Tg) (s : Src) (J : L2.It) : Prop where
  go : ∀ i H, s.ok K H → i < s.len → J.go i H
  stop : ∀ i H, s.ok K H → s.len ≤ i → J.stop i H
  yld : ∀ i H x H' σ Q, s.ok K H → J.yld i H x H' → s.step K tg i σ H Q → tgR K tg x σ H' Q

section
variable {K : PySem.W.Frag} {tg : Tg}
theorem src_lst (a : Addr) (xs : List V) : SrcIs K tg (.lst a xs) (Itl K a) where
  go := fun i H h hi => ⟨xs, xs[i]'hi, h, List.getElem?_eq_getElem hi⟩
  stop := fun i H h hi => ⟨xs, h, hi⟩
  yld := fun i H x H' σ Q h hy hs => by
    obtain ⟨rfl, hy⟩ := hy
    have ex := hy xs h
    cases tg with
    | name j =>
      obtain ⟨x', e, q⟩ := hs
      rw [ex] at e; cases e
      exact q
    | tup js =>
      obtain ⟨p, e, q⟩ := hs
      rw [ex] at e; cases e
      obtain ⟨ys, h1, h2, h3⟩ := q.to
      exact gTup_of h1 h2 h3
theorem src_rng (lo : Int) (n : Nat) : SrcIs K tg (.rng lo 1 n) (Itr lo n) where
  go := fun i H _ hi => hi
  stop := fun i H _ hi => hi
  yld := fun i H x H' σ Q h hy hs => by
    obtain ⟨rfl, rfl⟩ := hy
    cases tg with
    | name j =>
      have q : Q (σ.set j (some (.int (lo + (i : Nat) * 1)))) H' := hs
      rw [Int.mul_one] at q
      exact q
    | tup js => exact hs.elim
theorem src_rngC (lo c : Int) (n : Nat) : SrcIs K tg (.rng lo c n) (Itc lo c n) where
  go := fun i H _ hi => hi
  stop := fun i H _ hi => hi
  yld := fun i H x H' σ Q h hy hs => by
    obtain ⟨rfl, rfl⟩ := hy
    cases tg with
    | name j => exact hs
    | tup js => exact hs.elim
theorem src_enm (a : Addr) (xs : List V) : SrcIs K tg (.enm a xs) (Ite K a) where
  go := fun i H h hi => ⟨xs, xs[i]'hi, h, List.getElem?_eq_getElem hi⟩
  stop := fun i H h hi => ⟨xs, h, hi⟩
  yld := fun i H x H' σ Q h hy hs => by
    obtain ⟨T, y, rfl, hT, rfl, hy⟩ := hy
    have ex := hy xs h
    simp only [Src.step] at hs
    split at hs
    · rename_i j k
      obtain ⟨x', e, q⟩ := hs
      rw [ex] at e; cases e
      exact gTup_of (js := [j, k]) (.inl (.inl upd_same)) rfl (q _ (same_new hT))
    · exact hs.elim
theorem src_zip (a b : Addr) (xs ys : List V) : SrcIs K tg (.zip a b xs ys) (Itz K a b) where
  go := fun i H h hi => by
    have h1 : i < xs.length := by have : i < min xs.length ys.length := hi; omega
    have h2 : i < ys.length := by have : i < min xs.length ys.length := hi; omega
    exact ⟨xs, ys, xs[i], ys[i], h.1, h.2, by simp [h1], by simp [h2]⟩
  stop := fun i H h hi => ⟨xs, ys, h.1, h.2, by have : min xs.length ys.length ≤ i := hi; omega⟩
  yld := fun i H x H' σ Q h hy hs => by
    obtain ⟨T, y, z, rfl, hT, rfl, hy, hz⟩ := hy
    have ex := hy xs h.1
    have ez := hz ys h.2
    simp only [Src.step] at hs
    split at hs
    · rename_i j k
      obtain ⟨x', y', e, e2, q⟩ := hs
      rw [ex] at e; cases e
      rw [ez] at e2; cases e2
      exact gTup_of (js := [j, k]) (.inl (.inl upd_same)) rfl (q _ (same_new hT))
    · exact hs.elim

theorem forW_to {s : Src} {J : L2.It} (h : SrcIs K tg s J) {tb : TS} {D : Ends} {σ : L2.St} {H : Hp} (hw : forW K s tg tb D σ H) :
    ∃ W : Nat → Nat → L2.St → Hp → Prop, (∃ m, W 0 m σ H) ∧ ∀ i m σ H, W i m σ H →
      (J.stop i H ∧ D.nx σ H) ∨ (J.go i H ∧ ∃ N : L2.St → Hp → Prop, (∀ σ' H', N σ' H' → ∃ m', m' < m ∧ W (i + 1) m' σ' H') ∧
        ∀ x H', J.yld i H x H' → tgR K tg x σ H' fun σ2 H2 => tb { nx := N, rt := D.rt, bk := D.nx, ct := N } σ2 H2) := by
  obtain ⟨W, w0, wt, wd⟩ := hw
  refine ⟨fun i m σ H => i + m = s.len ∧ W i σ H, ⟨s.len, by omega, w0⟩, ?_⟩
  rintro i m σ H ⟨hi, hw⟩
  by_cases hlt : i < s.len
  · obtain ⟨h1, h2⟩ := wt i σ H hlt hw
    refine .inr ⟨h.go i H h1 hlt, W (i + 1), fun σ' H' q => ⟨m - 1, by omega, by omega, q⟩, ?_⟩
    intro x H' hy
    exact h.yld i H x H' σ _ h1 hy h2
  · have e : i = s.len := by omega
    subst e
    obtain ⟨h1, h2⟩ := wd σ H hw
    exact .inl ⟨h.stop _ H h1 (Nat.le_refl _), h2⟩

theorem wipe_set {σ : L2.St} {vs : List Nat} {j : Nat} {x : Option V} (h : j ∈ vs) : wipe (σ.set j x) vs = wipe σ vs := by
  induction vs with
  | nil => cases h
  | cons v vs ih =>
    show (wipe (σ.set j x) vs).set v none = (wipe σ vs).set v none
    by_cases hv : j ∈ vs
    · rw [ih hv]
    · have e : j = v := by
        rcases List.mem_cons.mp h with e | e
        · exact e
        · exact absurd e hv
      subst e
      have : ∀ (ws : List Nat), j ∉ ws → (wipe (σ.set j x) ws) = (wipe σ ws).set j x := by
        intro ws
        induction ws with
        | nil => intro _; rfl
        | cons w ws ih2 =>
          intro hw
          show (wipe (σ.set j x) ws).set w none = ((wipe σ ws).set w none).set j x
          rw [ih2 fun z => hw (List.mem_cons_of_mem _ z), List.set_comm _ _ (fun z => hw (by rw [z]; exact List.mem_cons_self))]
      rw [this vs hv, List.set_set]
theorem wipe_idem (σ : L2.St) (vs : List Nat) : wipe (wipe σ vs) vs = wipe σ vs := by
  have : ∀ ws : List Nat, (∀ w ∈ ws, w ∈ vs) → wipe (wipe σ ws) vs = wipe σ vs := by
    intro ws
    induction ws with
    | nil => intro _; rfl
    | cons w ws ih =>
      intro h
      show wipe ((wipe σ ws).set w none) vs = wipe σ vs
      rw [wipe_set (h w List.mem_cons_self), ih fun z hz => h z (List.mem_cons_of_mem _ hz)]
  exact this vs fun _ h => h
theorem wipe_setAll {vs : List Nat} : ∀ {js : List Nat} {ys : List V} {σ : L2.St}, (∀ j ∈ js, j ∈ vs) → wipe (setAll σ js ys) vs = wipe σ vs
  | [], _, _, _ => by rfl
  | _ :: _, [], _, _ => by rfl
  | j :: js, y :: ys, σ, h => by
    show wipe (setAll (σ.set j (some y)) js ys) vs = _
    rw [wipe_setAll fun z hz => h z (List.mem_cons_of_mem _ hz), wipe_set (h j List.mem_cons_self)]
/-- the target's slots alone change -/
theorem step_and {s : Src} {i : Nat} {σ : L2.St} {H : Hp} {Q : L2.St → Hp → Prop} {vs : List Nat} (ht : tgIn vs tg = true) (h : s.step K tg i (wipe σ vs) H Q) : s.step K tg i (wipe σ vs) H fun σ2 H2 => wipe σ2 vs = wipe σ vs ∧ Q σ2 H2 := by
  have one : ∀ j x, j ∈ vs → wipe ((wipe σ vs).set j x) vs = wipe σ vs := fun j x hj => by rw [wipe_set hj, wipe_idem]
  cases s with
  | lst a xs =>
    cases tg with
    | name j =>
      obtain ⟨x, e, q⟩ := h
      exact ⟨x, e, one j _ (by simpa [tgIn] using ht), q⟩
    | tup js =>
      obtain ⟨p, e, q⟩ := h
      refine ⟨p, e, ?_⟩
      unfold onT at q ⊢
      split at q
      · exact ⟨q.1, by rw [wipe_setAll (by simpa [tgIn] using ht), wipe_idem], q.2⟩
      · exact q.elim
  | tup a xs =>
    cases tg with
    | name j =>
      obtain ⟨x, e, q⟩ := h
      exact ⟨x, e, one j _ (by simpa [tgIn] using ht), q⟩
    | tup js =>
      obtain ⟨p, e, q⟩ := h
      refine ⟨p, e, ?_⟩
      unfold onT at q ⊢
      split at q
      · exact ⟨q.1, by rw [wipe_setAll (by simpa [tgIn] using ht), wipe_idem], q.2⟩
      · exact q.elim
  | rng lo c n =>
    cases tg with
    | name j => exact ⟨one j _ (by simpa [tgIn] using ht), h⟩
    | tup js => exact h.elim
  | enm a xs =>
    simp only [Src.step] at h ⊢
    split at h
    · rename_i j k
      obtain ⟨x, e, q⟩ := h
      have hj : j ∈ vs ∧ k ∈ vs := by simpa [tgIn] using ht
      exact ⟨x, e, fun H1 sm => ⟨by rw [wipe_set hj.2, wipe_set hj.1, wipe_idem], q H1 sm⟩⟩
    · exact h.elim
  | zip a b xs ys =>
    simp only [Src.step] at h ⊢
    split at h
    · rename_i j k
      obtain ⟨x, y, e, e2, q⟩ := h
      have hj : j ∈ vs ∧ k ∈ vs := by simpa [tgIn] using ht
      exact ⟨x, y, e, e2, fun H1 sm => ⟨by rw [wipe_set hj.2, wipe_set hj.1, wipe_idem], q H1 sm⟩⟩
    · exact h.elim

theorem lcW_to {s : Src} {J : L2.It} (h : SrcIs K tg s J) {tt : TT} {te : TE} {σ : L2.St} {vs : List Nat} {d : Addr} {Q : VK} {H : Hp} (ht : tgIn vs tg = true)
    (hw : lcW K s tg tt te (wipe σ vs) d Q H) :
    ∃ W : Nat → Nat → Hp → Prop, (∃ m, W 0 m H) ∧ ∀ i m H, W i m H →
      (J.stop i H ∧ Q (.ref d) H) ∨ (J.go i H ∧ ∃ Nx : Hp → Prop, (∀ H', Nx H' → ∃ m', m' < m ∧ W (i + 1) m' H') ∧ ∀ x H', J.yld i H x H' → tgR K tg x (wipe σ vs) H' fun σ2 H2 => wipe σ2 vs = wipe σ vs ∧ tt σ2 H2 fun b H3 =>
        if b = true then te σ2 H3 fun y H4 => ∃ acc, H4 d = some (.lst acc) ∧ acc.length < sizeLine ∧ Nx (upd H4 d (.lst (acc ++ [y]))) else Nx H3) := by
  obtain ⟨W, w0, wt, wd⟩ := hw
  refine ⟨fun i m H => i + m = s.len ∧ W i H, ⟨s.len, by omega, w0⟩, ?_⟩
  rintro i m H ⟨hi, hw⟩
  by_cases hlt : i < s.len
  · obtain ⟨h1, h2⟩ := wt i H hlt hw
    refine .inr ⟨h.go i H h1 hlt, W (i + 1), fun H' q => ⟨m - 1, by omega, by omega, q⟩, ?_⟩
    intro x H' hy
    exact h.yld i H x H' _ _ h1 hy (step_and ht h2)
  · have e : i = s.len := by omega
    subst e
    obtain ⟨h1, h2⟩ := wd H hw
    exact .inl ⟨h.stop _ H h1 (Nat.le_refl _), h2⟩
end
end VC

/-! VC, part 6: expressions run as their trees say. -/
namespace VC
open PySem PySem.Spec PyProof.Rows L2

/-- what stands behind a table's names -/
structure Facts (T : Tab) (P : Program) (w : World) (K : PySem.W.Frag) (mg : Str → Option Value) (base : Heap) (k : Nat) : Prop where
  fn : ∀ x F, T.fns.lookup x = some F → ∃ f fd, mg x = some (.ref f) ∧ PySem.W.keepIn K (.ref f) = true ∧ FnG P w K mg base k f fd F.ps (SPn T K k x) ∧
    ∀ (n : Nat) (ks : List Str), T.way x n ks = true → ∀ (s : Shared) (us ws : List Value), K.In s.heap → us.length = n → ws.length = ks.length →
      BindsTo s fd ⟨us, ks.zip ws⟩ (F.ps.zip (arrange F.ps ks Value.none us ws))
  con : ∀ x v, T.cons.lookup x = some v → ∃ u, mg x = some u ∧ RelV v u
  blt : ∀ x ∈ bltNames, mg x = none

structure Gd (T : Tab) (k : Nat) (E : XK) (X : Cx) : Prop where
  calm : X.calm = true
  nd : X.N.Nodup
  kind : X.env.scope.kind = .function
  room : Room k X.A
  gu : X.A.guards = some []
  pass : Passes (L2.CX X.prog X.w) X E
  own : PassesOwn (model X.prog X.w) X.A X.env X.xe
  fx : Facts T X.prog X.w X.K X.mg X.base k

theorem Gd.blk {T : Tab} {k : Nat} {E : XK} {X : Cx} (g : Gd T k E X) {scope : Scope} (hk : scope.kind = .function) (s : Shared) (H : Hp) (C : Addr) (cl : List (Str × Addr)) (fp : List Addr) :
    Gd T k E0 (X.blk s H scope (compEnvC scope cl C X.env) fp) where
  calm := g.calm
  nd := g.nd
  kind := hk
  room := g.room
  gu := g.gu
  pass := passL
  own := PassesOwn.never
  fx := g.fx

theorem vals_lookup {p : Str} : ∀ {ks : List Str} {zs : List V} {ws : List Value}, Vals zs ws → RelV (((ks.zip zs).lookup p).getD .non) (((ks.zip ws).lookup p).getD Value.none)
  | [], _, _, _ => rfl
  | _ :: _, [], _, .nil => rfl
  | q :: ks, z :: zs, w :: ws, .cons r rs => by
    show RelV ((((q, z) :: ks.zip zs).lookup p).getD .non) ((((q, w) :: ks.zip ws).lookup p).getD Value.none)
    rw [List.lookup_cons, List.lookup_cons]
    cases hq : p == q with
    | true => exact r
    | false => exact vals_lookup rs
theorem vals_arrange {ps ks : List Str} {vs zs : List V} {us ws : List Value} (r : Vals vs us) (rz : Vals zs ws) : Vals (arrange ps ks V.non vs zs) (arrange ps ks Value.none us ws) := by
  unfold arrange
  split
  · exact r
  · rw [← r.length]
    refine r.append ?_
    generalize ps.drop vs.length = qs
    induction qs with
    | nil => exact .nil
    | cons q qs ih => exact .cons (vals_lookup rz) ih

theorem con_ok {X : Cx} {c : Const} {j : Nat} {pos : Pos} (h : (conV c).isSome = true) : PE X (.Constant c j pos) (fun _ H Q => match conV c with
    | some v => Q v H
    | none => False) := by
  cases c with
  | none => exact pe_non
  | bool b => exact pe_bl
  | int i => exact pe_int
  | str x => exact pe_str
  | _ => cases h

theorem blt_boot {f : Str} (h : bltF f = true) : (∃ id, bltV f = .builtin id ∧ bootBuiltins f = some (.builtin id)) ∨ (∃ T, bltV f = .type T ∧ bootBuiltins f = some (.type T)) := by
  unfold bltF at h
  simp only [List.contains_cons, List.contains_nil, Bool.or_eq_true, Bool.or_false, beq_iff_eq] at h
  rcases h with rfl | rfl | rfl | rfl | rfl | rfl | rfl | rfl | rfl
  · exact .inl ⟨"len", by decide +kernel, by decide +kernel⟩
  · exact .inr ⟨"int", by decide +kernel, by decide +kernel⟩
  · exact .inl ⟨"repr", by decide +kernel, by decide +kernel⟩
  · exact .inr ⟨"list", by decide +kernel, by decide +kernel⟩
  · exact .inl ⟨"sum", by decide +kernel, by decide +kernel⟩
  · exact .inl ⟨"max", by decide +kernel, by decide +kernel⟩
  · exact .inl ⟨"min", by decide +kernel, by decide +kernel⟩
  · exact .inl ⟨"all", by decide +kernel, by decide +kernel⟩
  · exact .inl ⟨"sorted", by decide +kernel, by decide +kernel⟩
theorem blt_name {f : Str} (h : bltF f = true) : f ∈ bltNames := by
  unfold bltF at h
  simp only [List.contains_cons, List.contains_nil, Bool.or_eq_true, Bool.or_false, beq_iff_eq] at h
  rcases h with rfl | rfl | rfl | rfl | rfl | rfl | rfl | rfl | rfl <;> decide +kernel

theorem pe_blt {X : Cx} {f : Str} {p pos : Pos} {e : Expr} {es : List Expr} {t : TA} (hc : X.calm = true) (hgu : X.A.guards = some []) (hu : X.A.units + 64 < cLine) (hf : bltF f = true) (hg : glB X.env.scope f = true) (hm : X.mg f = none)
    (ha : PA X (e :: es) t) (hs : ∀ x ∈ e :: es, ∀ z p, x ≠ .Starred z p) : PE X (.Call (.Name f p) (e :: es) [] pos) (fun σ H Q => t σ H fun vs H1 => bltW X.K f vs H1 Q) := by
  obtain ⟨g1, g2, g3⟩ := glB_ok hg
  have ok := bltW_ok hc hgu hu f
  have s1 := star_cons (es := es) (env := X.env) (hs e List.mem_cons_self)
  have s2 := noStar_any (pos := pos) (env := X.env) (es := es) fun x hx => hs x (List.mem_cons_of_mem _ hx)
  rcases blt_boot hf with ⟨id, e1, e2⟩ | ⟨T, e1, e2⟩
  · rw [e1] at ok
    exact pe_callB ok g1 hm e2 ha g3 g2 s1 s2
  · rw [e1] at ok
    exact pe_callTy ok g1 hm e2 ha g3 g2 s1 s2

theorem tyName_ok {K : PySem.W.Frag} {H : Hp} {x : V} {n : String} (h : tyName K H x = some n) : TyX K H x (.type n) := by
  unfold tyName at h
  split at h
  · cases h; exact .base .non
  · cases h; exact .base (.bl _)
  · cases h; exact .base (.int _)
  · cases h; exact .base (.str _)
  · split at h
    · cases h; exact .base (.lst (by assumption))
    · cases h; exact .base (.tup (by assumption))
    · cases h; exact .base (.dK (by assumption))
    · cases h; exact .base (.dT (by assumption))
    · cases h
  · cases h

theorem isi_boot {y : Str} (h : (["int", "bool", "list", "tuple", "str", "dict"] : List Str).contains y = true) : bootBuiltins y = some (.type y.toString) ∧ y ∈ bltNames := by
  simp only [List.contains_cons, List.contains_nil, Bool.or_eq_true, Bool.or_false, beq_iff_eq] at h
  rcases h with rfl | rfl | rfl | rfl | rfl | rfl <;> exact ⟨by decide +kernel, by decide +kernel⟩

def isiW (K : PySem.W.Frag) (xs : List V) (H : Hp) (Q : VK) : Prop := match xs with
  | [x, .ty T] => ∃ n b, tyName K H x = some n ∧ kitB n T = some b ∧ Q (.bl b) H
  | _ => False
theorem isiW_ok {X : Cx} : CallR X (.builtin "isinstance") (isiW X.K) := by
  intro pins s σ H xs us Q I r h
  unfold isiW at h
  split at h
  · obtain ⟨n, b, h1, h2, h3⟩ := h
    exact call_isi pins s σ H _ us Q I r ⟨_, _, .type n, _, b, rfl, .ty _, tyName_ok h1, kit_ty h2, h3⟩
  · exact h.elim
theorem pe_isi {X : Cx} {p p' pos : Pos} {e : Expr} {y : Str} {t : TE} (hg : glB X.env.scope "isinstance" = true) (hm : X.mg "isinstance" = none) (hy : glB X.env.scope y = true) (hmy : X.mg y = none)
    (hb : bootBuiltins y = some (.type y.toString)) (ha : PE X e t) (hs : ∀ z p, e ≠ .Starred z p) :
    PE X (.Call (.Name "isinstance" p) [e, .Name y p'] [] pos) (fun σ H Q => t σ H fun x H1 => ∃ n b, tyName X.K H1 x = some n ∧ kitB n y.toString = some b ∧ Q (.bl b) H1) := by
  obtain ⟨g1, g2, g3⟩ := glB_ok hg
  obtain ⟨y1, y2, y3⟩ := glB_ok hy
  have hyy : PE X (.Name y p') (tC (.ty y.toString)) := pe_bltn y1 hmy hb rfl y3 y2
  have s1 : starEach (e :: [Expr.Name y p']) X.env = (false, eval e X.env) :: starEach [Expr.Name y p'] X.env := star_cons hs
  exact pe_callB (pos := pos) (p := p) isiW_ok g1 hm (by decide +kernel) (pa_cons ha (pa_cons hyy pa_nil) s1) g3 g2 s1 rfl
end VC

/-! list(zip(a, b)): new tuples in a new list. -/
namespace VC
open PySem PySem.Spec PyProof.Rows L2

section
variable {prog : Program} {w : World} {A : Around} {E : Value → Shared → Prop} {s : Shared}
theorem zp_no_len : typeLookup (.type "zip") "__len__" = pure none := am_miss_of_fast (by decide +kernel)
theorem zp_no_hint : typeLookup (.type "zip") "__length_hint__" = pure none := am_miss_of_fast (by decide +kernel)
/-- the zip object z in the midst of a walk; S is the list that is filled -/
def ZpSt (z TI TO i1 i2 l1 l2 S : Addr) (xs ys : Array Value) (i : Nat) (h : Heap) : Prop :=
  IsPair h TI (.ref i1) (.ref i2) ∧ h.IsListIter i1 l1 i ∧ h.IsListIter i2 l2 i ∧ h.IsList l1 xs ∧ h.IsList l2 ys ∧
    ((IsZip h z TI TO .none ∧ ∃ a b, IsPair h TO a b) ∨ ∃ T f oT, IsZipHeld h z TI TO T f ∧ h.get? T = some oT ∧ T ≠ z ∧ T ≠ i1 ∧ T ≠ i2 ∧ T ≠ S)
/-- the tuples that were given out -/
structure ZpG (xs ys : Array Value) (lo : Addr) (h : Heap) (ts : List Addr) : Prop where
  rise : ts.Pairwise (· < ·)
  above : ∀ a ∈ ts, lo < a
  two : ∀ (j : Nat) (a : Addr), ts[j]? = some a → ∃ x y, xs[j]? = some x ∧ ys[j]? = some y ∧ h.get? a = some { cls := .type "tuple", data := .seq #[x, y] }
variable {z TI TO i1 i2 l1 l2 S : Addr} {xs ys : Array Value}
theorem ZpSt.keep {i : Nat} {h h' : Heap} (x : ZpSt z TI TO i1 i2 l1 l2 S xs ys i h) (hk : ∀ b o, b ≠ S → h.get? b = some o → h'.get? b = some o) (n1 : TI ≠ S) (n2 : i1 ≠ S) (n3 : i2 ≠ S) (n4 : l1 ≠ S) (n5 : l2 ≠ S) (n6 : z ≠ S) (n7 : TO ≠ S) : ZpSt z TI TO i1 i2 l1 l2 S xs ys i h' := by
  obtain ⟨a1, a2, a3, a4, a5, a6⟩ := x
  refine ⟨hk _ _ n1 a1, a2.at fun o e => hk _ o n2 e, a3.at fun o e => hk _ o n3 e, a4.at fun o e => hk _ o n4 e, a5.at fun o e => hk _ o n5 e, ?_⟩
  rcases a6 with ⟨b1, p, q, b2⟩ | ⟨T, f, oT, b1, b2, r1, r2, r3, r4⟩
  · exact .inl ⟨hk _ _ n6 b1, p, q, hk _ _ n7 b2⟩
  · exact .inr ⟨T, f, oT, hk _ _ n6 b1, hk _ _ r4 b2, r1, r2, r3, r4⟩
theorem zp_item {i : Nat} {x y : Value} {Q : Option Value → Shared → Prop} (D : ZipApart z TI TO i1 i2 l1 l2) (st : ZpSt z TI TO i1 i2 l1 l2 S xs ys i s.heap) (hS : S < s.heap.objs.size) (ex : xs[i]? = some x) (ey : ys[i]? = some y)
    (hQ : ∀ h', ZpSt z TI TO i1 i2 l1 l2 S xs ys (i + 1) h' → h'.get? s.heap.objs.size = some { cls := .type "tuple", data := .seq #[x, y] } → h'.objs.size = s.heap.objs.size + 1 →
      (∀ c o, c ∉ [z, TO, i1, i2] → s.heap.get? c = some o → h'.get? c = some o) → Q (some (.ref s.heap.objs.size)) { s with heap := h' }) :
    wpAny (model prog w) A (pyNext (.ref z)) Q E s := by
  obtain ⟨hTI, h1, h2, hl1, hl2, hz⟩ := st
  have new : ∀ {c o}, s.heap.get? c = some o → s.heap.objs.size ≠ c := fun e => Nat.ne_of_gt (Heap.lt_size e)
  have n1 : s.heap.objs.size ≠ i1 := let ⟨_, e, _⟩ := h1; new e
  have n2 : s.heap.objs.size ≠ i2 := let ⟨_, e, _⟩ := h2; new e
  rcases hz with ⟨hz, a, b, hTO⟩ | ⟨T, f, oT, hz, hT, r1, r2, r3, r4⟩
  · refine wpAny_pyNext_zip_item D hz hTI hTO h1 h2 hl1 hl2 ex ey fun h' a1 a2 a3 a4 a5 a6 hk => ?_
    exact hQ h' ⟨hk _ _ D.TIz D.TITO D.TIi1 D.TIi2 hTI, a3, a4, hl1.at fun o e => hk _ o D.l1z D.l1TO D.l1i1 D.l1i2 e, hl2.at fun o e => hk _ o D.l2z D.l2TO D.l2i1 D.l2i2 e,
        .inr ⟨s.heap.objs.size, false, _, a1, a5, new hz, n1, n2, Nat.ne_of_gt hS⟩⟩ a5 a6
      fun c o hc e => hk c o (fun v => hc (by simp [v])) (fun v => hc (by simp [v])) (fun v => hc (by simp [v])) (fun v => hc (by simp [v])) e
  · refine wpAny_pyNext_zip_item_held D hz hT hTI h1 h2 hl1 hl2 ex ey fun h' a1 a3 a4 a5 a6 hk => ?_
    exact hQ h' ⟨hk _ _ D.TIz D.TIi1 D.TIi2 hTI, a3, a4, hl1.at fun o e => hk _ o D.l1z D.l1i1 D.l1i2 e, hl2.at fun o e => hk _ o D.l2z D.l2i1 D.l2i2 e,
        .inr ⟨T, true, oT, a1, hk _ _ r1 r2 r3 hT, r1, r2, r3, r4⟩⟩ a5 a6
      fun c o hc e => hk c o (fun v => hc (by simp [v])) (fun v => hc (by simp [v])) (fun v => hc (by simp [v])) e
theorem zp_end {i : Nat} {Q : Option Value → Shared → Prop} (hh : A.handled = none) (D : ZipApart z TI TO i1 i2 l1 l2) (st : ZpSt z TI TO i1 i2 l1 l2 S xs ys i s.heap) (he : xs[i]? = none ∨ ys[i]? = none)
    (hQ : ∀ h', (∀ c o, c ∉ [z, TO, i1, i2] → s.heap.get? c = some o → h'.get? c = some o) → Q none { s with heap := h' }) :
    wpAny (model prog w) A (pyNext (.ref z)) Q E s := by
  obtain ⟨hTI, h1, h2, hl1, hl2, hz⟩ := st
  rcases hz with ⟨hz, a, b, hTO⟩ | ⟨T, f, oT, hz, hT, r1, r2, r3, r4⟩
  · exact wpAny_pyNext_zip_end hh D hz hTI hTO h1 h2 hl1 hl2 he fun h' hk => hQ h' fun c o hc e => hk c o (fun v => hc (by simp [v])) (fun v => hc (by simp [v])) (fun v => hc (by simp [v])) (fun v => hc (by simp [v])) e
  · exact wpAny_pyNext_zip_end_held hh D hz hT hTI h1 h2 hl1 hl2 he fun h' hk => hQ h' fun c o hc e => hk c o (fun v => hc (by simp [v])) (fun v => hc (by simp [v])) (fun v => hc (by simp [v])) e
theorem zp_out {a : Addr} (hl : z < S ∧ TO < S ∧ i1 < S ∧ i2 < S) (ha : S < a) : a ∉ [z, TO, i1, i2] := by
  intro hm
  simp only [List.mem_cons, List.not_mem_nil, or_false] at hm
  rcases hm with rfl | rfl | rfl | rfl
  · exact Nat.lt_asymm ha hl.1
  · exact Nat.lt_asymm ha hl.2.1
  · exact Nat.lt_asymm ha hl.2.2.1
  · exact Nat.lt_asymm ha hl.2.2.2
theorem zp_loop {R : Result → Shared → Prop} {n : Nat} (hh : A.handled = none) (D : ZipApart z TI TO i1 i2 l1 l2) (hl : z < S ∧ TO < S ∧ i1 < S ∧ i2 < S) (hl2 : TI < S ∧ l1 < S ∧ l2 < S) (en : n = min xs.size ys.size) (hn : n ≤ sizeLine) (res : Value) {h₁ : Heap}
    (hR : ∀ h' tk acc c ts, (∀ b o, b ∉ [z, TO, i1, i2] → b ≠ S → h₁.get? b = some o → h'.get? b = some o) → h'.get? S = some { cls := .type "list", dict := none, data := .seq acc c, slots := #[] } → ts.length = n → ZpG xs ys S h' ts →
      acc.toList = ts.map Value.ref → R (.ok (.ret res)) { s with heap := h', toks := tk }) :
    ∀ (k i : Nat) (h : Heap) (tk c : Nat) (acc : Array Value) (ts : List Addr), n - i = k → i ≤ n → ZpSt z TI TO i1 i2 l1 l2 S xs ys i h → (∀ b o, b ∉ [z, TO, i1, i2] → b ≠ S → h₁.get? b = some o → h.get? b = some o) →
      h.get? S = some { cls := .type "list", dict := none, data := .seq acc c, slots := #[] } → acc.toList = ts.map Value.ref → ts.length = i → ZpG xs ys S h ts →
      codeAny (model prog w) A (.builtin "list.extend.loop" ⟨[.ref S, .ref z, res], []⟩) R { s with heap := h, toks := tk } := by
  have hSo : S ∉ [z, TO, i1, i2] := by
    intro hm
    simp only [List.mem_cons, List.not_mem_nil, or_false] at hm
    rcases hm with e | e | e | e
    · exact Nat.ne_of_gt hl.1 e
    · exact Nat.ne_of_gt hl.2.1 e
    · exact Nat.ne_of_gt hl.2.2.1 e
    · exact Nat.ne_of_gt hl.2.2.2 e
  intro k
  induction k with
  | zero =>
    intro i h tk c acc ts hk hi st keep hS hacc hal G
    refine (codeAny_builtin PySem.F.entry_extend_loop ?_)
    rw [Around.under_plainId PySem.F.plain_extend_loop _]; show wpAny _ A.in1 (pyNext (.ref z) >>= _) _ _ _
    have hend : xs[i]? = none ∨ ys[i]? = none := by
      have : i = min xs.size ys.size := by omega
      rcases Nat.le_total xs.size ys.size with q | q
      · exact .inl (Array.getElem?_eq_none (by omega))
      · exact .inr (Array.getElem?_eq_none (by omega))
    refine wpAny_bind (zp_end (s := { s with heap := h, toks := tk }) (A := A.in1) hh D st hend fun h' he => ?_)
    refine wpAny_pure (hR h' tk acc c ts (fun b o q1 q2 e => he b o q1 (keep b o q1 q2 e)) (he S _ hSo hS) (by omega) ⟨G.rise, G.above, fun j a hj => ?_⟩ hacc)
    obtain ⟨x, y, e1, e2, e3⟩ := G.two j a hj
    exact ⟨x, y, e1, e2, he a _ (zp_out hl (G.above a (List.mem_of_getElem? hj))) e3⟩
  | succ k ih =>
    intro i h tk c acc ts hk hi st keep hS hacc hal G
    have hlt : i < n := by omega
    have q1 : i < xs.size := by omega
    have q2 : i < ys.size := by omega
    have ex := Array.getElem?_eq_getElem q1
    have ey := Array.getElem?_eq_getElem q2
    have hsz : acc.size = i := by rw [← Array.length_toList, hacc, List.length_map, hal]
    have hSl : S < h.objs.size := Heap.lt_size hS
    refine (codeAny_builtin PySem.F.entry_extend_loop ?_)
    rw [Around.under_plainId PySem.F.plain_extend_loop _]; show wpAny _ A.in1 (pyNext (.ref z) >>= _) _ _ _
    refine wpAny_bind (zp_item (s := { s with heap := h, toks := tk }) D st hSl ex ey fun h' st' ht hz hkp => ?_)
    dsimp only at ht hz hkp ⊢
    have hS' := hkp S _ hSo hS
    have up : ∀ b o, b ≠ S → h'.get? b = some o → (h'.update S (Obj.mapSeq (·.push (Value.ref h.objs.size)))).get? b = some o := fun b o hb e => by
      rw [Heap.get?_update_other _ _ (Ne.symm hb)]; exact e
    show wpAny _ A.in1 (updateSeq S (·.push (Value.ref h.objs.size)) >>= _) _ _ _; refine wpAny_bind ?_
    refine wpAny_updateSeq hS' rfl (wpAny_pure ⟨plainId_quiet PySem.F.plain_extend_loop _, ih (i + 1) _ tk _ (acc.push (Value.ref h.objs.size)) (ts ++ [h.objs.size]) (by omega) (by omega)
      (st'.keep up (Nat.ne_of_lt hl2.1) (Nat.ne_of_lt hl.2.2.1) (Nat.ne_of_lt hl.2.2.2) (Nat.ne_of_lt hl2.2.1) (Nat.ne_of_lt hl2.2.2) (Nat.ne_of_lt hl.1) (Nat.ne_of_lt hl.2.1)) (fun b o p1 p2 e => up b o p2 (hkp b o p1 (keep b o p1 p2 e)))
      (Heap.get?_update_self _ hS' rfl) (by rw [Array.toList_push, hacc, List.map_append]; rfl) (by rw [List.length_append, hal]; rfl) ⟨?_, ?_, ?_⟩⟩) (by rw [hsz]; omega) (by show (acc.push (Value.ref h.objs.size)).size ≤ sizeLine + 1; rw [Array.size_push, hsz]; omega)
    · refine List.pairwise_append.mpr ⟨G.rise, List.pairwise_singleton _ _, fun a ha b hb => ?_⟩
      obtain ⟨j, hj⟩ := List.mem_iff_getElem?.mp ha
      obtain ⟨_, _, _, _, e⟩ := G.two j a hj
      rw [List.mem_singleton.mp hb]; exact Heap.lt_size e
    · intro a ha
      rcases List.mem_append.mp ha with ha | ha
      · exact G.above a ha
      · rw [List.mem_singleton.mp ha]; exact hSl
    · intro j b hj
      rcases Nat.lt_trichotomy j ts.length with p | p | p
      · rw [List.getElem?_append_left p] at hj
        obtain ⟨x, y, e1, e2, e3⟩ := G.two j b hj
        have hb := G.above b (List.mem_of_getElem? hj)
        exact ⟨x, y, e1, e2, up b _ (Nat.ne_of_gt hb) (hkp b _ (zp_out hl hb) e3)⟩
      · subst p
        have hb : h.objs.size = b := by simpa using hj
        subst hb
        exact ⟨_, _, by rw [hal]; exact ex, by rw [hal]; exact ey, up _ _ (Nat.ne_of_gt hSl) ht⟩
      · rw [List.getElem?_eq_none (by rw [List.length_append, List.length_singleton]; omega)] at hj; cases hj
theorem zp_hint (hT : s.TypeIs (.ref z) "zip") {Q : Bool → Shared → Prop} (h : Q true s) : wpAny (model prog w) A (Builtin.List.listLengthHint (.ref z)) Q E s := by
  unfold Builtin.List.listLengthHint
  refine wpAny_bind (wpAny_specialOf hT zp_no_len ?_)
  show wpAny _ A (specialOf (Value.ref z) (Str.ofString "__length_hint__") >>= _) _ _ _
  refine wpAny_bind (wpAny_specialOf hT zp_no_hint ?_)
  exact wpAny_pure h
theorem zp_extend {R : Result → Shared → Prop} {n : Nat} (hh : A.handled = none) (D : ZipApart z TI TO i1 i2 l1 l2) (hl : z < S ∧ TO < S ∧ i1 < S ∧ i2 < S) (hl2 : TI < S ∧ l1 < S ∧ l2 < S) (en : n = min xs.size ys.size) (hn : n ≤ sizeLine) (res : Value) (c₀ : Nat)
    (hz : IsZip s.heap z TI TO .none) (st : ZpSt z TI TO i1 i2 l1 l2 S xs ys 0 s.heap) (hS : s.heap.get? S = some { cls := .type "list", data := .seq #[] c₀ })
    (hR : ∀ h' tk acc c ts, (∀ b o, b ∉ [z, TO, i1, i2] → b ≠ S → s.heap.get? b = some o → h'.get? b = some o) → h'.get? S = some { cls := .type "list", dict := none, data := .seq acc c, slots := #[] } → ts.length = n → ZpG xs ys S h' ts →
      acc.toList = ts.map Value.ref → R (.ok (.ret res)) { s with heap := h', toks := tk }) :
    wpAny (model prog w) A.in1 (Builtin.List.listExtendWith (.ref S) (.ref z) res)
      (fun fin s' => match fin with | .done f => R (.ok f) s' | .again c' => c'.quiet = true ∧ codeAny (model prog w) A c' R s') (fun e s' => R (.error e) s') s := by
  have hT : s.TypeIs (.ref z) "zip" := ⟨_, hz, rfl⟩
  have key : ∀ (h : Heap) (c₁ tk : Nat), (∀ b o, b ≠ S → s.heap.get? b = some o → h.get? b = some o) → h.get? S = some { cls := .type "list", data := .seq #[] c₁ } →
      codeAny (model prog w) A (.builtin "list.extend.loop" ⟨[.ref S, .ref z, res], []⟩) R { s with heap := h, toks := tk } := fun h c₁ tk hk hS₁ =>
    zp_loop (s := s) (h₁ := s.heap) hh D hl hl2 en hn res hR n 0 h tk c₁ #[] [] rfl (Nat.zero_le _)
      (st.keep hk (Nat.ne_of_lt hl2.1) (Nat.ne_of_lt hl.2.2.1) (Nat.ne_of_lt hl.2.2.2) (Nat.ne_of_lt hl2.2.1) (Nat.ne_of_lt hl2.2.2) (Nat.ne_of_lt hl.1) (Nat.ne_of_lt hl.2.1))
      (fun b o _ hb e => hk b o hb e) hS₁ rfl rfl ⟨List.Pairwise.nil, (fun _ ha => nomatch ha), fun j a hj => by simp at hj⟩
  unfold Builtin.List.listExtendWith
  refine wpAny_bind (wpAny_typeOf (T := "zip") hT ?_)
  have c1 : Builtin.List.listSameRef (.ref S) (.ref z) = false := by simp [Builtin.List.listSameRef, Nat.ne_of_gt hl.1]
  have c2 : (Value.type "zip" == Value.type "list") = false := by decide
  have c3 : (Value.type "zip" == Value.type "tuple") = false := by decide
  simp only [c1, c2, c3, Bool.or_false, Bool.false_eq_true, if_false]
  refine wpAny_bind (wpAny_pyIter_zip hz ?_)
  refine wpAny_bind (wpAny_holding (zp_hint hT ?_))
  refine wpAny_ite_split (fun _ => ?_) (fun hab => absurd rfl hab)
  refine wpAny_bind (wpAny_rule (wpAny_bind ?_))
  show wpAny _ _ (updateSeq S (·.push .none) >>= fun _ => updateSeq S (·.pop)) _ _ s
  refine wpAny_bind (wpAny_updateSeq hS rfl ?_)
  have t2 := Heap.get?_update_self (Obj.mapSeq (·.push Value.none)) hS rfl
  refine wpAny_updateSeq (hz := by seq_fits) t2 rfl ?_
  have t3 := Heap.get?_update_self (Obj.mapSeq (·.pop)) t2 rfl
  refine wpAny_pure ⟨plainId_quiet PySem.F.plain_extend_loop _, key _ _ _ (fun b o hb e => ?_) t3⟩
  rw [Heap.get?_update_other _ _ (Ne.symm hb), Heap.get?_update_other _ _ (Ne.symm hb)]; exact e
theorem zp_init {R : Result → Shared → Prop} {n : Nat} (hh : A.handled = none) (D : ZipApart z TI TO i1 i2 l1 l2) (hl : z < S ∧ TO < S ∧ i1 < S ∧ i2 < S) (hl2 : TI < S ∧ l1 < S ∧ l2 < S) (en : n = min xs.size ys.size) (hn : n ≤ sizeLine)
    (hz : IsZip s.heap z TI TO .none) (st : ZpSt z TI TO i1 i2 l1 l2 S xs ys 0 s.heap) (hS : s.heap.get? S = some { cls := .type "list", data := .seq #[] })
    (hR : ∀ h' tk acc c ts, (∀ b o, b ∉ [z, TO, i1, i2] → b ≠ S → s.heap.get? b = some o → h'.get? b = some o) → h'.get? S = some { cls := .type "list", dict := none, data := .seq acc c, slots := #[] } → ts.length = n → ZpG xs ys S h' ts →
      acc.toList = ts.map Value.ref → R (.ok (.ret .none)) { s with heap := h', toks := tk }) :
    wpAny (model prog w) A.in1 (Builtin.«list.__init__» ⟨[.ref S, .ref z], []⟩)
      (fun fin s' => match fin with | .done f => R (.ok f) s' | .again c' => c'.quiet = true ∧ codeAny (model prog w) A c' R s') (fun e s' => R (.error e) s') s := by
  show wpAny _ _ (do let old ← Builtin.List.listItems (.ref S); Builtin.List.listUpdate (.ref S) (fun _ => #[]); letGo old.toList.reverse; Builtin.List.listExtendWith (.ref S) (.ref z) .none) _ _ s
  refine wpAny_bind ?_; unfold Builtin.List.listItems
  refine wpAny_bind (wpAny_seqItems hS rfl (wpAny_pure ?_))
  show wpAny _ _ (updateSeq S (fun _ => #[]) >>= fun _ => letGo (#[] : Array Value).toList.reverse >>= fun _ => Builtin.List.listExtendWith (.ref S) (.ref z) .none) _ _ s
  refine wpAny_bind (wpAny_updateSeq hS rfl ?_)
  have t2 := Heap.get?_update_self (Obj.mapSeq (fun _ => (#[] : Array Value))) hS rfl
  have oth : ∀ b o, b ≠ S → s.heap.get? b = some o → (s.heap.update S (Obj.mapSeq (fun _ => (#[] : Array Value)))).get? b = some o := fun b o hb e => by
    rw [Heap.get?_update_other _ _ (Ne.symm hb)]; exact e
  refine wpAny_bind (wpAny_letGo ?_)
  refine zp_extend (n := n) hh D hl hl2 en hn .none _ (oth _ _ (Nat.ne_of_lt hl.1) hz) (st.keep oth (Nat.ne_of_lt hl2.1) (Nat.ne_of_lt hl.2.2.1) (Nat.ne_of_lt hl.2.2.2) (Nat.ne_of_lt hl2.2.1) (Nat.ne_of_lt hl2.2.2) (Nat.ne_of_lt hl.1) (Nat.ne_of_lt hl.2.1)) t2 fun h' tk acc c ts hk hS' q1 q2 q3 => ?_
  exact hR h' tk acc c ts (fun b o n1 hb e => hk b o n1 hb (oth b o hb e)) hS' q1 q2 q3
theorem zp_call {Q : Value → Shared → Prop} {n : Nat} (hh : A.handled = none) (D : ZipApart z TI TO i1 i2 l1 l2) (en : n = min xs.size ys.size) (hn : n ≤ sizeLine) (hz : IsZip s.heap z TI TO .none) (hTI : IsPair s.heap TI (.ref i1) (.ref i2)) (hTO : IsPair s.heap TO .none .none)
    (h1 : s.heap.IsListIter i1 l1 0) (h2 : s.heap.IsListIter i2 l2 0) (hl1 : s.heap.IsList l1 xs) (hl2 : s.heap.IsList l2 ys)
    (hQ : ∀ h' tk acc c ts, (∀ b o, b ∉ [z, TO, i1, i2] → s.heap.get? b = some o → h'.get? b = some o) → h'.get? s.heap.objs.size = some { cls := .type "list", dict := none, data := .seq acc c, slots := #[] } → ts.length = n → ZpG xs ys s.heap.objs.size h' ts →
      acc.toList = ts.map Value.ref → Q (.ref s.heap.objs.size) { s with heap := h', toks := tk }) :
    wpAny (model prog w) A (call (.type "list") [.ref z]) Q E s := by
  refine callType_codes (Q₁ := fun obj s₁ => obj = .ref s.heap.objs.size ∧ s₁ = { s with heap := s.heap.push { cls := .type "list", data := .seq #[] } }) PySem.F.called_list (PySem.F.typeCall_list_1 _) PySem.F.entry_list_init (code_list_new _ ⟨rfl, rfl⟩) fun obj s₁ q => ?_
  obtain ⟨rfl, rfl⟩ := q
  have hS : (s.heap.push { cls := .type "list", data := .seq #[] }).get? s.heap.objs.size = some { cls := .type "list", data := .seq #[] } := by exact Heap.get?_push_size _ rfl
  have lt : ∀ {b o}, s.heap.get? b = some o → b < s.heap.objs.size := fun e => Heap.lt_size e
  have up : ∀ {b o}, s.heap.get? b = some o → (s.heap.push { cls := .type "list", data := .seq #[] }).get? b = some o := fun e => Heap.get?_push_of_some _ e
  have a1 : i1 < s.heap.objs.size := let ⟨_, e, _⟩ := h1; lt e
  have a2 : i2 < s.heap.objs.size := let ⟨_, e, _⟩ := h2; lt e
  have a3 : l1 < s.heap.objs.size := let ⟨_, e, _⟩ := hl1; lt e
  have a4 : l2 < s.heap.objs.size := let ⟨_, e, _⟩ := hl2; lt e
  refine ⟨⟨_, hS, rfl⟩, PySem.F.args_list_init_2 _ _, zp_init (n := n) (A := A.in1) hh D ⟨lt hz, lt hTO, a1, a2⟩ ⟨lt hTI, a3, a4⟩ en hn (up hz) ⟨up hTI, h1.at fun o e => up e, h2.at fun o e => up e, hl1.at fun o e => up e, hl2.at fun o e => up e, .inl ⟨up hz, _, _, up hTO⟩⟩ hS fun h' tk acc c ts hk hS' q1 q2 q3 => ?_⟩
  exact ⟨rfl, hQ h' tk acc c ts (fun b o nb e => hk b o nb (Nat.ne_of_lt (lt e)) (up e)) hS' q1 q2 q3⟩
end
/-- pairs laid at addresses -/
def putZ : Hp → List Addr → List (V × V) → Hp
  | H, a :: as, p :: ps => putZ (upd H a (.tup [p.1, p.2])) as ps
  | H, _, _ => H
theorem putZ_off {b : Addr} : ∀ (as : List Addr) (ps : List (V × V)) (H : Hp), b ∉ as → putZ H as ps b = H b
  | [], _, _, _ => rfl
  | _ :: _, [], _, _ => rfl
  | a :: as, p :: ps, H, h => by
    rw [putZ, putZ_off as ps _ (fun z => h (List.mem_cons_of_mem _ z)), upd_ne (fun z => h (by rw [z]; exact List.mem_cons_self))]
theorem putZ_at : ∀ (as : List Addr) (ps : List (V × V)) (H : Hp), as.Nodup → ∀ (j : Nat) (a : Addr) (p : V × V), as[j]? = some a → ps[j]? = some p → putZ H as ps a = some (.tup [p.1, p.2])
  | [], _, _, _, j, a, p, h, _ => by simp at h
  | _ :: _, [], _, _, j, a, p, _, h => by simp at h
  | a0 :: as, p0 :: ps, H, hn, 0, a, p, h1, h2 => by
    have hn' := List.nodup_cons.mp hn
    cases h1; cases h2
    rw [putZ, putZ_off as ps _ hn'.1, upd_same]
  | a0 :: as, p0 :: ps, H, hn, j + 1, a, p, h1, h2 => by
    rw [putZ]
    exact putZ_at as ps _ (List.nodup_cons.mp hn).2 j a p (by simpa using h1) (by simpa using h2)
section
variable {X : Cx}
theorem zp_laid {pins : List (Addr × Obj)} {σ : L2.St} {H : Hp} {s : Shared} {h' : Heap} {tk : Nat} {xs ys : List V} {us vs : List Value} {acc : Array Value} {c : Nat} {ts : List Addr} {S : Addr} (I : Inv X pins σ H s) (rx : Vals xs us) (ry : Vals ys vs) (hz : xs.length ≤ sizeLine)
    (hk : ∀ b o, s.heap.get? b = some o → h'.get? b = some o) (hSl : s.heap.objs.size ≤ S) (hS : h'.get? S = some { cls := .type "list", dict := none, data := .seq acc c, slots := #[] }) (hl : ts.length = min us.length vs.length) (G : ZpG us.toArray vs.toArray S h' ts) (hacc : acc.toList = ts.map Value.ref) :
    ∃ H' : Hp, Same H H' ∧ H S = none ∧ (∀ t, t ∈ ts → H t = none) ∧ ts.Nodup ∧ S ∉ ts ∧ ts.length = min xs.length ys.length ∧ H' S = some (.lst (ts.map V.ref)) ∧ (∀ (j : Nat) (t : Addr) (x y : V), ts[j]? = some t → xs[j]? = some x → ys[j]? = some y → H' t = some (.tup [x, y])) ∧ Inv X pins σ H' { s with heap := h', toks := tk } := by
  have lx : xs.length = us.length := Paired.length rx
  have ly : ys.length = vs.length := Paired.length ry
  have nS : S ∉ ts := fun z => Nat.lt_irrefl _ (G.above _ z)
  have nd : ts.Nodup := List.Pairwise.imp (fun {a b} (h : a < b) => Nat.ne_of_lt h) G.rise
  have new : ∀ t, t ∈ ts → H t = none := fun t ht => I.hok.fresh (Nat.le_of_lt (Nat.lt_of_le_of_lt hSl (G.above t ht)))
  have newS : H S = none := I.hok.fresh hSl
  have off : ∀ b, b ∉ ts → b ≠ S → putZ (upd H S (.lst (ts.map V.ref))) ts (xs.zip ys) b = H b := fun b h1 h2 => by rw [putZ_off ts _ _ h1, upd_ne h2]
  have low : ∀ b o, s.heap.get? b = some o → b ∉ ts ∧ b ≠ S := fun b o e => ⟨fun z => absurd (Heap.lt_size e) (Nat.not_lt.mpr (Nat.le_of_lt (Nat.lt_of_le_of_lt hSl (G.above b z)))), Nat.ne_of_lt (Nat.lt_of_lt_of_le (Heap.lt_size e) hSl)⟩
  have kp : Same H (putZ (upd H S (.lst (ts.map V.ref))) ts (xs.zip ys)) := fun b u e => by
    rw [off b (fun z => by rw [new b z] at e; cases e) (fun z => by rw [z, newS] at e; cases e)]; exact e
  have eS : putZ (upd H S (.lst (ts.map V.ref))) ts (xs.zip ys) S = some (.lst (ts.map V.ref)) := by rw [putZ_off ts _ _ nS, upd_same]
  have eT : ∀ (j : Nat) (t : Addr) (x y : V), ts[j]? = some t → xs[j]? = some x → ys[j]? = some y → putZ (upd H S (.lst (ts.map V.ref))) ts (xs.zip ys) t = some (.tup [x, y]) := fun j t x y h1 h2 h3 =>
    putZ_at ts (xs.zip ys) _ nd j t (x, y) h1 (by rw [List.getElem?_zip_eq_some]; exact ⟨h2, h3⟩)
  refine ⟨putZ (upd H S (.lst (ts.map V.ref))) ts (xs.zip ys), kp, newS, new, nd, nS, by omega, eS, eT, ?_⟩
  refine I.call' (ch := []) rfl ⟨fun b o q _ _ _ => hk b o q, fun b o q _ _ _ => ⟨o.slots, hk b o q⟩, fun b o q n _ => ?_, fun b o q _ => ⟨o, hk b o q⟩, fun b zs q => kp b _ q, fun b o u q => kp b _ q, fun b ps q => ⟨#[], by rw [kp b _ q]; simp⟩⟩ (fun b u q => ?_) I.bare fun b z => by simp at z
  · obtain ⟨z1, z2⟩ := low b o q
    rw [off b z1 z2]; exact n
  · by_cases hb : b ∈ ts
    · obtain ⟨j, hj⟩ := List.mem_iff_getElem?.mp hb
      obtain ⟨vx, vy, f1, f2, f3⟩ := G.two j b hj
      have jx : j < us.length := by
        have := (List.getElem?_eq_some_iff.mp hj).1
        omega
      have jy : j < vs.length := by
        have := (List.getElem?_eq_some_iff.mp hj).1
        omega
      obtain ⟨ux, g1, g2⟩ := Vals.get rx (List.getElem?_eq_getElem (show j < xs.length by omega))
      obtain ⟨uy, g3, g4⟩ := Vals.get ry (List.getElem?_eq_getElem (show j < ys.length by omega))
      have e1 : vx = ux := by rw [List.getElem?_toArray, g1] at f1; exact (Option.some.inj f1).symm
      have e2 : vy = uy := by rw [List.getElem?_toArray, g3] at f2; exact (Option.some.inj f2).symm
      subst e1; subst e2
      rw [eT j b _ _ hj (List.getElem?_eq_getElem (show j < xs.length by omega)) (List.getElem?_eq_getElem (show j < ys.length by omega))] at q
      cases q
      exact ⟨by show 2 ≤ sizeLine; decide, [vx, vy], .cons g2 (.cons g4 .nil), ⟨_, f3, rfl, _, rfl⟩⟩
    · by_cases hb2 : b = S
      · rw [hb2] at q ⊢
        rw [eS] at q
        cases q
        refine ⟨by rw [List.length_map]; omega, acc.toList, c, by rw [hacc]; exact L2.vals_refs ts, ?_⟩
        rw [Array.toArray_toList]; exact hS
      · rw [off b hb hb2] at q
        exact (I.hok b u q).stay (fun d v _ y => hk d v y) (fun d y => kp d _ y) fun d zs y => kp d _ y
/-- list(zip(a, b)) -/
def tLzp (K : PySem.W.Frag) (ta : TA) : TE := fun σ H Q => ta σ H fun vs H1 => ∃ a b xs ys, vs = [.ref a, .ref b] ∧ SqL K H1 a xs ∧ SqL K H1 b ys ∧
  ∀ (r : Addr) (ts : List Addr) (H2 : Hp), H1 r = none → Same H1 H2 → ts.length = min xs.length ys.length → ts.Nodup → r ∉ ts → (∀ t, t ∈ ts → H1 t = none) → H2 r = some (.lst (ts.map V.ref)) →
    (∀ (j : Nat) (t : Addr) (x y : V), ts[j]? = some t → xs[j]? = some x → ys[j]? = some y → H2 t = some (.tup [x, y])) → Q (.ref r) H2
theorem pe_lzp {e e2 : Expr} {ta : TA} {p p2 pos pos2 : Pos} (hc : X.calm = true) (hg : Gl X "list") (hm : X.mg "list" = none) (hg2 : Gl X "zip") (hm2 : X.mg "zip" = none) (ha : PA X [e, e2] ta)
    (na : starEach [.Call (.Name "zip" p2) [e, e2] [] pos2] X.env = (false, eval (.Call (.Name "zip" p2) [e, e2] [] pos2) X.env) :: starEach [] X.env := by rfl)
    (hs : starEach [e, e2] X.env = (false, eval e X.env) :: starEach [e2] X.env := by rfl) (hpl : (backTo pos2 (starEach [e2] X.env)).any (·.1) = false := by rfl) :
    PE X (.Call (.Name "list" p) [.Call (.Name "zip" p2) [e, e2] [] pos2] [] pos) (tLzp X.K ta) := by
  refine ⟨fun pins s σ H Q I h => ?_⟩
  refine Call_ (ld_blt I hg hm boot_list (PyProof.Rows.callWith_type1 (args_cons ?_ na) na))
  refine Call_ (ld_blt I hg2 hm2 PyProof.Rows.boot_zip (PyProof.Rows.callWith_type1 (thn (ha.run pos2 pins s σ H _ I h) fun us s1 ⟨vs, H1, I1, r1, q1⟩ => ?_) hs hpl))
  obtain ⟨a, b, xs, ys, ex, hqx, hqy, q⟩ := q1
  subst ex
  obtain ⟨_, _, rfl, r, rr⟩ : ∃ u1 u2, us = [u1, u2] ∧ RelV (.ref a) u1 ∧ RelV (.ref b) u2 := by
    cases r1 with
    | cons r rr => cases rr with
      | cons r' rr => cases rr; exact ⟨_, _, rfl, r, r'⟩
  cases r; cases rr
  obtain ⟨its, rv, p1, hzx⟩ := I1.list hqx
  obtain ⟨its2, rv2, p3, _⟩ := I1.list hqy
  refine call_zip_2 p1.isList p3.isList fun h2 hz hTI hTO k1 k2 hsz hk => ?_
  refine args_nil ?_
  have up1 : h2.IsList a its.toArray := p1.isList.at fun o e => hk _ o e
  have up2 : h2.IsList b its2.toArray := p3.isList.at fun o e => hk _ o e
  refine zp_call (s := { s1 with heap := h2 }) (n := min its.length its2.length) (I1.ok.hd hc) (PySem.W.ktu_apart s1.heap.objs.size a b p1.lt p3.lt) (by simp) (by have := Paired.length rv; omega) hz hTI hTO k1 k2 up1 up2 fun h' tk acc c ts hk2 hS hl G hacc => ?_
  have hkk : ∀ b o, s1.heap.get? b = some o → h'.get? b = some o := fun b o e => hk2 b o (fun hm => by
    have := Heap.lt_size e
    simp only [List.mem_cons, List.not_mem_nil, or_false] at hm
    rcases hm with z | z | z | z
    · exact absurd (z ▸ this) (Nat.not_lt.mpr (Nat.le_add_right _ _))
    · exact absurd (z ▸ this) (Nat.not_lt.mpr (Nat.le_add_right _ _))
    · exact absurd (z ▸ this) (Nat.lt_irrefl _)
    · exact absurd (z ▸ this) (Nat.not_lt.mpr (Nat.le_add_right _ _))) (hk b o e)
  have hSl : s1.heap.objs.size ≤ h2.objs.size := by rw [hsz]; exact Nat.le_add_right _ _
  obtain ⟨H', g1, g2, g3, g4, g5, g6, g7, g8, J⟩ := zp_laid (tk := tk) I1 rv rv2 hzx hkk hSl hS hl G hacc
  exact ⟨.ref _, H', J, rfl, q _ ts H' g2 g1 g6 g4 g5 g3 g7 g8⟩
end
end VC

/-! VC, part 7: the induction over expressions. -/
namespace VC
open PySem PySem.Spec PyProof.Rows L2

theorem mth_slot {m : Str} (h : (["append", "pop", "clear", "index"] : List Str).contains m = true) : (mthT m).1 = "list" ∧ Slot "list" m (mthT m).2 ∧ typeOf (.builtin (mthT m).2) = pure (.type "method_descriptor") := by
  simp only [List.contains_cons, List.contains_nil, Bool.or_eq_true, Bool.or_false, beq_iff_eq] at h
  rcases h with rfl | rfl | rfl | rfl
  · exact ⟨by decide +kernel, PySem.F.slot_list_append, PySem.F.type_list_append⟩
  · exact ⟨by decide +kernel, PySem.F.slot_list_pop, PySem.F.type_list_pop⟩
  · exact ⟨by decide +kernel, PySem.F.slot_list_clear, PySem.F.type_list_clear⟩
  · exact ⟨by decide +kernel, PySem.F.slot_list_index, PySem.F.type_list_index⟩

theorem pg_names {X : Cx} {ok : Str → Bool} (hN : X.N.Nodup) (hok : ∀ x, ok x = true → L2.Loc X.env.scope x ∧ (X.fn x = true ∨ X.env.scope.names.lookup x = some .local)) : ∀ {js : List Nat} {es : List Expr}, ckTs ok X.N js es = true → PGs X es (gNames js) ∧ (assignEach es X.env).length = js.length ∧ (assignEach es X.env).findIdx? (·.1) = none
  | [], [], _ => ⟨pgs_nil, rfl, rfl⟩
  | j :: js, e :: es, h => by
    cases e <;> first | (cases h; done) | skip
    rename_i x p
    simp only [ckTs, Bool.and_eq_true, decide_eq_true_eq] at h
    obtain ⟨⟨h1, h2⟩, h3⟩ := h
    obtain ⟨r1, r2, r3⟩ := pg_names hN hok h3
    obtain ⟨l1, l2⟩ := hok x h2
    refine ⟨pgs_cons (pg_name hN h1 l1 l2) r1 rfl, ?_, ?_⟩
    · show (assignEach es X.env).length + 1 = js.length + 1
      rw [r2]
    · have e : assignEach (Expr.Name x p :: es) X.env = (false, assign (Expr.Name x p) X.env) :: assignEach es X.env := rfl
      rw [e, List.findIdx?_cons, r3]
      rfl
  | [], _ :: _, h => by cases h
  | _ :: _, [], h => by cases h
theorem pg_of {X : Cx} {ok : Str → Bool} (hc : X.calm = true) (hN : X.N.Nodup) (hok : ∀ x, ok x = true → L2.Loc X.env.scope x ∧ (X.fn x = true ∨ X.env.scope.names.lookup x = some .local)) {tg : Tg} {e : Expr} (h : ckTg ok X.N tg e = true) : PG X e (tgR X.K tg) := by
  cases tg with
  | name j =>
    cases e <;> first | (cases h; done) | skip
    simp only [ckTg, Bool.and_eq_true, decide_eq_true_eq] at h
    obtain ⟨l1, l2⟩ := hok _ h.2
    exact pg_name hN h.1 l1 l2
  | tup js =>
    cases e <;> first | (cases h; done) | skip
    obtain ⟨r1, r2, r3⟩ := pg_names hN hok (show ckTs ok X.N js _ = true from h)
    exact pg_tup hc r1 r2 r3

theorem noSet_marks {op : CmpOp} {e : Expr} (h : noSet e = true) : behindInMarks op e = false := by
  cases e <;> first | rfl | (cases h)

/-- a walk, told by its source: any use of it that serves the source serves the iterator -/
def PIw (X : Cx) (tg : Tg) (t iter : Expr) (wi : L2.St → Hp → (Src → Hp → Prop) → Prop) : Prop :=
  ∃ wi' : TI, PI X t iter wi' ∧ ∀ (σ : L2.St) (H : Hp) (R : Src → Hp → Prop) (R' : L2.It → Hp → Prop), (∀ s J H', SrcIs X.K tg s J → R s H' → R' J H') → wi σ H R → wi' σ H R'

/-- a reading closed upwards -/
def up (t : TE) : TE := fun σ H Q => ∃ Q' : VK, t σ H Q' ∧ ∀ v H', Q' v H' → Q v H'
theorem PE.up {X : Cx} {e : Expr} {t : TE} (h : PE X e t) : PE X e (up t) := ⟨fun pins s σ H Q I q => by
  obtain ⟨Q', h1, h2⟩ := q
  refine thn (h.run pins s σ H Q' I h1) ?_
  rintro u s' ⟨v, H', I', r, q'⟩
  exact ⟨v, H', I', r, h2 v H' q'⟩⟩
def upA (t : TA) : TA := fun σ H Q => ∃ Q' : List V → Hp → Prop, t σ H Q' ∧ ∀ v H', Q' v H' → Q v H'
theorem PA.up {X : Cx} {e : List Expr} {t : TA} (h : PA X e t) : PA X e (upA t) := ⟨fun pos pins s σ H Q I q => by
  obtain ⟨Q', h1, h2⟩ := q
  refine thn (h.run pos pins s σ H Q' I h1) ?_
  rintro u s' ⟨v, H', I', r, q'⟩
  exact ⟨v, H', I', r, h2 v H' q'⟩⟩

theorem piw_seq {X : Cx} {tg : Tg} {t e : Expr} {te : TE} (h : PE X e te) : PIw X tg t e (fun σ H R => te σ H fun x H1 => match x with
    | .ref a => onL X.K H1 a fun xs => R (.lst a xs) H1
    | _ => False) := by
  refine ⟨iList X.K (up te), pi_list (PE.up h), ?_⟩
  intro σ H R R' hR q
  refine ⟨_, q, ?_⟩
  intro v H' z
  split at z
  · obtain ⟨xs, z1, z2⟩ := z.to
    exact ⟨_, rfl, ⟨xs, z1⟩, hR _ _ _ (src_lst _ _) z2⟩
  · exact z.elim
theorem piw_enm {X : Cx} {tg : Tg} {e : Expr} {te : TE} {elts : List Expr} {kk : Nat} {tpos p pos : Pos} (hg : glB X.env.scope "enumerate" = true) (hm : X.mg "enumerate" = none) (hs : ∀ z p, e ≠ .Starred z p) (h : PE X e te) :
    PIw X tg (.Tuple elts kk tpos) (.Call (.Name "enumerate" p) [e] [] pos) (fun σ H R => te σ H fun x H1 => match x with
    | .ref a => onL X.K H1 a fun xs => R (.enm a xs) H1
    | _ => False) := by
  have s1 : starEach [e] X.env = [(false, eval e X.env)] := star_cons hs
  refine ⟨_, pi_enum (glB_ok hg).1 hm (pa_cons (PE.up h) pa_nil s1) s1, ?_⟩
  intro σ H R R' hR q
  refine ⟨_, q, ?_⟩
  intro v H' z
  split at z
  · obtain ⟨xs, z1, z2⟩ := z.to
    exact ⟨_, xs, rfl, z1, hR _ _ _ (src_enm _ _) z2⟩
  · exact z.elim
theorem piw_zip {X : Cx} {tg : Tg} {e e2 : Expr} {te te2 : TE} {elts : List Expr} {kk : Nat} {tpos p pos : Pos} (hg : glB X.env.scope "zip" = true) (hm : X.mg "zip" = none) (hs : ∀ z p, e ≠ .Starred z p) (hs2 : ∀ z p, e2 ≠ .Starred z p) (h : PE X e te) (h2 : PE X e2 te2) :
    PIw X tg (.Tuple elts kk tpos) (.Call (.Name "zip" p) [e, e2] [] pos) (fun σ H R => te σ H fun x H1 => te2 σ H1 fun y H2 => match x, y with
    | .ref a, .ref b => onL X.K H2 a fun xs => onL X.K H2 b fun ys => R (.zip a b xs ys) H2
    | _, _ => False) := by
  have s1 : starEach [e, e2] X.env = (false, eval e X.env) :: starEach [e2] X.env := star_cons hs
  have s2 : starEach [e2] X.env = (false, eval e2 X.env) :: starEach [] X.env := star_cons hs2
  have s3 : (backTo pos (starEach [e2] X.env)).any (·.1) = false := noStar_any (by intro x hx; simp at hx; subst hx; exact hs2)
  refine ⟨_, pi_zip (glB_ok hg).1 hm (pa_cons (PE.up h) (pa_cons (PE.up h2) pa_nil s2) s1) s1 s3, ?_⟩
  intro σ H R R' hR q
  refine ⟨_, q, fun x H1 q1 => ⟨_, q1, ?_⟩⟩
  intro y H2 z
  show ∃ a b xs ys, [x, y] = [V.ref a, V.ref b] ∧ _
  split at z
  · obtain ⟨xs, z1, z2⟩ := z.to
    obtain ⟨ys, z3, z4⟩ := z2.to
    exact ⟨_, _, xs, ys, rfl, z1, z3, hR _ _ _ (src_zip _ _ _ _) z4⟩
  · exact z.elim
theorem pe_lzpW {X : Cx} {e e2 : Expr} {te te2 : TE} {p p2 pos pos2 : Pos} (hg : glB X.env.scope "list" = true) (hg2 : glB X.env.scope "zip" = true) (hm : X.mg "list" = none) (hm2 : X.mg "zip" = none) (hc : X.calm = true) (hs : ∀ z p, e ≠ .Starred z p) (hs2 : ∀ z p, e2 ≠ .Starred z p) (h : PE X e te) (h2 : PE X e2 te2) :
    PE X (.Call (.Name "list" p) [.Call (.Name "zip" p2) [e, e2] [] pos2] [] pos) (fun σ H Q => te σ H fun x H1 => te2 σ H1 fun y H2 => match x, y with
    | .ref a, .ref b => onL X.K H2 a fun xs => onL X.K H2 b fun ys => lzpW H2 xs ys Q
    | _, _ => False) := by
  have s1 : starEach [e, e2] X.env = (false, eval e X.env) :: starEach [e2] X.env := star_cons hs
  have s2 : starEach [e2] X.env = (false, eval e2 X.env) :: starEach [] X.env := star_cons hs2
  have s3 : (backTo pos2 (starEach [e2] X.env)).any (·.1) = false := noStar_any (by intro x hx; simp at hx; subst hx; exact hs2)
  refine PE.imp (pe_lzp hc (glB_ok hg).1 hm (glB_ok hg2).1 hm2 (pa_cons (PE.up h) (pa_cons (PE.up h2) pa_nil s2) s1) rfl s1 s3) ?_
  intro σ H Q q
  refine ⟨_, q, fun x H1 q1 => ⟨_, q1, ?_⟩⟩
  intro y H2 z
  show ∃ a b xs ys, [x, y] = [V.ref a, V.ref b] ∧ _
  split at z
  · obtain ⟨xs, z1, z2⟩ := z.to
    obtain ⟨ys, z3, z4⟩ := z2.to
    exact ⟨_, _, xs, ys, rfl, z1, z3, z4⟩
  · exact z.elim
theorem piw_rng1 {X : Cx} {tg : Tg} {t e : Expr} {te : TE} {p pos : Pos} (hg : glB X.env.scope "range" = true) (hm : X.mg "range" = none) (hs : ∀ z p, e ≠ .Starred z p) (h : PE X e te) :
    PIw X tg t (.Call (.Name "range" p) [e] [] pos) (fun σ H R => te σ H fun x H1 => rngW [x] fun lo st n => R (.rng lo st n) H1) := by
  have s1 : starEach [e] X.env = [(false, eval e X.env)] := star_cons hs
  refine ⟨_, pi_range1 (glB_ok hg).1 hm (pa_cons (PE.up h) pa_nil s1) s1, ?_⟩
  intro σ H R R' hR q
  refine ⟨_, q, ?_⟩
  intro x H1 z
  show ∃ j : Int, [x] = [V.int j] ∧ _
  cases x with
  | int j =>
    obtain ⟨z1, z2, z3⟩ := z
    exact ⟨j, rfl, z1, z2, hR _ _ _ (src_rng _ _) z3⟩
  | _ => exact z.elim
theorem piw_rng2 {X : Cx} {tg : Tg} {t e e2 : Expr} {te te2 : TE} {p pos : Pos} (hg : glB X.env.scope "range" = true) (hm : X.mg "range" = none) (hs : ∀ z p, e ≠ .Starred z p) (hs2 : ∀ z p, e2 ≠ .Starred z p) (h : PE X e te) (h2 : PE X e2 te2) :
    PIw X tg t (.Call (.Name "range" p) [e, e2] [] pos) (fun σ H R => te σ H fun x H1 => te2 σ H1 fun y H2 => rngW [x, y] fun lo st n => R (.rng lo st n) H2) := by
  have s2 : starEach [e2] X.env = [(false, eval e2 X.env)] := star_cons hs2
  have s1 : starEach [e, e2] X.env = [(false, eval e X.env), (false, eval e2 X.env)] := by rw [star_cons hs, s2]
  refine ⟨_, pi_range2 (glB_ok hg).1 hm (pa_cons (PE.up h) (pa_cons (PE.up h2) pa_nil s2) (star_cons hs)) s1 s2, ?_⟩
  intro σ H R R' hR q
  refine ⟨_, q, fun x H1 q1 => ⟨_, q1, ?_⟩⟩
  intro y H2 z
  show ∃ i j : Int, [x, y] = [V.int i, V.int j] ∧ _
  cases x with
  | int i =>
    cases y with
    | int j =>
      obtain ⟨z1, z3⟩ := z
      exact ⟨i, j, rfl, z1, hR _ _ _ (src_rng _ _) z3⟩
    | _ => exact z.elim
  | _ => exact z.elim
theorem piw_rng3 {X : Cx} {tg : Tg} {t e e2 e3 : Expr} {te te2 te3 : TE} {p pos : Pos} (hg : glB X.env.scope "range" = true) (hm : X.mg "range" = none) (hs : ∀ z p, e ≠ .Starred z p) (hs2 : ∀ z p, e2 ≠ .Starred z p) (hs3 : ∀ z p, e3 ≠ .Starred z p) (h : PE X e te) (h2 : PE X e2 te2) (h3 : PE X e3 te3) :
    PIw X tg t (.Call (.Name "range" p) [e, e2, e3] [] pos) (fun σ H R => te σ H fun x H1 => te2 σ H1 fun y H2 => te3 σ H2 fun w H3 => rngW [x, y, w] fun lo st n => R (.rng lo st n) H3) := by
  have s3 : starEach [e3] X.env = (false, eval e3 X.env) :: starEach [] X.env := star_cons hs3
  have s2 : starEach [e2, e3] X.env = (false, eval e2 X.env) :: starEach [e3] X.env := star_cons hs2
  have s4 : (backTo pos (starEach [e2, e3] X.env)).any (·.1) = false := noStar_any (by
    intro x hx
    simp at hx
    rcases hx with rfl | rfl
    · exact hs2
    · exact hs3)
  refine ⟨_, pi_range3 (glB_ok hg).1 hm (pa_cons (PE.up h) (pa_cons (PE.up h2) (pa_cons (PE.up h3) pa_nil s3) s2) (star_cons hs)) (star_cons hs) s4, ?_⟩
  intro σ H R R' hR q
  refine ⟨_, q, fun x H1 q1 => ⟨_, q1, fun y H2 q2 => ⟨_, q2, ?_⟩⟩⟩
  intro w H3 z
  show ∃ (i j c : Int) (n : Nat), [x, y, w] = [V.int i, V.int j, V.int c] ∧ _
  cases x with
  | int i =>
    cases y with
    | int j =>
      cases w with
      | int c =>
        obtain ⟨rfl, ⟨z1, z2, z4, z5⟩, z3⟩ := z
        exact ⟨i, j, -1, _, rfl, RgC.neg z1 z2 z4 z5, hR _ _ _ (src_rngC _ _ _) z3⟩
      | _ => exact z.elim
    | _ => exact z.elim
  | _ => exact z.elim

/-- an operator's reading closed upwards -/
def upR (r : R2) : R2 := fun x y H Q => ∃ Q' : VK, r x y H Q' ∧ ∀ v H', Q' v H' → Q v H'
theorem OpR.up {X : Cx} {f : Value → Value → Sem Value} {r : R2} (h : OpR X f r) : OpR X f (upR r) := by
  intro pins s σ H x y v u Q I rx ry q
  obtain ⟨Q', h1, h2⟩ := q
  refine thn (h pins s σ H x y v u Q' I rx ry h1) ?_
  rintro u s' ⟨v, H', I', r, q'⟩
  exact ⟨v, H', I', r, h2 v H' q'⟩
def upT (t : TT) : TT := fun σ H Q => ∃ Q' : Bool → Hp → Prop, t σ H Q' ∧ ∀ v H', Q' v H' → Q v H'
theorem PT.up {X : Cx} {e : Expr} {t : TT} (h : PT X e t) : PT X e (upT t) := ⟨fun pins s σ H Q I q => by
  obtain ⟨Q', h1, h2⟩ := q
  refine thn (h.run pins s σ H Q' I h1) ?_
  rintro b s' ⟨H', I', q'⟩
  exact ⟨H', I', h2 b H' q'⟩⟩
theorem PW.up {X : Cx} {e : Expr} {t : TT} (h : PW X e t) : PW X e (upT t) := ⟨fun wh pins s σ H Q I q => by
  obtain ⟨Q', h1, h2⟩ := q
  refine thn (h.run wh pins s σ H Q' I h1) ?_
  rintro b s' ⟨H', I', q'⟩
  exact ⟨H', I', h2 b H' q'⟩⟩

theorem PT.pw {X : Cx} {op : BoolOp} {vs : List Expr} {p : Pos} {t : TT} (h : PT X (.BoolOp op vs p) t) : PW X (.BoolOp op vs p) t := ⟨fun _ pins s σ H Q I q => h.run pins s σ H Q I q⟩

/-! ### the induction -/
theorem noStar_all {pos : Pos} {env : Env} : ∀ {es : List Expr}, (∀ e ∈ es, ∀ z p, e ≠ .Starred z p) → ((backTo pos (starEach es env)).all fun x => !x.1) = true
  | [], _ => rfl
  | e :: es, h => by
    rw [star_cons (h e List.mem_cons_self)]
    show (true && ((backTo pos (starEach es env)).all fun x => !x.1)) = true
    rw [noStar_all fun x hx => h x (List.mem_cons_of_mem _ hx)]
    rfl
theorem es_star {kk : Str → Nat → List Str → Bool} {N : List Str} {sc : Scope} : ∀ {es : Exs} {xs : List Expr}, ckEs kk N sc es xs = true → ∀ x ∈ xs, ∀ z p, x ≠ .Starred z p
  | .nil, [], _, _, hx, _, _ => by cases hx
  | .nil, _ :: _, h, _, _, _, _ => by cases h
  | .cons e r, [], h, _, _, _, _ => by cases h
  | .cons e r, x :: xs, h, y, hy, z, p => by
    simp only [ckEs, Bool.and_eq_true] at h
    rcases List.mem_cons.mp hy with rfl | hy
    · exact noStar_ok h.1.2 z p
    · exact es_star h.2 y hy z p
theorem es_len {kk : Str → Nat → List Str → Bool} {N : List Str} {sc : Scope} : ∀ {es : Exs} {xs : List Expr}, ckEs kk N sc es xs = true → xs.length = es.len
  | .nil, [], _ => rfl
  | .nil, _ :: _, h => by cases h
  | .cons e r, [], h => by cases h
  | .cons e r, x :: xs, h => by
    simp only [ckEs, Bool.and_eq_true] at h
    show xs.length + 1 = r.len + 1
    rw [es_len h.2]

mutual
theorem sE {T : Tab} {k : Nat} : ∀ (a : Ex) {E : XK} {X : Cx} {e : Expr}, Gd T k E X → ckE T.way X.N X.env.scope a e = true → PE X e (wpE (cnOf T X.K k) E a)
  | .var i, E, X, e, g, h => by
    simp only [ckE] at h
    split at h
    · simp only [Bool.and_eq_true, decide_eq_true_eq, Bool.not_eq_true'] at h
      obtain ⟨⟨⟨h1, h2⟩, h3⟩, h4⟩ := h
      refine PE.imp (pe_var h1 (visB_ok h2) h3 h4) ?_
      intro σ H Q q
      simp only [wpE] at q
      split at q
      · exact ⟨_, by assumption, q⟩
      · exact q.elim
    · cases h
  | .con c, E, X, e, g, h => by
    simp only [ckE] at h
    split at h
    · obtain ⟨rfl, h2⟩ := conEq_ok h
      exact con_ok h2
    · cases h
  | .glb x, E, X, e, g, h => by
    simp only [ckE] at h
    split at h
    · simp only [Bool.and_eq_true, beq_iff_eq] at h
      obtain ⟨rfl, h2⟩ := h
      obtain ⟨g1, g2, g3⟩ := glB_ok h2
      cases hc : T.cons.lookup x with
      | none =>
        refine ⟨fun pins s σ H Q I q => ?_⟩
        have q' : (match T.cons.lookup x with
          | some v => Q v H
          | none => False) := q
        rw [hc] at q'
        exact q'.elim
      | some v =>
        obtain ⟨u, m1, m2⟩ := g.fx.con x v hc
        refine PE.imp (pe_glob g1 m1 m2 g2) ?_
        intro σ H Q q
        have q' : (match T.cons.lookup x with
          | some v => Q v H
          | none => False) := q
        rw [hc] at q'
        exact q'
    · cases h
  | .bin op a b, E, X, e, g, h => by
    simp only [ckE] at h
    split at h
    · simp only [Bool.and_eq_true, decide_eq_true_eq] at h
      obtain ⟨⟨rfl, h1⟩, h2⟩ := h
      exact pe_op opBin_ok (sE a g h1) (sE b g h2)
    · cases h
  | .neg a, E, X, e, g, h => by
    simp only [ckE] at h
    split at h
    · refine PE.imp (pe_un un_neg (PE.up (sE a g h))) ?_
      intro σ H Q q
      refine ⟨_, q, ?_⟩
      intro v H' z
      split at z
      · exact ⟨_, rfl, z⟩
      · exact z.elim
    · cases h
  | .cmp op a b, E, X, e, g, h => by
    simp only [ckE] at h
    split at h
    · simp only [Bool.and_eq_true, decide_eq_true_eq] at h
      obtain ⟨⟨⟨rfl, h1⟩, h2⟩, h3⟩ := h
      exact pe_cmpR (opCmp_ok g.room.units) (sE a g h1) (sE b g h2) (noSet_marks h3)
    · cases h
  | .chn o p a b c, E, X, e, g, h => by
    simp only [ckE] at h
    split at h
    · simp only [Bool.and_eq_true, decide_eq_true_eq] at h
      obtain ⟨⟨⟨⟨⟨⟨rfl, rfl⟩, h1⟩, h2⟩, h3⟩, h4⟩, h5⟩ := h
      refine PE.imp (pe_chain (OpR.up (opCmp_ok g.room.units)) (opCmp_ok g.room.units) (PE.up (sE a g h1)) (PE.up (sE b g h2)) (sE c g h3) (noSet_marks h5)) ?_
      intro σ H Q q
      refine ⟨_, q, fun x H1 q1 => ⟨_, q1, fun y H2 q2 => ⟨_, q2, fun z H3 q3 => ?_⟩⟩⟩
      split at q3
      · exact ⟨true, rfl, q3⟩
      · exact ⟨false, rfl, q3⟩
      · exact q3.elim
    · cases h
  | .and a b, E, X, e, g, h => by
    simp only [ckE] at h
    split at h
    · simp only [Bool.and_eq_true] at h
      obtain ⟨h1, h2⟩ := h
      rename_i x y r p
      have hb : PE X (.BoolOp .And (y :: r) p) (wpE (cnOf T X.K k) E b) := by
        split at h2
        · exact pe_one (sE b g h2)
        · exact sE b g h2
      refine PE.imp (pe_and (PE.up (sE a g h1)) hb) ?_
      intro σ H Q q
      refine ⟨_, q, ?_⟩
      intro v H' z
      split at z
      · exact ⟨true, rfl, z⟩
      · exact ⟨false, rfl, z⟩
      · exact z.elim
    · cases h
  | .or a b, E, X, e, g, h => by
    simp only [ckE] at h
    split at h
    · simp only [Bool.and_eq_true] at h
      obtain ⟨h1, h2⟩ := h
      rename_i x y r p
      have hb : PE X (.BoolOp .Or (y :: r) p) (wpE (cnOf T X.K k) E b) := by
        split at h2
        · exact pe_one (sE b g h2)
        · exact sE b g h2
      refine PE.imp (pe_or (PE.up (sE a g h1)) hb) ?_
      intro σ H Q q
      refine ⟨_, q, ?_⟩
      intro v H' z
      split at z
      · exact ⟨false, rfl, z⟩
      · exact ⟨true, rfl, z⟩
      · exact z.elim
    · cases h
  | .not a, E, X, e, g, h => by
    simp only [ckE] at h
    split at h
    · refine PE.imp (pe_not (PE.up (sE a g h))) ?_
      intro σ H Q q
      refine ⟨_, q, ?_⟩
      intro v H' z
      split at z
      · exact ⟨_, rfl, z⟩
      · exact z.elim
    · cases h
  | .ite t a b, E, X, e, g, h => by
    simp only [ckE] at h
    split at h
    · simp only [Bool.and_eq_true] at h
      exact pe_ifExp (sT t g h.1.1) (sE a g h.1.2) (sE b g h.2)
    · cases h
  | .tup es, E, X, e, g, h => by
    simp only [ckE] at h
    split at h
    · refine PE.imp (pe_tup (PA.up (sEs es g h))) ?_
      intro σ H Q q
      exact ⟨_, q, fun v H' z => ⟨z.1, z.2.at_⟩⟩
    · cases h
  | .lst es, E, X, e, g, h => by
    simp only [ckE] at h
    split at h
    · refine PE.imp (pe_lst (PA.up (sEs es g h))) ?_
      intro σ H Q q
      exact ⟨_, q, fun v H' z => ⟨z.1, z.2.at_⟩⟩
    · cases h
  | .idx a i, E, X, e, g, h => by
    simp only [ckE] at h
    split at h
    · simp only [Bool.and_eq_true] at h
      exact pe_ix idxW_ok (sE a g h.1.1) (sE i g h.1.2) (noSlice_ok h.2)
    · cases h
  | .sl2 a lo hi, E, X, e, g, h => by
    simp only [ckE] at h
    split at h
    · simp only [Bool.and_eq_true] at h
      refine PE.imp (pe_slice slW_ok (PE.up (sE a g h.1.1)) (po_some (PE.up (sE lo g h.1.2))) (po_some (PE.up (sE hi g h.2)))) ?_
      intro σ H Q q
      refine ⟨_, q, fun x H1 q1 => ⟨_, q1, fun y H2 q2 => ?_⟩⟩
      split at q2
      · refine ⟨_, rfl, _, q2, fun z H3 q3 => ?_⟩
        split at q3
        · exact ⟨_, rfl, q3⟩
        · exact q3.elim
      · exact q2.elim
    · cases h
  | .sl1 a lo, E, X, e, g, h => by
    simp only [ckE] at h
    split at h
    · simp only [Bool.and_eq_true] at h
      refine PE.imp (pe_slice slW_ok (PE.up (sE a g h.1)) (po_some (PE.up (sE lo g h.2))) po_none) ?_
      intro σ H Q q
      refine ⟨_, q, fun x H1 q1 => ⟨_, q1, fun y H2 q2 => ?_⟩⟩
      split at q2
      · exact ⟨_, rfl, q2⟩
      · exact q2.elim
    · cases h
  | .sl0 a hi, E, X, e, g, h => by
    simp only [ckE] at h
    split at h
    · simp only [Bool.and_eq_true] at h
      refine PE.imp (pe_slice slW_ok (PE.up (sE a g h.1)) po_none (po_some (PE.up (sE hi g h.2)))) ?_
      intro σ H Q q
      refine ⟨_, q, fun x H1 q1 => ⟨_, q1, fun y H2 q2 => ?_⟩⟩
      split at q2
      · exact ⟨_, rfl, q2⟩
      · exact q2.elim
    · cases h
  | .rev a, E, X, e, g, h => by
    simp only [ckE] at h
    split at h
    · refine PE.imp (pe_revL (PE.up (sE a g h))) ?_
      intro σ H Q q
      refine ⟨_, q, fun x H1 q1 => ?_⟩
      split at q1
      · obtain ⟨xs, z1, z2⟩ := q1.to
        exact ⟨_, xs, rfl, z1, z2.at_⟩
      · exact q1.elim
    · cases h
  | .call f es ks kes, E, X, e, g, h => by
    simp only [ckE] at h
    split at h
    · rename_i x p xs kws pos
      simp only [Bool.and_eq_true, decide_eq_true_eq, beq_iff_eq] at h
      obtain ⟨⟨⟨⟨⟨rfl, h1⟩, h2⟩, h3⟩, h4⟩, h5⟩ := h
      obtain ⟨g1, g2, g3⟩ := glB_ok h1
      cases hF : T.fns.lookup f with
      | none =>
        simp only [Tab.way, hF] at h2
        cases h2
      | some F =>
        obtain ⟨fa, fd, m1, m2, m3, m4⟩ := g.fx.fn f F hF
        have base := pe_callG (p := p) (pos := pos) (ks := ks) (ar := fun {α} d vs zs => arrange F.ps ks d vs zs) m3 g.gu g.room g1 m1 m2 (fun s us ws hk hu hw => m4 _ ks h2 s us ws hk hu hw) (fun vs zs us ws r rz => vals_arrange r rz) g.pass (sEs es g h3)
          (fun e0 => by
            subst e0
            cases es with
            | nil => rfl
            | cons _ _ => cases h3) (sKs kes g h5) (es_star h3) h4 g2
        rw [es_len h3] at base
        refine PE.imp base ?_
        intro σ H Q q
        have e1 : (cnOf T X.K k).ps f = F.ps := by
          show ((T.fns.lookup f).map (·.ps)).getD [] = F.ps
          rw [hF]
          rfl
        simp only [wpE, e1] at q
        exact q
    · cases h
  | .blt f es, E, X, e, g, h => by
    simp only [ckE] at h
    split at h
    · rename_i x p xs pos
      simp only [Bool.and_eq_true, beq_iff_eq, Bool.not_eq_true'] at h
      obtain ⟨⟨⟨⟨rfl, h1⟩, h2⟩, h3⟩, h4⟩ := h
      cases xs with
      | nil => cases h4
      | cons y ys => exact pe_blt g.calm g.gu g.room.units h2 h1 (g.fx.blt _ (blt_name h2)) (sEs es g h3) (es_star h3)
    · cases h
  | .isi a t, E, X, e, g, h => by
    simp only [ckE] at h
    split at h
    · simp only [Bool.and_eq_true, beq_iff_eq] at h
      obtain ⟨⟨⟨⟨⟨⟨rfl, h1⟩, h2⟩, rfl⟩, h3⟩, h4⟩, h5⟩ := h
      obtain ⟨b1, b2⟩ := isi_boot h3
      exact pe_isi h1 (g.fx.blt _ (by decide +kernel)) h2 (g.fx.blt _ b2) b1 (sE a g h4) (noStar_ok h5)
    · cases h
  | .lrg es, E, X, e, g, h => by
    simp only [ckE] at h
    split at h
    · rename_i f p1 gg p2 xs p3 p4
      simp only [Bool.and_eq_true, beq_iff_eq] at h
      obtain ⟨⟨⟨⟨⟨rfl, h1⟩, rfl⟩, h2⟩, hl⟩, h3⟩ := h
      exact sLr es g h1 h2 (of_decide_eq_true hl) h3
    · cases h
  | .lzp a b, E, X, e, g, h => by
    simp only [ckE] at h
    split at h
    · rename_i f p1 gg p2 x y p3 p4
      simp only [Bool.and_eq_true, beq_iff_eq] at h
      obtain ⟨⟨⟨⟨⟨⟨⟨rfl, h1⟩, rfl⟩, h2⟩, h3⟩, h4⟩, h5⟩, h6⟩ := h
      exact pe_lzpW h1 h2 (g.fx.blt _ (by decide +kernel)) (g.fx.blt _ (by decide +kernel)) g.calm (noStar_ok h4) (noStar_ok h6) (sE a g h3) (sE b g h5)
    · cases h
  | .mth m o es, E, X, e, g, h => by
    simp only [ckE] at h
    split at h
    · rename_i x m' apos xs cpos
      simp only [Bool.and_eq_true, beq_iff_eq, decide_eq_true_eq] at h
      obtain ⟨⟨⟨⟨⟨⟨rfl, h1⟩, h2⟩, h3⟩, h4⟩, h5⟩, h6⟩ := h
      obtain ⟨e1, sl, ty⟩ := mth_slot h1
      have line : (apos.endLine == cpos.line) = true := by rw [h4]; simp
      have arec := plainRecv_ok h6 m X.env (eval x X.env)
      cases xs with
      | nil =>
        have e0 : es = .nil := by
          cases es with
          | nil => rfl
          | cons _ _ => cases h3
        subst e0
        refine PE.imp (pe_bm0 PySem.F.plainAttrs_list sl ty (mthW_ok m) (PE.up (sE o g h2)) arec line) ?_
        intro σ H Q q
        refine ⟨_, q, fun v H1 q1 => ?_⟩
        split at q1
        · split at q1
          · exact ⟨.inl ⟨rfl, _, .inl (.inl (by assumption))⟩, q1⟩
          · exact q1.elim
        · exact q1.elim
      | cons y ys =>
        have s1 := star_cons (es := ys) (env := X.env) (es_star h3 y List.mem_cons_self)
        have s2 := noStar_any (pos := cpos) (env := X.env) (es := ys) fun z hz => es_star h3 z (List.mem_cons_of_mem _ hz)
        have s3 := noStar_all (pos := cpos) (env := X.env) (es := y :: ys) (es_star h3)
        refine PE.imp (pe_bm PySem.F.plainAttrs_list sl ty (mthW_ok m) (PE.up (sE o g h2)) (sEs es g h3) arec (by rw [s3]; simpa [keywordEach, backToKw] using h5) line s1 s2) ?_
        intro σ H Q q
        refine ⟨_, q, fun v H1 q1 => ?_⟩
        split at q1
        · split at q1
          · exact ⟨.inl ⟨rfl, _, .inl (.inl (by assumption))⟩, q1⟩
          · exact q1.elim
        · exact q1.elim
    · cases h
  | .comp b tg it cs own, E, X, e, g, h => by
    simp only [ckE] at h
    split at h
    · rename_i x t iter ifs scope pos
      simp only [Bool.and_eq_true] at h
      obtain ⟨⟨⟨⟨⟨⟨h1, h2⟩, h3⟩, h4⟩, h5⟩, h6⟩, h7⟩ := h
      have bk := blkOk_by h1
      obtain ⟨wi', pi, hwi⟩ := sI it (tg := tg) g h2
      have base := pe_lc (pos := pos) (own := own) (g := tgR X.K tg) (tt := wpTs (cnOf T X.K k) cs) (te := wpE (cnOf T X.K k) E0 b) g.calm g.nd pi bk
        (fun s H C cl fp => pg_of (X := X.blk s H scope (compEnvC scope cl C X.env) fp) (g.blk bk.kind s H C cl fp).calm g.nd (by
          intro y hy
          simp only [Bool.and_eq_true, Bool.or_eq_true, decide_eq_true_eq] at hy
          refine ⟨locB_ok hy.1, ?_⟩
          rcases hy.2 with z | z
          · exact .inr (localB_ok z)
          · exact .inl (by show (scope.names.lookup y == some NameKind.cell) = true; rw [z]; rfl)) h4)
        (fun s H C cl fp => sC cs (g.blk bk.kind s H C cl fp) h6)
        (fun s H C cl fp => sE b (g.blk bk.kind s H C cl fp) h7) (fun v => noSet_ok h3 X.env v)
      refine PE.imp base ?_
      intro σ H Q q
      refine hwi σ H _ _ ?_ q
      intro s J H' hs hq D hD
      exact lcW_to hs h5 (hq D hD)
    · cases h
theorem sLr {T : Tab} {k : Nat} : ∀ (es : Exs) {E : XK} {X : Cx} {xs : List Expr} {p1 p2 p3 p4 : Pos}, Gd T k E X → glB X.env.scope "list" = true → glB X.env.scope "range" = true → (1 ≤ xs.length ∧ xs.length ≤ 2) → ckEs T.way X.N X.env.scope es xs = true →
    PE X (.Call (.Name "list" p1) [.Call (.Name "range" p2) xs [] p3] [] p4) (wpE (cnOf T X.K k) E (.lrg es))
  | .cons a .nil, E, X, [x], p1, p2, p3, p4, g, h1, h2, hl, h => by
    simp only [ckEs, Bool.and_eq_true] at h
    have hs := noStar_ok h.1.2
    refine PE.imp (pe_listRg g.calm (glB_ok h1).1 (g.fx.blt _ (by decide +kernel)) (prg_1 (glB_ok h2).1 (g.fx.blt _ (by decide +kernel)) (PE.up (sE a g h.1.1)) (star_cons hs))) ?_
    intro σ H Q q
    refine ⟨_, q, fun v H1 q1 => ?_⟩
    simp only [wpEs] at q1
    cases v with
    | int j => exact ⟨j, rfl, q1.1, q1.2.at_⟩
    | _ => exact q1.elim
  | .cons a (.cons b .nil), E, X, [x, y], p1, p2, p3, p4, g, h1, h2, hl, h => by
    simp only [ckEs, Bool.and_eq_true] at h
    have hs := noStar_ok h.1.2
    have hs2 := noStar_ok h.2.1.2
    refine PE.imp (pe_listRg g.calm (glB_ok h1).1 (g.fx.blt _ (by decide +kernel)) (prg_2 (glB_ok h2).1 (g.fx.blt _ (by decide +kernel)) (PE.up (sE a g h.1.1)) (PE.up (sE b g h.2.1.1)) (star_cons hs) (star_cons hs2) (noStar_any (by intro z hz; simp at hz; subst hz; exact hs2)))) ?_
    intro σ H Q q
    refine ⟨_, q, fun v H1 q1 => ⟨_, q1, fun v2 H2 q2 => ?_⟩⟩
    simp only [wpEs] at q2
    cases v with
    | int i =>
      cases v2 with
      | int j => exact ⟨i, j, rfl, rfl, q2.1, q2.2.at_⟩
      | _ => exact q2.elim
    | _ => exact q2.elim
  | .nil, E, X, [], p1, p2, p3, p4, g, h1, h2, hl, h => by cases hl.1
  | .nil, E, X, _ :: _, p1, p2, p3, p4, g, h1, h2, hl, h => by cases h
  | .cons a r, E, X, [], p1, p2, p3, p4, g, h1, h2, hl, h => by cases h
  | .cons a .nil, E, X, _ :: _ :: _, p1, p2, p3, p4, g, h1, h2, hl, h => by simp [ckEs] at h
  | .cons a (.cons b r), E, X, [_], p1, p2, p3, p4, g, h1, h2, hl, h => by simp [ckEs] at h
  | .cons a (.cons b r), E, X, _ :: _ :: _ :: _, p1, p2, p3, p4, g, h1, h2, hl, h => by simp at hl
  | .cons a (.cons b (.cons c r)), E, X, [_, _], p1, p2, p3, p4, g, h1, h2, hl, h => by simp [ckEs] at h
theorem sC {T : Tab} {k : Nat} : ∀ (a : Cd) {X : Cx} {e : List Expr}, Gd T k E0 X → ckC T.way X.N X.env.scope a e = true → PTs X e (wpTs (cnOf T X.K k) a)
  | .no, X, [], g, h => pts_nil
  | .no, X, _ :: _, g, h => by cases h
  | .one t, X, [x], g, h => pts_one (sT t g h)
  | .one t, X, [], g, h => by cases h
  | .one t, X, _ :: _ :: _, g, h => by cases h
theorem sEs {T : Tab} {k : Nat} : ∀ (a : Exs) {E : XK} {X : Cx} {e : List Expr}, Gd T k E X → ckEs T.way X.N X.env.scope a e = true → PA X e (wpEs (cnOf T X.K k) E a)
  | .nil, E, X, [], g, h => pa_nil
  | .nil, E, X, _ :: _, g, h => by cases h
  | .cons a r, E, X, [], g, h => by cases h
  | .cons a r, E, X, e :: es, g, h => by
    simp only [ckEs, Bool.and_eq_true] at h
    exact pa_cons (sE a g h.1.1) (sEs r g h.2) (star_cons (noStar_ok h.1.2))
theorem sKs {T : Tab} {k : Nat} : ∀ (a : Exs) {E : XK} {X : Cx} {e : List Keyword}, Gd T k E X → ckKs T.way X.N X.env.scope a e = true → PK X e (wpEs (cnOf T X.K k) E a)
  | .nil, E, X, [], g, h => pk_nil
  | .nil, E, X, _ :: _, g, h => by cases h
  | .cons a r, E, X, [], g, h => by cases h
  | .cons a r, E, X, ⟨nm, e, p⟩ :: es, g, h => by
    simp only [ckKs, Bool.and_eq_true] at h
    exact pk_cons (sE a g h.1) (sKs r g h.2)
theorem sT {T : Tab} {k : Nat} : ∀ (a : Ts) {E : XK} {X : Cx} {e : Expr}, Gd T k E X → ckT T.way X.N X.env.scope a e = true → PT X e (wpT (cnOf T X.K k) E a)
  | .val a, E, X, e, g, h => by
    simp only [ckT, Bool.and_eq_true] at h
    refine PT.imp (pt_val (PE.up (sE a g h.2)) (fun w => plainTest_ok h.1 X.env w)) ?_
    intro σ H Q q
    refine ⟨_, q, fun x H1 q1 => ?_⟩
    split at q1
    · exact ⟨_, rfl, q1⟩
    · exact q1.elim
  | .cmp op a b, E, X, e, g, h => by
    simp only [ckT] at h
    split at h
    · simp only [Bool.and_eq_true, decide_eq_true_eq] at h
      obtain ⟨⟨⟨rfl, h1⟩, h2⟩, h3⟩ := h
      refine PT.imp (pt_cmpR (OpR.up (opCmp_ok g.room.units)) (PE.up (sE a g h1)) (PE.up (sE b g h2)) (noSet_marks h3)) ?_
      intro σ H Q q
      refine ⟨_, q, fun x H1 q1 => ⟨_, q1, fun y H2 q2 => ⟨_, q2, fun z H3 q3 => ?_⟩⟩⟩
      split at q3
      · exact ⟨_, rfl, q3⟩
      · exact q3.elim
    · cases h
  | .chn o p a b c, E, X, e, g, h => by
    simp only [ckT] at h
    split at h
    · simp only [Bool.and_eq_true, decide_eq_true_eq] at h
      obtain ⟨⟨⟨⟨⟨⟨rfl, rfl⟩, h1⟩, h2⟩, h3⟩, h4⟩, h5⟩ := h
      refine PT.imp (pt_chain (OpR.up (opCmp_ok g.room.units)) (OpR.up (opCmp_ok g.room.units)) (PE.up (sE a g h1)) (PE.up (sE b g h2)) (PE.up (sE c g h3)) (noSet_marks h5)) ?_
      intro σ H Q q
      refine ⟨_, q, fun x H1 q1 => ⟨_, q1, fun y H2 q2 => ⟨_, q2, fun z H3 q3 => ?_⟩⟩⟩
      split at q3
      · refine ⟨true, rfl, ?_⟩
        refine ⟨_, q3, fun w H4 q4 => ⟨_, q4, fun z H5 q5 => ?_⟩⟩
        split at q5
        · exact ⟨_, rfl, q5⟩
        · exact q5.elim
      · exact ⟨false, rfl, false, rfl, q3⟩
      · exact q3.elim
    · cases h
  | .not a, E, X, e, g, h => by
    simp only [ckT] at h
    split at h
    · exact pt_not (sT a g h)
    · cases h
  | .and a b, E, X, e, g, h => by
    simp only [ckT] at h
    split at h
    · simp only [Bool.and_eq_true] at h
      obtain ⟨h1, h2⟩ := h
      rename_i x y r p
      have hb : PW X (.BoolOp .And (y :: r) p) (wpT (cnOf T X.K k) E b) := by
        split at h2
        · exact pw_and1 (sT b g h2)
        · exact PT.pw (sT b g h2)
      exact (pw_and (sT a g h1) hb).pt
    · cases h
  | .or a b, E, X, e, g, h => by
    simp only [ckT] at h
    split at h
    · simp only [Bool.and_eq_true] at h
      obtain ⟨h1, h2⟩ := h
      rename_i x y r p
      have hb : PW X (.BoolOp .Or (y :: r) p) (wpT (cnOf T X.K k) E b) := by
        split at h2
        · exact pw_or1 (sT b g h2)
        · exact PT.pw (sT b g h2)
      exact (pw_or (sT a g h1) hb).pt
    · cases h
theorem sI {T : Tab} {k : Nat} : ∀ (a : Ir) {E : XK} {X : Cx} {tg : Tg} {t e : Expr}, Gd T k E X → ckI T.way X.N X.env.scope a t e = true → PIw X tg t e (wpI (cnOf T X.K k) E a)
  | .seq a, E, X, tg, t, e, g, h => piw_seq (sE a g h)
  | .enm a, E, X, tg, t, e, g, h => by
    simp only [ckI] at h
    split at h
    · simp only [Bool.and_eq_true, beq_iff_eq] at h
      obtain ⟨⟨⟨rfl, h1⟩, h2⟩, h3⟩ := h
      exact piw_enm h1 (g.fx.blt _ (by decide +kernel)) (noStar_ok h3) (sE a g h2)
    · cases h
  | .zip a b, E, X, tg, t, e, g, h => by
    simp only [ckI] at h
    split at h
    · simp only [Bool.and_eq_true, beq_iff_eq] at h
      obtain ⟨⟨⟨⟨⟨rfl, h1⟩, h2⟩, h3⟩, h4⟩, h5⟩ := h
      exact piw_zip h1 (g.fx.blt _ (by decide +kernel)) (noStar_ok h3) (noStar_ok h5) (sE a g h2) (sE b g h4)
    · cases h
  | .rng es, E, X, tg, t, e, g, h => by
    simp only [ckI] at h
    split at h
    · rename_i x p xs pos
      simp only [Bool.and_eq_true, beq_iff_eq] at h
      obtain ⟨⟨⟨rfl, h1⟩, hl⟩, h2⟩ := h
      have hm := g.fx.blt "range" (by decide +kernel)
      exact sRg es g h1 hm (of_decide_eq_true hl) h2
    · cases h
theorem sRg {T : Tab} {k : Nat} : ∀ (es : Exs) {E : XK} {X : Cx} {tg : Tg} {t : Expr} {xs : List Expr} {p pos : Pos}, Gd T k E X → glB X.env.scope "range" = true → X.mg "range" = none → (1 ≤ xs.length ∧ xs.length ≤ 3) → ckEs T.way X.N X.env.scope es xs = true →
    PIw X tg t (.Call (.Name "range" p) xs [] pos) (fun σ H R => wpEs (cnOf T X.K k) E es σ H fun vs H1 => rngW vs fun lo st n => R (.rng lo st n) H1)
  | .nil, E, X, tg, t, [], p, pos, g, h1, hm, hl, h => ⟨fun _ _ _ => False, ⟨fun _ _ _ _ _ _ q => q.elim⟩, fun _ _ _ _ _ q => q⟩
  | .cons a .nil, E, X, tg, t, [x], p, pos, g, h1, hm, hl, h => by
    simp only [ckEs, Bool.and_eq_true] at h
    exact piw_rng1 h1 hm (noStar_ok h.1.2) (sE a g h.1.1)
  | .cons a (.cons b .nil), E, X, tg, t, [x, y], p, pos, g, h1, hm, hl, h => by
    simp only [ckEs, Bool.and_eq_true] at h
    exact piw_rng2 h1 hm (noStar_ok h.1.2) (noStar_ok h.2.1.2) (sE a g h.1.1) (sE b g h.2.1.1)
  | .cons a (.cons b (.cons c .nil)), E, X, tg, t, [x, y, z], p, pos, g, h1, hm, hl, h => by
    simp only [ckEs, Bool.and_eq_true] at h
    exact piw_rng3 h1 hm (noStar_ok h.1.2) (noStar_ok h.2.1.2) (noStar_ok h.2.2.1.2) (sE a g h.1.1) (sE b g h.2.1.1) (sE c g h.2.2.1.1)
  | .nil, E, X, tg, t, _ :: _, p, pos, g, h1, hm, hl, h => by cases h
  | .cons a r, E, X, tg, t, [], p, pos, g, h1, hm, hl, h => by cases h
  | .cons a .nil, E, X, tg, t, _ :: _ :: _, p, pos, g, h1, hm, hl, h => by simp [ckEs] at h
  | .cons a (.cons b r), E, X, tg, t, [_], p, pos, g, h1, hm, hl, h => by simp [ckEs] at h
  | .cons a (.cons b .nil), E, X, tg, t, _ :: _ :: _ :: _, p, pos, g, h1, hm, hl, h => by simp [ckEs] at h
  | .cons a (.cons b (.cons c r)), E, X, tg, t, [_, _], p, pos, g, h1, hm, hl, h => by simp [ckEs] at h
  | .cons a (.cons b (.cons c r)), E, X, tg, t, _ :: _ :: _ :: _ :: _, p, pos, g, h1, hm, hl, h => by simp at hl
  | .cons a (.cons b (.cons c (.cons d r))), E, X, tg, t, [_, _, _], p, pos, g, h1, hm, hl, h => by simp [ckEs] at h
end
end VC

/-! VC, part 8: statements. -/
namespace VC
open PySem PySem.Spec PyProof.Rows L2

theorem stores_none1 {env : Env} {x y : Expr} {p : Pos} {v : Expr} : swappedStores [.Subscript x y p] v env = pure none := by
  cases v <;> rfl
theorem stores_none2 {env : Env} {ts : List Expr} {k : Nat} {p : Pos} {v : Expr} (h : ∀ vs k2 p2, v ≠ .Tuple vs k2 p2) : swappedStores [.Tuple ts k p] v env = pure none := by
  cases v <;> first | rfl | (exact absurd rfl (h _ _ _))
theorem block_fn {env : Env} (h : env.scope.kind = .function) : env.blockKind = .function := by
  unfold Env.blockKind
  rw [h]
  rfl
theorem fm_len {α β : Type} (f : α → Option β) : ∀ l : List α, (l.filterMap f).length = l.length → ∀ a ∈ l, (f a).isSome = true
  | [], _, _, h => by cases h
  | x :: l, e, a, h => by
    have hle := List.length_filterMap_le f l
    rw [List.filterMap_cons] at e
    cases hx : f x with
    | none =>
      rw [hx] at e
      simp only [List.length_cons] at e
      omega
    | some y =>
      rw [hx] at e
      simp only [List.length_cons, Nat.add_right_cancel_iff] at e
      rcases List.mem_cons.mp h with rfl | h
      · rw [hx]; rfl
      · exact fm_len f l e a h
theorem stores_none3 {env : Env} {ts vs : List Expr} {k k2 : Nat} {p p2 : Pos} (h : allLocal env.scope ts = false) : swappedStores [.Tuple ts k p] (.Tuple vs k2 p2) env = pure none := by
  unfold swappedStores
  simp only
  split
  · rfl
  · split
    · rfl
    · split
      · rfl
      · rename_i h1 h2 h3
        exfalso
        apply Bool.false_ne_true
        rw [← h]
        unfold allLocal
        rw [List.all_eq_true]
        intro t ht
        have e : ∀ z ∈ ts, ((match z with
          | .Name id pos => if env.kindOf id == some .local && pos.line == (ts.head?.map (·.pos.line)).getD 0 then some id else none
          | _ => none) : Option Str).isSome = true := by
          apply fm_len
          simp only [Bool.or_eq_true, bne_iff_ne, ne_eq, not_or, Decidable.not_not] at h3
          exact h3.1
        have et := e t ht
        cases t <;> first | (cases et; done) | skip
        rename_i id pos
        simp only at et
        split at et
        · rename_i hc
          simp only [Bool.and_eq_true, beq_iff_eq] at hc
          show localB env.scope id = true
          unfold localB
          rw [show env.scope.names.lookup id = some .local from hc.1]
        · cases et

theorem noStar_vs : ∀ {vs : List Expr}, vs.all noStar = true → (vs.any fun | .Starred .. => true | _ => false) = false
  | [], _ => rfl
  | v :: vs, h => by
    simp only [List.all_cons, Bool.and_eq_true] at h
    rw [List.any_cons, noStar_vs h.2]
    cases v <;> first | rfl | (cases h.1)
theorem stores_two {env : Env} {x y : Str} {px py p p2 : Pos} {k k2 : Nat} {a b : Expr} (hk : env.scope.kind = .function) (hxy : x ≠ y) (h : swapB env.scope [.Name x px, .Name y py] [a, b] = true) :
    swappedStores [.Tuple [.Name x px, .Name y py] k p] (.Tuple [a, b] k2 p2) env = pure (some [x, y]) ∧ env.scope.names.lookup x = some .local ∧ env.scope.names.lookup y = some .local := by
  simp only [swapB, Bool.and_eq_true, List.all_cons, List.all_nil, Bool.and_true, Bool.not_eq_true', beq_iff_eq] at h
  obtain ⟨⟨⟨⟨_, hs⟩, ⟨⟨l1, q1⟩, l2, q2⟩⟩, f1⟩, f2⟩ := h
  have e1 := localB_ok l1
  have e2 := localB_ok l2
  refine ⟨?_, e1, e2⟩
  have k1 : env.kindOf x = some .local := e1
  have k2' : env.kindOf y = some .local := e2
  have st := noStar_vs (vs := [a, b]) (by simp only [List.all_cons, List.all_nil, Bool.and_true, Bool.and_eq_true]; exact hs)
  have fo : [a, b].all (foldedForSure 8) = false := by simpa using f1
  have co : [a, b].all (constantsAlone 8) = false := by simpa using f2
  have py' : (py.line == px.line) = true := by
    have : py.line = px.line := q2
    rw [this]; simp
  unfold swappedStores
  simp only [block_fn hk, st, fo, co, k1, k2', List.filterMap_cons, List.filterMap_nil, List.head?_cons, Option.map_some, Option.getD_some, Expr.pos, py', beq_self_eq_true, Bool.and_self, if_true, List.length_cons, List.length_nil]
  have hd : [x, y].eraseDups.length = 2 := by
    have : [x, y].eraseDups = [x, y] := by
      simp [List.eraseDups_cons, Ne.symm hxy]
    rw [this]
    rfl
  rw [if_neg (by decide), if_neg (by intro z; exact Bool.false_ne_true (st.symm.trans z)), if_neg (by rw [hd]; decide), if_neg (by decide), if_neg (by decide)]
theorem stores_three {env : Env} {x y z : Str} {px py pz p p2 : Pos} {k k2 : Nat} {a b c : Expr} (hk : env.scope.kind = .function) (hxy : x ≠ y) (hxz : x ≠ z) (hyz : y ≠ z) (h : swapB env.scope [.Name x px, .Name y py, .Name z pz] [a, b, c] = true) :
    swappedStores [.Tuple [.Name x px, .Name y py, .Name z pz] k p] (.Tuple [a, b, c] k2 p2) env = pure (some [x, y, z]) ∧ env.scope.names.lookup x = some .local ∧ env.scope.names.lookup y = some .local ∧ env.scope.names.lookup z = some .local := by
  simp only [swapB, Bool.and_eq_true, List.all_cons, List.all_nil, Bool.and_true, Bool.not_eq_true', beq_iff_eq] at h
  obtain ⟨⟨⟨⟨_, hs⟩, ⟨⟨l1, q1⟩, ⟨l2, q2⟩, l3, q3⟩⟩, f1⟩, f2⟩ := h
  have e1 := localB_ok l1
  have e2 := localB_ok l2
  have e3 := localB_ok l3
  refine ⟨?_, e1, e2, e3⟩
  have k1 : env.kindOf x = some .local := e1
  have k2' : env.kindOf y = some .local := e2
  have k3' : env.kindOf z = some .local := e3
  have st := noStar_vs (vs := [a, b, c]) (by simp only [List.all_cons, List.all_nil, Bool.and_true, Bool.and_eq_true]; exact hs)
  have fo : [a, b, c].all (foldedForSure 8) = false := by simpa using f1
  have co : [a, b, c].all (constantsAlone 8) = false := by simpa using f2
  have py' : (py.line == px.line) = true := by
    have : py.line = px.line := q2
    rw [this]; simp
  have pz' : (pz.line == px.line) = true := by
    have : pz.line = px.line := q3
    rw [this]; simp
  unfold swappedStores
  simp only [block_fn hk, st, fo, co, k1, k2', k3', List.filterMap_cons, List.filterMap_nil, List.head?_cons, Option.map_some, Option.getD_some, Expr.pos, py', pz', beq_self_eq_true, Bool.and_self, if_true, List.length_cons, List.length_nil]
  have hd : [x, y, z].eraseDups.length = 3 := by
    have : [x, y, z].eraseDups = [x, y, z] := by
      simp [List.eraseDups_cons, Ne.symm hxy, Ne.symm hxz, Ne.symm hyz]
    rw [this]
    rfl
  rw [if_neg (by decide), if_neg (by intro z; exact Bool.false_ne_true (st.symm.trans z)), if_neg (by rw [hd]; decide), if_neg (by decide), if_neg (by decide)]

theorem sole_of {t v : Expr} {l : Nat} {env : Env} (h : swapsWith v (some t) l env = pure false) : swapsWithSole [t] v l env = pure false := by
  unfold swapsWithSole
  exact h
theorem len2 {α : Type} {l : List α} (h : l.length = 2) : ∃ a b, l = [a, b] := by
  match l, h with
  | [a, b], _ => exact ⟨a, b, rfl⟩
theorem len3 {α : Type} {l : List α} (h : l.length = 3) : ∃ a b c, l = [a, b, c] := by
  match l, h with
  | [a, b, c], _ => exact ⟨a, b, c, rfl⟩
theorem ts_cons {ok : Str → Bool} {N : List Str} {j : Nat} {js : List Nat} {e : Expr} {es : List Expr} (h : ckTs ok N (j :: js) (e :: es) = true) : ∃ x p, e = .Name x p ∧ N[j]? = some x ∧ ok x = true ∧ ckTs ok N js es = true := by
  cases e <;> first | (cases h; done) | skip
  simp only [ckTs, Bool.and_eq_true, decide_eq_true_eq] at h
  exact ⟨_, _, rfl, h.1.1, h.1.2, h.2⟩
theorem ts_len {ok : Str → Bool} {N : List Str} : ∀ {js : List Nat} {es : List Expr}, ckTs ok N js es = true → js.length = es.length
  | [], [], _ => rfl
  | [], _ :: _, h => by cases h
  | _ :: _, [], h => by cases h
  | j :: js, e :: es, h => by
    obtain ⟨_, _, _, _, _, h'⟩ := ts_cons h
    show js.length + 1 = es.length + 1
    rw [ts_len h']
theorem name_ne {N : List Str} (hN : N.Nodup) {i j : Nat} {x y : Str} (hi : N[i]? = some x) (hj : N[j]? = some y) (h : i ≠ j) : x ≠ y := fun e => h (nodup_ix hN hi (e ▸ hj))

theorem s_par {T : Tab} {k : Nat} {is : List Nat} (es : Exs) {E : XK} {X : Cx} {ts vs : List Expr} {kt k2 : Nat} {pt p2 pos : Pos} (g : Gd T k E X) (h1 : ckTs (localB X.env.scope) X.N is ts = true) (h2 : is.Nodup) (h3 : ckEs T.way X.N X.env.scope es vs = true) (h4 : swapB X.env.scope ts vs = true) :
    PS X (.Assign [.Tuple ts kt pt] (.Tuple vs k2 p2) pos) (fun D σ H => wpEs (cnOf T X.K k) E es σ H fun xs H1 => xs.length = is.length ∧ D.nx (setAll σ is xs) H1) := by
  have hl : (ts.length = 2 ∨ ts.length = 3) ∧ vs.length = ts.length := by
    simp only [swapB, Bool.and_eq_true, Bool.or_eq_true, beq_iff_eq] at h4
    exact ⟨h4.1.1.1.1.1, h4.1.1.1.1.2⟩
  have hil := ts_len h1
  obtain ⟨hl1 | hl1, hl2⟩ := hl
  · obtain ⟨i, j, rfl⟩ := len2 (hil.trans hl1)
    obtain ⟨e1, e2, rfl⟩ := len2 hl1
    obtain ⟨a, b, rfl⟩ := len2 hl2
    · obtain ⟨x, px, rfl, n1, l1, h1⟩ := ts_cons h1
      obtain ⟨y, py, rfl, n2, l2, h1⟩ := ts_cons h1
      have hij : i ≠ j := by simpa using h2
      obtain ⟨sw, e1, e2⟩ := stores_two (k := kt) (p := pt) (k2 := k2) (p2 := p2) g.kind (name_ne g.nd n1 n2 hij) h4
      refine PS.imp (ps_par g.calm g.nd n1 n2 hij e1 e2 (PA.up (sEs es g h3)) sw rfl) ?_
      intro D σ H q
      refine ⟨_, q, fun xs H1 q1 => ?_⟩
      obtain ⟨q1, q2⟩ := q1
      match xs, q1, q2 with
      | [v, w], _, q2 => exact ⟨v, w, rfl, q2⟩
  · obtain ⟨i, j, l, rfl⟩ := len3 (hil.trans hl1)
    obtain ⟨e1, e2, e3, rfl⟩ := len3 hl1
    obtain ⟨a, b, c, rfl⟩ := len3 hl2
    · obtain ⟨x, px, rfl, n1, l1, h1⟩ := ts_cons h1
      obtain ⟨y, py, rfl, n2, l2, h1⟩ := ts_cons h1
      obtain ⟨z, pz, rfl, n3, l3, h1⟩ := ts_cons h1
      have hij : (i ≠ j ∧ i ≠ l) ∧ j ≠ l := by simpa using h2
      obtain ⟨sw, e1, e2, e3⟩ := stores_three (k := kt) (p := pt) (k2 := k2) (p2 := p2) g.kind (name_ne g.nd n1 n2 hij.1.1) (name_ne g.nd n1 n3 hij.1.2) (name_ne g.nd n2 n3 hij.2) h4
      refine PS.imp (ps_par3 g.calm g.nd n1 n2 n3 hij.1.1 hij.1.2 hij.2 e1 e2 e3 (PA.up (sEs es g h3)) sw rfl) ?_
      intro D σ H q
      refine ⟨_, q, fun xs H1 q1 => ?_⟩
      obtain ⟨q1, q2⟩ := q1
      match xs, q1, q2 with
      | [v, w, u], _, q2 => exact ⟨v, w, u, rfl, q2⟩

mutual
theorem sS {T : Tab} {k : Nat} : ∀ (a : Sm) {E : XK} {X : Cx} {s : Stmt}, Gd T k E X → (∀ x, X.fn x = true) → ckS T.way X.N X.env.scope a s = true → PS X s (wpS (cnOf T X.K k) E a)
  | .expr e, E, X, s, g, hf, h => by
    simp only [ckS] at h
    split at h
    · simp only [Bool.and_eq_true] at h
      exact ps_expr (sE e g h.1) (noComp_ok h.2 _ _ _)
    · cases h
  | .ret e, E, X, s, g, hf, h => by
    simp only [ckS] at h
    split at h
    · exact ps_ret (sE e g h)
    · cases h
  | .retN, E, X, s, g, hf, h => by
    simp only [ckS] at h
    split at h
    · exact ps_retN
    · cases h
  | .asg i e, E, X, s, g, hf, h => by
    simp only [ckS] at h
    split at h
    · rename_i x p v pos
      simp only [Bool.and_eq_true, decide_eq_true_eq, Bool.or_eq_true] at h
      obtain ⟨⟨⟨h1, h2⟩, h3⟩, h4⟩ := h
      rcases h4 with h4 | h4
      · exact ps_set g.nd h1 (locB_ok h2) (sE e g h3) (noComp_ok h4 _ _ _) (.inl (hf x))
      · split at h4
        · rename_i elt cm scope vpos
          cases hb : (X.env.blockKind == .function && X.env.kindOf x == some .local && p.line == vpos.line && !(scope.names.any fun (n, k) => n == x && (k == .local || k == .cell))) with
          | false =>
            refine ps_set g.nd h1 (locB_ok h2) (sE e g h3) ?_ (.inl (hf x))
            show (pure _ : Sem Bool) = pure false
            exact congrArg pure hb
          | true =>
            have hsw : swapsWith (.ListComp elt [cm] scope vpos) (some (.Name x p)) pos.line X.env = pure true := congrArg pure hb
            simp only [Bool.and_eq_true, beq_iff_eq] at hb
            have hloc : X.env.scope.names.lookup x = some .local := hb.1.1.2
            cases e <;> first | (simp [ckE] at h3; done) | skip
            rename_i b tg it cs own
            obtain ⟨t, iter, ifs, as⟩ := cm
            simp only [ckE] at h3
            split at h3
            · rename_i heq
              cases heq
              simp only [Bool.and_eq_true] at h3
              obtain ⟨⟨⟨⟨⟨⟨k1, k2⟩, k3⟩, k4⟩, k5⟩, k6⟩, k7⟩ := h3
              have bk := blkOk_by k1
              obtain ⟨wi', pi, hwi⟩ := sI it (tg := tg) g k2
              have base := ps_setLc (pos := vpos) (spos := pos) (py := p) (own := own) (g := tgR X.K tg) (tt := wpTs (cnOf T X.K k) cs) (te := wpE (cnOf T X.K k) E0 b) g.calm g.nd h1 hloc hsw pi bk
                (fun s H C cl fp => pg_of (X := X.blk s H scope (compEnvC scope cl C X.env) fp) (g.blk bk.kind s H C cl fp).calm g.nd (by
                  intro y hy
                  simp only [Bool.and_eq_true, Bool.or_eq_true, decide_eq_true_eq] at hy
                  refine ⟨locB_ok hy.1, ?_⟩
                  rcases hy.2 with z | z
                  · exact .inr (localB_ok z)
                  · exact .inl (by show (scope.names.lookup y == some NameKind.cell) = true; rw [z]; rfl)) k4)
                (fun s H C cl fp => sC cs (g.blk bk.kind s H C cl fp) k6)
                (fun s H C cl fp => sE b (g.blk bk.kind s H C cl fp) k7) (fun v => noSet_ok k3 X.env v)
              refine PS.imp base ?_
              intro D σ H q
              refine hwi σ H _ _ ?_ q
              intro s J H' hs hq d hd
              exact lcW_to hs k5 (hq d hd)
            · cases h3
        · cases h4
    · cases h
  | .unp is e, E, X, s, g, hf, h => by
    simp only [ckS] at h
    split at h
    · rename_i ts kk p v pos
      simp only [Bool.and_eq_true] at h
      obtain ⟨⟨⟨h1, h2⟩, h3⟩, h4⟩ := h
      have pg : PG X (.Tuple ts kk p) (tgR X.K (.tup is)) := pg_of g.calm g.nd (ok := locB X.env.scope) (fun x hx => ⟨locB_ok hx, .inl (hf x)⟩) h1
      have hw : swappedStores [.Tuple ts kk p] v X.env = pure none := by
        split at h4
        · exact stores_none3 (by simpa using h4)
        · rename_i hne
          exact stores_none2 (fun vs k2 p2 e => hne vs k2 p2 e)
      refine PS.imp (ps_asg (PE.up (sE e g h2)) pg (sole_of (noComp_ok h3 (some (.Tuple ts kk p)) pos.line X.env)) hw rfl) ?_
      intro D σ H q
      refine ⟨_, q, fun x H1 q1 => ?_⟩
      split at q1
      · obtain ⟨xs, z1, z2, z3⟩ := q1.to
        exact gTup_of z1 z2 z3
      · exact q1.elim
    · cases h
  | .par is es, E, X, s, g, hf, h => by
    simp only [ckS] at h
    split at h
    · rename_i ts kt pt vs k2 p2 pos
      simp only [Bool.and_eq_true, decide_eq_true_eq] at h
      obtain ⟨⟨⟨h1, h2⟩, h3⟩, h4⟩ := h
      exact s_par es g h1 h2 h3 h4
    · cases h
  | .setI o i e, E, X, s, g, hf, h => by
    simp only [ckS] at h
    split at h
    · rename_i x y p v pos
      simp only [Bool.and_eq_true] at h
      obtain ⟨⟨⟨⟨h1, h2⟩, h3⟩, h4⟩, h5⟩ := h
      have pg := pg_sub (pos := p) (PE.up (sE o g h2)) (PE.up (sE i g h3)) (set_list (X := X)) (by intro w; cases y <;> first | rfl | (cases h4; done))
      refine PS.imp (ps_asg (PE.up (sE e g h1)) pg (sole_of (noComp_ok h5 (some (.Subscript x y p)) pos.line X.env)) stores_none1 rfl) ?_
      intro D σ H q
      refine ⟨_, q, fun w H1 q1 => ⟨_, q1, fun a H2 q2 => ⟨_, q2, fun b H3 q3 => ?_⟩⟩⟩
      split at q3
      · obtain ⟨xs, j, z1, z2, z3⟩ := q3
        exact ⟨_, xs, _, j, rfl, rfl, z1, z2, z3⟩
      · exact q3.elim
    · cases h
  | .aug i op e, E, X, s, g, hf, h => by
    simp only [ckS] at h
    split at h
    · rename_i x p op' v pos
      simp only [Bool.and_eq_true, decide_eq_true_eq] at h
      obtain ⟨⟨⟨h1, h2⟩, rfl⟩, h3⟩ := h
      refine PS.imp (ps_aug g.nd h1 (locB_ok h2) (sE e g h3) opIp_ok (.inl (hf x))) ?_
      intro D σ H q
      simp only [wpS] at q
      split at q
      · exact ⟨_, by assumption, q⟩
      · exact q.elim
    · cases h
  | .augI o i op e, E, X, s, g, hf, h => by
    simp only [ckS] at h
    split at h
    · simp only [Bool.and_eq_true, decide_eq_true_eq] at h
      obtain ⟨⟨⟨⟨h1, h2⟩, h3⟩, rfl⟩, h4⟩ := h
      refine PS.imp (ps_augS (PE.up (sE o g h1)) (PE.up (sE i g h2)) get_list (PE.up (sE e g h4)) (OpR.up opIp_ok) set_list (noSlice_aug h3)) ?_
      intro D σ H q
      refine ⟨_, q, fun x H1 q1 => ⟨_, q1, fun y H2 q2 => ?_⟩⟩
      split at q2
      · obtain ⟨xs, u, z1, z2, z3, z4⟩ := q2
        refine ⟨_, xs, _, _, u, rfl, rfl, z1, z2, rfl, z3, _, z4, fun w H3 q3 => ⟨_, q3, fun z H4 q4 => ?_⟩⟩
        obtain ⟨ys, w1, w2, w3⟩ := q4
        refine ⟨_, ys, _, _, rfl, rfl, w1, ?_, w3⟩
        unfold ixN
        rw [if_pos z2, if_pos w2]
      · exact q2.elim
    · cases h
  | .ife t a b, E, X, s, g, hf, h => by
    simp only [ckS] at h
    split at h
    · simp only [Bool.and_eq_true] at h
      exact ps_if (sT t g h.1.1) (sSs a g hf h.1.2) (sSs b g hf h.2)
    · cases h
  | .forI tg it b, E, X, s, g, hf, h => by
    simp only [ckS] at h
    split at h
    · simp only [Bool.and_eq_true] at h
      obtain ⟨⟨⟨h1, h2⟩, h3⟩, h4⟩ := h
      obtain ⟨wi', pi, hwi⟩ := sI it (tg := tg) g h1
      refine PS.imp (ps_for g.own g.calm pi (pg_of g.calm g.nd (ok := locB X.env.scope) (fun x hx => ⟨locB_ok hx, .inl (hf x)⟩) h3) (sSs b g hf h4) (fun v => noSet_ok h2 X.env v)) ?_
      intro D σ H q
      refine hwi σ H _ _ ?_ q
      intro s J H' hs hq
      exact forW_to hs hq
    · cases h
  | .whl t b, E, X, s, g, hf, h => by
    simp only [ckS] at h
    split at h
    · simp only [Bool.and_eq_true] at h
      refine PS.imp (ps_while g.own (PT.up (sT t g h.1)) (sSs b g hf h.2)) ?_
      intro D σ H q
      obtain ⟨W, w0, wt⟩ := q
      refine ⟨W, w0, ?_⟩
      intro m σ' H' q'
      refine ⟨_, wt m σ' H' q', fun c H1 q1 => ?_⟩
      cases c with
      | true => exact ⟨_, fun σ2 H2 z => z, q1⟩
      | false => exact q1
    · cases h
  | .pass, E, X, s, g, hf, h => by
    simp only [ckS] at h
    split at h
    · exact ps_pass
    · cases h
  | .brk, E, X, s, g, hf, h => by
    simp only [ckS] at h
    split at h
    · exact ps_break
    · cases h
  | .cont, E, X, s, g, hf, h => by
    simp only [ckS] at h
    split at h
    · exact ps_continue
    · cases h
  | .never, E, X, s, g, hf, h => ps_never
theorem sSs {T : Tab} {k : Nat} : ∀ (a : Ss) {E : XK} {X : Cx} {s : List Stmt}, Gd T k E X → (∀ x, X.fn x = true) → ckSs T.way X.N X.env.scope a s = true → PSs X s (wpSs (cnOf T X.K k) E a)
  | .nil, E, X, [], g, hf, h => pss_nil
  | .nil, E, X, _ :: _, g, hf, h => by cases h
  | .cons a r, E, X, [], g, hf, h => by cases h
  | .cons a r, E, X, s :: ss, g, hf, h => by
    simp only [ckSs, Bool.and_eq_true] at h
    exact pss_cons (sS a g hf h.1) (sSs r g hf h.2)
end
end VC

/-! VC, part 9: a table of defs keeps what its trees say. -/
namespace VC
open PySem PySem.Spec PyProof.Rows L2

/-- a def of the text, as it stands behind the top -/
structure DefF (T : Tab) (K : PySem.W.Frag) (mg : Str → Option Value) (x : Str) (F : Fn) : Prop where
  ex : ∃ (f : Addr) (fd : FuncData) (qual : Str) (params : Arguments) (body : List Stmt) (scope : Scope) (kws : List (Str × V)), mg x = some (.ref f) ∧ FunD K x qual params body scope [] kws f fd ∧ FnScope F.N F.ps scope ∧
    ckSs T.way F.N scope F.body body = true ∧
    ∀ (n : Nat) (ks : List Str), T.way x n ks = true → ∀ (s : Shared) (us ws : List Value), K.In s.heap → us.length = n → ws.length = ks.length →
      BindsTo s fd ⟨us, ks.zip ws⟩ (F.ps.zip (arrange F.ps ks Value.none us ws))

theorem fnG_tab {T : Tab} {P : Program} {w : World} {K : PySem.W.Frag} {mg : Str → Option Value} {base : Heap} {k : Nat} {x qual : Str} {F : Fn} {params : Arguments} {body : List Stmt} {scope : Scope} {dvs : List V} {kws : List (Str × V)} {f : Addr} {fd : FuncData}
    (ih : Facts T P w K mg base k) (hx : T.fns.lookup x = some F) (h2 : FunD K x qual params body scope dvs kws f fd) (h3 : FnScope F.N F.ps scope) (h4 : ckSs T.way F.N scope F.body body = true) :
    FnG P w K mg base (k + 1) f fd F.ps (SPn T K (k + 1) x) := by
  refine fnG_of h2 h3 ?_ ?_
  · intro vs H Q E h
    simp only [SPn, hx] at h
    exact h.1
  · intro cdv A outer s H vs Q E hgu hr h
    simp only [SPn, hx] at h
    refine ⟨wpSs (cnOf T K k) E F.body, ?_, h.2⟩
    refine sSs (T := T) (k := k) F.body (X := cxOf (L2.CX P w) P w K mg base F.N qual scope f cdv A outer s H E) ?_ (fun _ => rfl) h4
    exact { calm := rfl, nd := h3.nd, kind := h3.kind, room := hr, gu := hgu,
            pass := passes_call (takes_of rfl rfl rfl rfl) (fun _ _ _ _ z => z),
            own := passes_of rfl, fx := ih }

theorem facts_of {T : Tab} {P : Program} {w : World} {K : PySem.W.Frag} {mg : Str → Option Value} {base : Heap}
    (hF : ∀ x F, T.fns.lookup x = some F → DefF T K mg x F) (hc : ∀ x v, T.cons.lookup x = some v → ∃ u, mg x = some u ∧ RelV v u) (hb : ∀ x ∈ bltNames, mg x = none) :
    ∀ k, Facts T P w K mg base k
  | 0 => by
    refine ⟨fun x F hx => ?_, hc, hb⟩
    obtain ⟨f, fd, qual, params, body, scope, kws, h1, h2, h3, h4, h5⟩ := (hF x F hx).ex
    exact ⟨f, fd, h1, h2.kp, ⟨fun _ _ _ _ z => z.elim, fun _ _ _ _ _ _ _ _ _ _ _ _ _ _ z => z.elim⟩, h5⟩
  | k + 1 => by
    refine ⟨fun x F hx => ?_, hc, hb⟩
    obtain ⟨f, fd, qual, params, body, scope, kws, h1, h2, h3, h4, h5⟩ := (hF x F hx).ex
    exact ⟨f, fd, h1, h2.kp, fnG_tab (facts_of hF hc hb k) hx h2 h3 h4, h5⟩

/-- keyword-less and keyword binding of plain parameters, by one look at each way -/
theorem way_none {T : Tab} {x : Str} {n : Nat} {ks : List Str} {F : Fn} (hx : T.fns.lookup x = some F) (h : T.way x n ks = true) : (ks = [] ∧ n = F.ps.length) ∨ (x, n, ks) ∈ T.kp := by
  simp only [Tab.way, hx, Bool.or_eq_true, Bool.and_eq_true, List.isEmpty_iff, beq_iff_eq, List.contains_iff_mem] at h
  exact h
end VC

/-! VC, part 10: from a head's facts to a law. -/
namespace VC
open PySem PySem.Spec PyProof.Rows L2

def fscB (N ps : List Str) (sc : Scope) : Bool :=
  (match sc.kind with
    | .function => true
    | _ => false) && !sc.isCoroutine && !sc.isGenerator && decide N.Nodup && decide (N.take ps.length = ps) && ps.all (locB sc) && sc.names.all fun y => decide (y.2 ≠ .free)
theorem fscB_ok {N ps : List Str} {sc : Scope} (h : fscB N ps sc = true) : FnScope N ps sc := by
  simp only [fscB, Bool.and_eq_true, Bool.not_eq_true', decide_eq_true_eq, List.all_eq_true] at h
  obtain ⟨⟨⟨⟨⟨⟨h1, h2⟩, h3⟩, h4⟩, h5⟩, h6⟩, h7⟩ := h
  refine ⟨?_, h2, h3, h4, h5, fun x hx => locB_ok (h6 x hx), h7⟩
  split at h1
  · assumption
  · cases h1

/-- how a def's plain arguments come to its parameters, as the model says it -/
def bindsB (x qual : Str) (a : Arguments) (body : List Stmt) (sc : Scope) (ps : List Str) (n : Nat) (ks : List Str) : Prop :=
  ∀ (kV doc pm : Value) (an : Option Addr) (cdv ct : Value) (us ws : List Value), us.length = n → ws.length = ks.length →
    bindArgs (PySem.W.fnOf x qual a body sc .none kV doc pm an cdv ct) ⟨us, ks.zip ws⟩ = pure (ps.zip (arrange ps ks Value.none us ws))

theorem defF_of {T : Tab} {K : PySem.W.Frag} {mg : Str → Option Value} {x qual : Str} {F : Fn} {a : Arguments} {body : List Stmt} {sc : Scope} {kws : List (Str × V)} {f : Addr} {fd : FuncData}
    (hx : T.fns.lookup x = some F) (hm : mg x = some (.ref f)) (D : FunD K x qual a body sc [] kws f fd) (hs : fscB F.N F.ps sc = true) (hc : ckSs T.way F.N sc F.body body = true)
    (hb : bindsB x qual a body sc F.ps F.ps.length []) (hk : ∀ n ks, (x, n, ks) ∈ T.kp → bindsB x qual a body sc F.ps n ks) : DefF T K mg x F := by
  refine ⟨f, fd, qual, a, body, sc, kws, hm, D, fscB_ok hs, hc, ?_⟩
  intro n ks h s us ws hK hu hw
  obtain ⟨oc, od, dV, kV, doc, pm, an, cdv, ct, osl, rfl, lk, hcd, hD, hKw⟩ := D.ex
  rcases hD with ⟨_, rfl⟩ | ⟨e, _⟩
  · rcases way_none hx h with ⟨rfl, rfl⟩ | hm'
    · exact .of_eq (hb kV doc pm an cdv ct us ws hu hw)
    · exact .of_eq (hk n ks hm' kV doc pm an cdv ct us ws hu hw)
  · exact absurd rfl e

theorem lookup_mem' {α : Type} : ∀ {l : List (Str × α)} {x : Str} {v : α}, l.lookup x = some v → (x, v) ∈ l
  | (k, w) :: r, x, v, h => by
    rw [List.lookup_cons] at h
    cases hb : x == k with
    | true =>
      rw [hb] at h
      have e := eq_of_beq hb
      cases h
      subst e
      exact List.mem_cons_self
    | false =>
      rw [hb] at h
      exact List.mem_cons_of_mem _ (lookup_mem' h)
end VC

/-! Rules: a wp, step by step. -/
namespace VC
open PySem PySem.Spec PyProof.Rows L2

def Tab.has (T : Tab) (x : Str) (F : Fn) : Prop := T.fns.lookup x = some F
theorem SPn_of {T : Tab} {K : PySem.W.Frag} {k : Nat} {x : Str} {F : Fn} {vs : List V} {H : Hp} {Q : VK} {E : XK} (hx : T.has x F) (hl : vs.length = F.ps.length)
    (h : wpSs (cnOf T K k) E F.body { nx := fun _ H' => Q .non H', rt := Q } (L2.start F.N vs) H) : SPn T K (k + 1) x vs H Q E := by
  show (match T.fns.lookup x with
    | none => False
    | some F => vs.length = F.ps.length ∧ _)
  rw [show T.fns.lookup x = some F from hx]
  exact ⟨hl, h⟩

/-- whole numbers as values -/
def nl (ns : List Nat) : List V := ns.map fun (n : Nat) => V.int (n : Int)
def il (ns : List Int) : List V := ns.map V.int
@[simp] theorem nl_length (ns : List Nat) : (nl ns).length = ns.length := by simp [nl]
@[simp] theorem il_length (ns : List Int) : (il ns).length = ns.length := by simp [il]
theorem nl_get {ns : List Nat} {i : Nat} (h : i < ns.length) : (nl ns)[i]? = some (.int (ns.getD i 0 : Nat)) := by
  simp [nl, h]
theorem il_get {ns : List Int} {i : Nat} (h : i < ns.length) : (il ns)[i]? = some (.int (ns.getD i 0)) := by
  simp [il, h]
theorem nl_append (a b : List Nat) : nl (a ++ b) = nl a ++ nl b := by simp [nl]
theorem il_append (a b : List Int) : il (a ++ b) = il a ++ il b := by simp [il]
theorem nl_set (a : List Nat) (i n : Nat) : (nl a).set i (.int (n : Int)) = nl (a.set i n) := by simp [nl, List.map_set]
theorem il_set (a : List Int) (i : Nat) (n : Int) : (il a).set i (.int n) = il (a.set i n) := by simp [il, List.map_set]
theorem nl_il (a : List Nat) : nl a = il (a.map fun (n : Nat) => (n : Int)) := by simp [nl, il]
theorem atI_nl {ns : List Nat} {j : Int} (h0 : 0 ≤ j) (h1 : j < ns.length) : atI (nl ns) j = some (.int (ns.getD j.toNat 0 : Nat)) := by
  have e : (j.toNat : Int) = j := by omega
  rw [← e]
  exact atI_nat (nl_get (by omega))
theorem atI_il {ns : List Int} {j : Int} (h0 : 0 ≤ j) (h1 : j < ns.length) : atI (il ns) j = some (.int (ns.getD j.toNat 0)) := by
  have e : (j.toNat : Int) = j := by omega
  rw [← e]
  exact atI_nat (il_get (by omega))
theorem ixN_of {n : Nat} {j : Int} (h0 : 0 ≤ j) (h1 : j < n) : ixN n j = some j.toNat := by
  unfold ixN
  rw [if_pos h0, if_pos h1]
theorem fit {n : Nat} (h : n ≤ 100000) : n ≤ sizeLine := Nat.le_trans h (by decide)
theorem fit1 {n : Nat} (h : n < 100000) : n < sizeLine := Nat.lt_of_lt_of_le h (by decide)

theorem if_dec {p : Prop} [Decidable p] {A B : Prop} (h1 : p → A) (h2 : ¬ p → B) : if decide p = true then A else B := by
  by_cases h : p
  · rw [if_pos (decide_eq_true h)]; exact h1 h
  · rw [if_neg (by rw [decide_eq_false h]; decide)]; exact h2 h
theorem if_ndec {p : Prop} [Decidable p] {A B : Prop} (h1 : ¬ p → A) (h2 : p → B) : if (!decide p) = true then A else B := by
  by_cases h : p
  · rw [if_neg (by rw [decide_eq_true h]; decide)]; exact h2 h
  · rw [if_pos (by rw [decide_eq_false h]; decide)]; exact h1 h
theorem if_b {b : Bool} {A B : Prop} (h1 : b = true → A) (h2 : b = false → B) : if b = true then A else B := by
  cases b
  · rw [if_neg (by decide)]; exact h2 rfl
  · rw [if_pos rfl]; exact h1 rfl

theorem if_T {A B : Prop} (h : A) : if true = true then A else B := by rw [if_pos rfl]; exact h
theorem if_F {A B : Prop} (h : B) : if false = true then A else B := by rw [if_neg (by decide)]; exact h
theorem if_nT {A B : Prop} (h : B) : if (!true) = true then A else B := by rw [if_neg (by decide)]; exact h
theorem if_nF {A B : Prop} (h : A) : if (!false) = true then A else B := by rw [if_pos (by decide)]; exact h

section
variable {c : Cn} {E : XK} {σ : L2.St} {H H' : Hp} {Q : VK} {D : Ends} {i j : Int} {v x y : V}

/-! ### expressions -/
theorem e_var {n : Nat} (h : σ[n]? = some (some v)) (q : Q v H) : wpE c E (.var n) σ H Q := by
  simp only [wpE, h]; exact q
theorem e_int {n : Int} (q : Q (.int n) H) : wpE c E (.con (.int n)) σ H Q := q
theorem e_bool {b : Bool} (q : Q (.bl b) H) : wpE c E (.con (.bool b)) σ H Q := q
theorem e_none (q : Q .non H) : wpE c E (.con .none) σ H Q := q
theorem e_str {z : Str} (q : Q (.str z) H) : wpE c E (.con (.str z)) σ H Q := q
theorem e_glb {z : Str} (h : c.cs z = some v) (q : Q v H) : wpE c E (.glb z) σ H Q := by
  simp only [wpE, h]; exact q
theorem e_glbT {T : Tab} {K : PySem.W.Frag} {k : Nat} {z : Str} (h : T.cons.lookup z = some v) (q : Q v H) : wpE (cnOf T K k) E (.glb z) σ H Q := e_glb h q
theorem e_bin {op : Operator} {a b : Ex} (q : wpE c E a σ H fun x H1 => wpE c E b σ H1 fun y H2 => opBin op x y H2 Q) : wpE c E (.bin op a b) σ H Q := q
theorem e_neg {a : Ex} (q : wpE c E a σ H fun x H1 => match x with
    | .int i => Q (.int (-i)) H1
    | _ => False) : wpE c E (.neg a) σ H Q := q
theorem e_cmp {op : CmpOp} {a b : Ex} (q : wpE c E a σ H fun x H1 => wpE c E b σ H1 fun y H2 => opCmp c.K op x y H2 Q) : wpE c E (.cmp op a b) σ H Q := q
theorem e_chn {o p : CmpOp} {a b d : Ex} (q : wpE c E a σ H fun x H1 => wpE c E b σ H1 fun y H2 => opCmp c.K o x y H2 fun z H3 => match z with
    | .bl true => wpE c E d σ H3 fun w H4 => opCmp c.K p y w H4 Q
    | .bl false => Q (.bl false) H3
    | _ => False) : wpE c E (.chn o p a b d) σ H Q := q
theorem e_and {a b : Ex} (q : wpE c E a σ H fun x H1 => match x with
    | .bl true => wpE c E b σ H1 Q
    | .bl false => Q (.bl false) H1
    | _ => False) : wpE c E (.and a b) σ H Q := q
theorem e_or {a b : Ex} (q : wpE c E a σ H fun x H1 => match x with
    | .bl false => wpE c E b σ H1 Q
    | .bl true => Q (.bl true) H1
    | _ => False) : wpE c E (.or a b) σ H Q := q
theorem e_not {a : Ex} (q : wpE c E a σ H fun x H1 => match x with
    | .bl b => Q (.bl (!b)) H1
    | _ => False) : wpE c E (.not a) σ H Q := q
theorem e_ite {t : Ts} {a b : Ex} (q : wpT c E t σ H fun k H1 => if k = true then wpE c E a σ H1 Q else wpE c E b σ H1 Q) : wpE c E (.ite t a b) σ H Q := q
theorem e_tup {es : Exs} (q : wpEs c E es σ H fun xs H1 => xs.length ≤ sizeLine ∧ alloc H1 (.tup xs) Q) : wpE c E (.tup es) σ H Q := q
theorem e_lst {es : Exs} (q : wpEs c E es σ H fun xs H1 => xs.length ≤ sizeLine ∧ alloc H1 (.lst xs) Q) : wpE c E (.lst es) σ H Q := q
theorem e_idx {a b : Ex} (q : wpE c E a σ H fun x H1 => wpE c E b σ H1 fun y H2 => idxW c.K x y H2 Q) : wpE c E (.idx a b) σ H Q := q
theorem e_call {f : Str} {es kes : Exs} {ks : List Str} (q : wpEs c E es σ H fun vs H1 => wpEs c E kes σ H1 fun zs H2 => vs.length = es.len ∧ zs.length = ks.length ∧ c.G f (arrange (c.ps f) ks V.non vs zs) H2 Q E) : wpE c E (.call f es ks kes) σ H Q := q
theorem e_callP {T : Tab} {K : PySem.W.Frag} {k : Nat} {f : Str} {es : Exs} (q : wpEs (cnOf T K k) E es σ H fun vs H1 => vs.length = es.len ∧ SPn T K k f vs H1 Q E) : wpE (cnOf T K k) E (.call f es [] .nil) σ H Q := by
  have e : ∀ (ps : List Str) (vs : List V), arrange ps [] V.non vs [] = vs := fun _ _ => rfl
  simp only [wpE, wpEs, List.length_nil, true_and, e]
  exact q
theorem e_callK {T : Tab} {K : PySem.W.Frag} {k : Nat} {f : Str} {F : Fn} {es kes : Exs} {ks : List Str} (hx : T.has f F) (q : wpEs (cnOf T K k) E es σ H fun vs H1 => wpEs (cnOf T K k) E kes σ H1 fun zs H2 => vs.length = es.len ∧ zs.length = ks.length ∧ SPn T K k f (arrange F.ps ks V.non vs zs) H2 Q E) : wpE (cnOf T K k) E (.call f es ks kes) σ H Q := by
  have e : (cnOf T K k).ps f = F.ps := by
    show ((T.fns.lookup f).map (·.ps)).getD [] = F.ps
    rw [show T.fns.lookup f = some F from hx]
    rfl
  simp only [wpE, e]
  exact q
theorem e_blt {f : Str} {es : Exs} (q : wpEs c E es σ H fun vs H1 => bltW c.K f vs H1 Q) : wpE c E (.blt f es) σ H Q := q
theorem e_isi {a : Ex} {t : Str} (q : wpE c E a σ H fun x H1 => ∃ n b, tyName c.K H1 x = some n ∧ kitB n t.toString = some b ∧ Q (.bl b) H1) : wpE c E (.isi a t) σ H Q := q
theorem e_lzp {a b : Ex} (q : wpE c E a σ H fun x H1 => wpE c E b σ H1 fun y H2 => match x, y with
    | .ref a, .ref b => onL c.K H2 a fun xs => onL c.K H2 b fun ys => lzpW H2 xs ys Q
    | _, _ => False) : wpE c E (.lzp a b) σ H Q := q
theorem e_mth {m : Str} {o : Ex} {es : Exs} (q : wpE c E o σ H fun x H1 => match x with
    | .ref a => match H1 a with
      | some (.lst _) => wpEs c E es σ H1 fun vs H2 => mthW c.K m x vs H2 Q
      | _ => False
    | _ => False) : wpE c E (.mth m o es) σ H Q := q
theorem e_comp {e : Ex} {tg : Tg} {it : Ir} {cs : Cd} {own : List (Str × Nat)} (q : wpI c E it σ H fun s H1 => ∀ d, H1 d = none →
      lcW c.K s tg (wpTs c cs) (wpE c E0 e) (wipe σ (own.map (·.2))) d Q (upd H1 d (.lst []))) : wpE c E (.comp e tg it cs own) σ H Q := q
theorem es_nil {P : List V → Hp → Prop} (q : P [] H) : wpEs c E .nil σ H P := q
theorem es_cons {e : Ex} {es : Exs} {P : List V → Hp → Prop} (q : wpE c E e σ H fun x H1 => wpEs c E es σ H1 fun xs H2 => P (x :: xs) H2) : wpEs c E (.cons e es) σ H P := q

/-! ### operators -/
theorem o_add (q : Q (.int (i + j)) H) : opBin .Add (.int i) (.int j) H Q := q
theorem o_sub (q : Q (.int (i - j)) H) : opBin .Sub (.int i) (.int j) H Q := q
theorem o_mul (hc : CMulW i j) (q : Q (.int (i * j)) H) : opBin .Mult (.int i) (.int j) H Q := ⟨hc, q⟩
theorem o_fdiv (hc : CDivW i j) (q : Q (.int (i / j)) H) : opBin .FloorDiv (.int i) (.int j) H Q := ⟨hc, q⟩
theorem o_mod (hc : 0 < j) (q : Q (.int (i % j)) H) : opBin .Mod (.int i) (.int j) H Q := ⟨hc, q⟩
theorem o_cat {a b : Addr} {xs ys : List V} (ha : H a = some (.lst xs)) (hb : H b = some (.lst ys)) (hl : xs.length + ys.length ≤ sizeLine) (q : alloc H (.lst (xs ++ ys)) Q) : opBin .Add (.ref a) (.ref b) H Q := ⟨xs, ys, ha, hb, hl, q⟩
theorem c_lt (q : Q (.bl (decide (i < j))) H) {K : PySem.W.Frag} : opCmp K .Lt (.int i) (.int j) H Q := q
theorem c_le (q : Q (.bl (decide (i ≤ j))) H) {K : PySem.W.Frag} : opCmp K .LtE (.int i) (.int j) H Q := q
theorem c_gt (q : Q (.bl (decide (j < i))) H) {K : PySem.W.Frag} : opCmp K .Gt (.int i) (.int j) H Q := q
theorem c_ge (q : Q (.bl (decide (j ≤ i))) H) {K : PySem.W.Frag} : opCmp K .GtE (.int i) (.int j) H Q := q
theorem c_eqI (q : Q (.bl (decide (i = j))) H) {K : PySem.W.Frag} : opCmp K .Eq (.int i) (.int j) H Q := by simpa [opCmp, eqW] using q
theorem c_neI (q : Q (.bl (!decide (i = j))) H) {K : PySem.W.Frag} : opCmp K .NotEq (.int i) (.int j) H Q := by simpa [opCmp, eqW] using q
theorem c_eqS {s t : Str} (q : Q (.bl (decide (s = t))) H) {K : PySem.W.Frag} : opCmp K .Eq (.str s) (.str t) H Q := by simpa [opCmp, eqW] using q
theorem c_neS {s t : Str} (q : Q (.bl (!decide (s = t))) H) {K : PySem.W.Frag} : opCmp K .NotEq (.str s) (.str t) H Q := by simpa [opCmp, eqW] using q
theorem i_nl {K : PySem.W.Frag} {p : Addr} {ns : List Nat} (hp : H p = some (.lst (nl ns))) (h0 : 0 ≤ j) (h1 : j < ns.length) (q : Q (.int (ns.getD j.toNat 0 : Nat)) H) : idxW K (.ref p) (.int j) H Q := by
  show onS K H p _
  rw [onS_l hp]
  exact ⟨_, atI_nl h0 h1, q⟩
theorem i_il {K : PySem.W.Frag} {p : Addr} {ns : List Int} (hp : H p = some (.lst (il ns))) (h0 : 0 ≤ j) (h1 : j < ns.length) (q : Q (.int (ns.getD j.toNat 0)) H) : idxW K (.ref p) (.int j) H Q := by
  show onS K H p _
  rw [onS_l hp]
  exact ⟨_, atI_il h0 h1, q⟩
theorem i_l {K : PySem.W.Frag} {p : Addr} {xs : List V} (hp : H p = some (.lst xs)) (ha : atI xs j = some v) (q : Q v H) : idxW K (.ref p) (.int j) H Q := by
  show onS K H p _
  rw [onS_l hp]
  exact ⟨_, ha, q⟩
theorem i_t {K : PySem.W.Frag} {p : Addr} {xs : List V} (hp : H p = some (.tup xs)) (ha : atI xs j = some v) (q : Q v H) : idxW K (.ref p) (.int j) H Q := by
  show onS K H p _
  rw [onS_t hp]
  exact ⟨_, ha, q⟩
theorem b_len {K : PySem.W.Frag} {p : Addr} {xs : List V} (hp : H p = some (.lst xs)) (q : Q (.int xs.length) H) : bltW K "len" [.ref p] H Q := by
  show onS K H p _
  rw [onS_l hp]
  exact q
theorem b_lenN {K : PySem.W.Frag} {p : Addr} {xs : List Nat} (hp : H p = some (.lst (nl xs))) (q : Q (.int xs.length) H) : bltW K "len" [.ref p] H Q := b_len hp (by rw [nl_length]; exact q)
theorem b_lenI {K : PySem.W.Frag} {p : Addr} {xs : List Int} (hp : H p = some (.lst (il xs))) (q : Q (.int xs.length) H) : bltW K "len" [.ref p] H Q := b_len hp (by rw [il_length]; exact q)
theorem b_lenT {K : PySem.W.Frag} {p : Addr} {xs : List V} (hp : H p = some (.tup xs)) (q : Q (.int xs.length) H) : bltW K "len" [.ref p] H Q := by
  show onS K H p _
  rw [onS_t hp]
  exact q
theorem b_int {K : PySem.W.Frag} (q : Q (.int i) H) : bltW K "int" [.int i] H Q := q
theorem b_intB {K : PySem.W.Frag} {b : Bool} (q : Q (.int (if b then 1 else 0)) H) : bltW K "int" [.bl b] H Q := q
theorem b_list {K : PySem.W.Frag} {p : Addr} {xs : List V} (hp : H p = some (.lst xs)) (q : alloc H (.lst xs) Q) : bltW K "list" [.ref p] H Q := by
  show onS K H p _
  rw [onS_l hp]
  exact q
theorem m_append {K : PySem.W.Frag} {l : Addr} {xs : List V} (hl : H l = some (.lst xs)) (hz : xs.length < sizeLine) (q : Q .non (upd H l (.lst (xs ++ [y])))) : mthW K "append" (.ref l) [y] H Q := ⟨xs, hl, hz, q⟩

/-! ### tests -/
variable {P : Bool → Hp → Prop}
theorem t_val {e : Ex} (q : wpE c E e σ H fun x H1 => match x with
    | .bl b => P b H1
    | _ => False) : wpT c E (.val e) σ H P := q
theorem t_cmp {op : CmpOp} {a b : Ex} (q : wpE c E a σ H fun x H1 => wpE c E b σ H1 fun y H2 => opCmp c.K op x y H2 fun z H3 => match z with
    | .bl k => P k H3
    | _ => False) : wpT c E (.cmp op a b) σ H P := q
theorem t_chn {o p : CmpOp} {a b d : Ex} (q : wpE c E a σ H fun x H1 => wpE c E b σ H1 fun y H2 => opCmp c.K o x y H2 fun z H3 => match z with
    | .bl true => wpE c E d σ H3 fun w H4 => opCmp c.K p y w H4 fun z H5 => match z with
      | .bl k => P k H5
      | _ => False
    | .bl false => P false H3
    | _ => False) : wpT c E (.chn o p a b d) σ H P := q
theorem t_not {a : Ts} (q : wpT c E a σ H fun b H1 => P (!b) H1) : wpT c E (.not a) σ H P := q
theorem t_and {a b : Ts} (q : wpT c E a σ H fun k H1 => if k = true then wpT c E b σ H1 P else P false H1) : wpT c E (.and a b) σ H P := q
theorem t_or {a b : Ts} (q : wpT c E a σ H fun k H1 => if k = true then P true H1 else wpT c E b σ H1 P) : wpT c E (.or a b) σ H P := q
theorem d_no (q : P true H) : wpTs c .no σ H P := q
theorem d_one {t : Ts} (q : wpT c E0 t σ H P) : wpTs c (.one t) σ H P := q

/-! ### what is walked -/
variable {R : Src → Hp → Prop}
theorem w_seq {e : Ex} (q : wpE c E e σ H fun x H1 => match x with
    | .ref a => onL c.K H1 a fun xs => R (.lst a xs) H1
    | _ => False) : wpI c E (.seq e) σ H R := q
theorem w_rng {es : Exs} (q : wpEs c E es σ H fun vs H1 => rngW vs fun lo st n => R (.rng lo st n) H1) : wpI c E (.rng es) σ H R := q
theorem w_enm {e : Ex} (q : wpE c E e σ H fun x H1 => match x with
    | .ref a => onL c.K H1 a fun xs => R (.enm a xs) H1
    | _ => False) : wpI c E (.enm e) σ H R := q
theorem w_zip {a b : Ex} (q : wpE c E a σ H fun x H1 => wpE c E b σ H1 fun y H2 => match x, y with
    | .ref a, .ref b => onL c.K H2 a fun xs => onL c.K H2 b fun ys => R (.zip a b xs ys) H2
    | _, _ => False) : wpI c E (.zip a b) σ H R := q
theorem on_l {K : PySem.W.Frag} {a : Addr} {xs : List V} {F : List V → Prop} (h : H a = some (.lst xs)) (q : F xs) : onL K H a F := by
  rw [onL_of h]; exact q
theorem on_t {K : PySem.W.Frag} {a : Addr} {xs : List V} {F : List V → Prop} (h : H a = some (.tup xs)) (q : F xs) : onT K H a F := by
  rw [onT_of h]; exact q
theorem r_1 {F : Int → Int → Nat → Prop} (h0 : 0 ≤ j) (h1 : j < 4611686018427387904) (q : F 0 1 j.toNat) : rngW [.int j] F := ⟨by omega, by omega, q⟩
theorem r_2 {F : Int → Int → Nat → Prop} (h0 : -4611686018427387904 ≤ i ∧ i < 4611686018427387904) (h1 : -4611686018427387904 ≤ j ∧ j < 4611686018427387904) (q : F i 1 (j - i).toNat) : rngW [.int i, .int j] F := ⟨⟨by omega, by omega, by omega, by omega⟩, q⟩

/-! ### statements -/
theorem s_nil (q : D.nx σ H) : wpSs c E .nil D σ H := q
theorem s_cons {s : Sm} {r : Ss} (q : wpS c E s { D with nx := wpSs c E r D } σ H) : wpSs c E (.cons s r) D σ H := q
theorem s_expr {e : Ex} (q : wpE c E e σ H fun _ H1 => D.nx σ H1) : wpS c E (.expr e) D σ H := q
theorem s_ret {e : Ex} (q : wpE c E e σ H D.rt) : wpS c E (.ret e) D σ H := q
theorem s_asg {n : Nat} {e : Ex} (q : wpE c E e σ H fun x H1 => D.nx (σ.set n (some x)) H1) : wpS c E (.asg n e) D σ H := q
theorem s_unp {ns : List Nat} {e : Ex} (q : wpE c E e σ H fun x H1 => match x with
    | .ref a => onT c.K H1 a fun xs => xs.length = ns.length ∧ D.nx (setAll σ ns xs) H1
    | _ => False) : wpS c E (.unp ns e) D σ H := q
theorem s_prl {ns : List Nat} {es : Exs} (q : wpEs c E es σ H fun xs H1 => xs.length = ns.length ∧ D.nx (setAll σ ns xs) H1) : wpS c E (.par ns es) D σ H := q
theorem s_ife {t : Ts} {a b : Ss} (q : wpT c E t σ H fun k H1 => if k = true then wpSs c E a D σ H1 else wpSs c E b D σ H1) : wpS c E (.ife t a b) D σ H := q
theorem s_set {o n e : Ex} (q : wpE c E e σ H fun v H1 => wpE c E o σ H1 fun x H2 => wpE c E n σ H2 fun y H3 => match x, y with
    | .ref p, .int k => ∃ xs j, H3 p = some (.lst xs) ∧ ixN xs.length k = some j ∧ D.nx σ (upd H3 p (.lst (xs.set j v)))
    | _, _ => False) : wpS c E (.setI o n e) D σ H := q
theorem s_augI {o n e : Ex} {op : Operator} (q : wpE c E o σ H fun x H1 => wpE c E n σ H1 fun y H2 => match x, y with
    | .ref p, .int k => ∃ xs u, H2 p = some (.lst xs) ∧ 0 ≤ k ∧ xs[k.toNat]? = some u ∧ wpE c E e σ H2 fun w H3 => opIp op u w H3 fun z H4 =>
        ∃ ys, H4 p = some (.lst ys) ∧ k < ys.length ∧ D.nx σ (upd H4 p (.lst (ys.set k.toNat z)))
    | _, _ => False) : wpS c E (.augI o n op e) D σ H := q
theorem s_aug {n : Nat} {op : Operator} {e : Ex} (h : σ[n]? = some (some x)) (q : wpE c E e σ H fun y H1 => opIp op x y H1 fun z H2 => D.nx (σ.set n (some z)) H2) : wpS c E (.aug n op e) D σ H := by
  simp only [wpS, h]; exact q
theorem p_add (q : Q (.int (i + j)) H) : opIp .Add (.int i) (.int j) H Q := q
theorem p_sub (q : Q (.int (i - j)) H) : opIp .Sub (.int i) (.int j) H Q := q
theorem s_for {tg : Tg} {it : Ir} {b : Ss} (q : wpI c E it σ H fun s H1 => forW c.K s tg (wpSs c E b) D σ H1) : wpS c E (.forI tg it b) D σ H := q
theorem s_whl {t : Ts} {b : Ss} (q : whileW (wpT c E t) (wpSs c E b) D σ H) : wpS c E (.whl t b) D σ H := q
end

/-! ### loops -/
section
variable {K : PySem.W.Frag} {σ : L2.St} {H : Hp} {D : Ends} {tb : TS} {a b : Addr} {xs ys : List V} {j l : Nat}
theorem f_enm (W : Nat → L2.St → Hp → Prop) (h0 : W 0 σ H) (ok : ∀ i σ' H', W i σ' H' → H' a = some (.lst xs))
    (turn : ∀ i σ' H' x, xs[i]? = some x → W i σ' H' → ∀ H1, Same H' H1 → tb { nx := W (i + 1), ct := W (i + 1), bk := D.nx, rt := D.rt } ((σ'.set j (some (.int (i : Nat)))).set l (some x)) H1)
    (done : ∀ σ' H', W xs.length σ' H' → D.nx σ' H') : forW K (.enm a xs) (.tup [j, l]) tb D σ H := by
  refine ⟨W, h0, ?_, ?_⟩
  · intro i σ' H' hi w
    exact ⟨.inl (.inl (ok i σ' H' w)), xs[i]'hi, List.getElem?_eq_getElem hi, fun H1 sm => turn i σ' H' _ (List.getElem?_eq_getElem hi) w H1 sm⟩
  · intro σ' H' w
    exact ⟨.inl (.inl (ok _ σ' H' w)), done σ' H' w⟩
theorem f_lst (W : Nat → L2.St → Hp → Prop) (h0 : W 0 σ H) (ok : ∀ i σ' H', W i σ' H' → H' a = some (.lst xs))
    (turn : ∀ i σ' H' x, xs[i]? = some x → W i σ' H' → tb { nx := W (i + 1), ct := W (i + 1), bk := D.nx, rt := D.rt } (σ'.set j (some x)) H')
    (done : ∀ σ' H', W xs.length σ' H' → D.nx σ' H') : forW K (.lst a xs) (.name j) tb D σ H := by
  refine ⟨W, h0, ?_, ?_⟩
  · intro i σ' H' hi w
    exact ⟨.inl (.inl (ok i σ' H' w)), xs[i]'hi, List.getElem?_eq_getElem hi, turn i σ' H' _ (List.getElem?_eq_getElem hi) w⟩
  · intro σ' H' w
    exact ⟨.inl (.inl (ok _ σ' H' w)), done σ' H' w⟩
theorem f_rng {lo : Int} {n : Nat} (W : Nat → L2.St → Hp → Prop) (h0 : W 0 σ H)
    (turn : ∀ i σ' H', i < n → W i σ' H' → tb { nx := W (i + 1), ct := W (i + 1), bk := D.nx, rt := D.rt } (σ'.set j (some (.int (lo + (i : Nat))))) H')
    (done : ∀ σ' H', W n σ' H' → D.nx σ' H') : forW K (.rng lo 1 n) (.name j) tb D σ H := by
  refine ⟨W, h0, ?_, ?_⟩
  · intro i σ' H' hi w
    refine ⟨trivial, ?_⟩
    show tb _ (σ'.set j (some (.int (lo + (i : Nat) * 1)))) H'
    rw [Int.mul_one]
    exact turn i σ' H' hi w
  · intro σ' H' w
    exact ⟨trivial, done σ' H' w⟩
theorem f_zip (W : Nat → L2.St → Hp → Prop) (h0 : W 0 σ H) (ok : ∀ i σ' H', W i σ' H' → H' a = some (.lst xs) ∧ H' b = some (.lst ys))
    (turn : ∀ i σ' H' x y, xs[i]? = some x → ys[i]? = some y → W i σ' H' → ∀ H1, Same H' H1 → tb { nx := W (i + 1), ct := W (i + 1), bk := D.nx, rt := D.rt } ((σ'.set j (some x)).set l (some y)) H1)
    (done : ∀ σ' H', W (min xs.length ys.length) σ' H' → D.nx σ' H') : forW K (.zip a b xs ys) (.tup [j, l]) tb D σ H := by
  refine ⟨W, h0, ?_, ?_⟩
  · intro i σ' H' hi w
    have h1 : i < xs.length := Nat.lt_of_lt_of_le hi (Nat.min_le_left _ _)
    have h2 : i < ys.length := Nat.lt_of_lt_of_le hi (Nat.min_le_right _ _)
    obtain ⟨o1, o2⟩ := ok i σ' H' w
    exact ⟨⟨.inl (.inl o1), .inl (.inl o2)⟩, xs[i]'h1, ys[i]'h2, List.getElem?_eq_getElem h1, List.getElem?_eq_getElem h2, fun H1 sm => turn i σ' H' _ _ (List.getElem?_eq_getElem h1) (List.getElem?_eq_getElem h2) w H1 sm⟩
  · intro σ' H' w
    obtain ⟨o1, o2⟩ := ok _ σ' H' w
    exact ⟨⟨.inl (.inl o1), .inl (.inl o2)⟩, done σ' H' w⟩
/-- a while: what holds ahead of each turn, with a number that falls -/
theorem f_while {c : TT} (W : Nat → L2.St → Hp → Prop) (m : Nat) (h0 : W m σ H)
    (turn : ∀ m σ' H', W m σ' H' → c σ' H' fun b H1 => if b = true then tb { nx := fun σ2 H2 => ∃ m', m' < m ∧ W m' σ2 H2, ct := fun σ2 H2 => ∃ m', m' < m ∧ W m' σ2 H2, bk := D.nx, rt := D.rt } σ' H1 else D.nx σ' H1) : whileW c tb D σ H := ⟨W, ⟨m, h0⟩, turn⟩
end
theorem same_mut {H H' : Hp} {p : Addr} {o : HO} (e : Same H H') (h : H p = none) : Same H (upd H' p o) := fun a u ha => by
  rw [upd_ne (ne_of_none ha h)]
  exact e a u ha

/-! ### comprehensions -/
section
variable {K : PySem.W.Frag} {σ : L2.St} {H : Hp} {tt : TT} {te : TE} {Q : VK} {a b d : Addr} {xs ys : List V} {j l : Nat}
theorem l_rng {lo : Int} {n : Nat} (W : Nat → Hp → Prop) (h0 : W 0 H)
    (turn : ∀ i H', i < n → W i H' → tt (σ.set j (some (.int (lo + (i : Nat))))) H' fun b H3 => if b = true then te (σ.set j (some (.int (lo + (i : Nat))))) H3 fun y H4 => ∃ acc, H4 d = some (.lst acc) ∧ acc.length < sizeLine ∧ W (i + 1) (upd H4 d (.lst (acc ++ [y]))) else W (i + 1) H3)
    (done : ∀ H', W n H' → Q (.ref d) H') : lcW K (.rng lo 1 n) (.name j) tt te σ d Q H := by
  refine ⟨W, h0, ?_, fun H' w => ⟨trivial, done H' w⟩⟩
  intro i H' hi w
  refine ⟨trivial, ?_⟩
  show tt (σ.set j (some (.int (lo + (i : Nat) * 1)))) H' _
  have e : lo + (i : Nat) * 1 = lo + (i : Nat) := by rw [Int.mul_one]
  rw [e]
  exact turn i H' hi w
theorem l_lst (W : Nat → Hp → Prop) (h0 : W 0 H) (ok : ∀ i H', W i H' → H' a = some (.lst xs))
    (turn : ∀ i H' x, xs[i]? = some x → W i H' → tt (σ.set j (some x)) H' fun b H3 => if b = true then te (σ.set j (some x)) H3 fun y H4 => ∃ acc, H4 d = some (.lst acc) ∧ acc.length < sizeLine ∧ W (i + 1) (upd H4 d (.lst (acc ++ [y]))) else W (i + 1) H3)
    (done : ∀ H', W xs.length H' → Q (.ref d) H') : lcW K (.lst a xs) (.name j) tt te σ d Q H := by
  refine ⟨W, h0, ?_, fun H' w => ⟨.inl (.inl (ok _ H' w)), done H' w⟩⟩
  intro i H' hi w
  exact ⟨.inl (.inl (ok i H' w)), xs[i]'hi, List.getElem?_eq_getElem hi, turn i H' _ (List.getElem?_eq_getElem hi) w⟩
theorem l_enm {l2 : Nat} (W : Nat → Hp → Prop) (h0 : W 0 H) (ok : ∀ i H', W i H' → H' a = some (.lst xs))
    (turn : ∀ i H' x, xs[i]? = some x → W i H' → ∀ H1, Same H' H1 → tt ((σ.set j (some (.int (i : Nat)))).set l (some x)) H1 fun b H3 => if b = true then te ((σ.set j (some (.int (i : Nat)))).set l (some x)) H3 fun y H4 => ∃ acc, H4 d = some (.lst acc) ∧ acc.length < sizeLine ∧ W (i + 1) (upd H4 d (.lst (acc ++ [y]))) else W (i + 1) H3)
    (done : ∀ H', W xs.length H' → Q (.ref d) H') : lcW K (.enm a xs) (.tup [j, l]) tt te σ d Q H := by
  refine ⟨W, h0, ?_, fun H' w => ⟨.inl (.inl (ok _ H' w)), done H' w⟩⟩
  intro i H' hi w
  exact ⟨.inl (.inl (ok i H' w)), xs[i]'hi, List.getElem?_eq_getElem hi, fun H1 sm => turn i H' _ (List.getElem?_eq_getElem hi) w H1 sm⟩
theorem l_zip (W : Nat → Hp → Prop) (h0 : W 0 H) (ok : ∀ i H', W i H' → H' a = some (.lst xs) ∧ H' b = some (.lst ys))
    (turn : ∀ i H' x y, xs[i]? = some x → ys[i]? = some y → W i H' → ∀ H1, Same H' H1 → tt ((σ.set j (some x)).set l (some y)) H1 fun b H3 => if b = true then te ((σ.set j (some x)).set l (some y)) H3 fun y H4 => ∃ acc, H4 d = some (.lst acc) ∧ acc.length < sizeLine ∧ W (i + 1) (upd H4 d (.lst (acc ++ [y]))) else W (i + 1) H3)
    (done : ∀ H', W (min xs.length ys.length) H' → Q (.ref d) H') : lcW K (.zip a b xs ys) (.tup [j, l]) tt te σ d Q H := by
  refine ⟨W, h0, ?_, ?_⟩
  · intro i H' hi w
    have h1 : i < xs.length := Nat.lt_of_lt_of_le hi (Nat.min_le_left _ _)
    have h2 : i < ys.length := Nat.lt_of_lt_of_le hi (Nat.min_le_right _ _)
    obtain ⟨o1, o2⟩ := ok i H' w
    exact ⟨⟨.inl (.inl o1), .inl (.inl o2)⟩, xs[i]'h1, ys[i]'h2, List.getElem?_eq_getElem h1, List.getElem?_eq_getElem h2, fun H1 sm => turn i H' _ _ (List.getElem?_eq_getElem h1) (List.getElem?_eq_getElem h2) w H1 sm⟩
  · intro H' w
    obtain ⟨o1, o2⟩ := ok _ H' w
    exact ⟨⟨.inl (.inl o1), .inl (.inl o2)⟩, done H' w⟩
end

/-! ### products -/
theorem cmul_of {i j : Int} (hi : -1267650600228229401496703205376 < i ∧ i < 1267650600228229401496703205376) (hj : -1267650600228229401496703205376 < j ∧ j < 1267650600228229401496703205376) : CMulW i j := by
  refine wide_mul (a := 100) (b := 100) ?_ ?_ (by omega) (by omega) (by omega)
  · have e : (2 : Nat) ^ 100 = 1267650600228229401496703205376 := by decide +kernel
    omega
  · have e : (2 : Nat) ^ 100 = 1267650600228229401496703205376 := by decide +kernel
    omega
theorem cdiv_of {i j : Int} (hj : 0 < j ∧ j < 1267650600228229401496703205376) : CDivW i j := by
  refine wide_div (b := 100) hj.1 ?_ (by omega) (by omega)
  have e : (2 : Nat) ^ 100 = 1267650600228229401496703205376 := by decide +kernel
  omega
theorem mul_bd {a b A B : Int} (h0 : 0 ≤ a) (h1 : a ≤ A) (h2 : 0 ≤ b) (h3 : b ≤ B) : 0 ≤ a * b ∧ a * b ≤ A * B :=
  ⟨Int.mul_nonneg h0 h2, Int.mul_le_mul h1 h3 h2 (by omega)⟩
end VC

/-! Data on the heap: what a repr and a comparison need. -/
namespace VC
open PySem PySem.Spec PyProof.Rows L2

mutual
/-- data that is shown briefly -/
def okD : PyData → Bool
  | .none | .bool _ => true
  | .int i => decide (i.natAbs < 10000000000000000000000000000000000000000)
  | .str x => PyData.strOk x
  | .list xs | .tuple xs => okAll xs
  | .dict _ => false
def okAll : List PyData → Bool
  | [] => true
  | x :: xs => okD x && okAll xs
end
theorem shown_int_len {i : Int} (h : i.natAbs < 10000000000000000000000000000000000000000) : (PyData.shown (.int i)).length ≤ 41 := by
  have e := int_text_length_le10 (k := 40) (by decide) (show i.natAbs < 10 ^ 40 by
    have : (10 : Nat) ^ 40 = 10000000000000000000000000000000000000000 := by decide +kernel
    omega)
  show (Str.ofString (toString i)).length ≤ 41
  rw [PySem.ofString_length]; exact e
theorem log_big {i : Int} (h : i.natAbs < 10000000000000000000000000000000000000000) : i.natAbs.log2 < 133 := by
  by_cases h0 : i.natAbs = 0
  · rw [h0]; decide
  · exact (Nat.log2_lt h0).mpr (by have : (2 : Nat) ^ 133 = 10889035741470030830827987437816582766592 := by decide +kernel
                                   omega)
theorem log_int {i : Int} (h : 0 ≤ i ∧ i < 1000000000000) : i.natAbs.log2 < 40 := by
  by_cases h0 : i.natAbs = 0
  · rw [h0]; decide
  · exact (Nat.log2_lt h0).mpr (by have : (2 : Nat) ^ 40 = 1099511627776 := by decide +kernel
                                   omega)
mutual
theorem okD_all : ∀ d : PyData, okD d = true → d.showable = true ∧ d.canLay0 = true ∧ d.intsShort 41 = true
  | .none, _ => ⟨rfl, rfl, rfl⟩
  | .bool _, _ => ⟨rfl, rfl, rfl⟩
  | .int i, h => by
    have h' : i.natAbs < 10000000000000000000000000000000000000000 := by
      rw [okD] at h
      exact of_decide_eq_true h
    refine ⟨?_, rfl, ?_⟩
    · rw [PyData.showable]; exact decide_eq_true (Nat.lt_trans (log_big h') (by decide))
    · rw [PyData.intsShort]; exact decide_eq_true (shown_int_len h')
  | .str x, h => by
    have h' : PyData.strOk x = true := by simpa [okD] using h
    exact ⟨rfl, by rw [PyData.canLay0]; exact h', rfl⟩
  | .list xs, h => by
    have := okAll_all xs (by simpa [okD] using h)
    exact ⟨by rw [PyData.showable]; exact this.1, by rw [PyData.canLay0]; exact this.2.1, by rw [PyData.intsShort]; exact this.2.2⟩
  | .tuple xs, h => by
    have := okAll_all xs (by simpa [okD] using h)
    exact ⟨by rw [PyData.showable]; exact this.1, by rw [PyData.canLay0]; exact this.2.1, by rw [PyData.intsShort]; exact this.2.2⟩
  | .dict _, h => by simp [okD] at h
theorem okAll_all : ∀ xs : List PyData, okAll xs = true → PyData.showableAll xs = true ∧ PyData.canLayAll0 xs = true ∧ PyData.intsShortAll 41 xs = true
  | [], _ => ⟨rfl, rfl, rfl⟩
  | x :: xs, h => by
    have h' : okD x = true ∧ okAll xs = true := by simpa [okAll] using h
    have h1 := okD_all x h'.1
    have h2 := okAll_all xs h'.2
    refine ⟨?_, ?_, ?_⟩
    · rw [PyData.showableAll, h1.1, h2.1]; rfl
    · rw [PyData.canLayAll0, h1.2.1, h2.2.1]; rfl
    · rw [PyData.intsShortAll, h1.2.2, h2.2.2]; rfl
end
/-- data of n plies, of weight w -/
structure DOk (d : PyData) (n w : Nat) : Prop where
  ok : okD d = true
  dp : d.depth ≤ n
  wt : d.weight ≤ w
theorem DOk.mono {d : PyData} {n w m u : Nat} (h : DOk d n w) (hn : n ≤ m) (hw : w ≤ u) : DOk d m u := ⟨h.ok, Nat.le_trans h.dp hn, Nat.le_trans h.wt hw⟩
theorem DOk.eqv {d : PyData} {n w : Nat} (h : DOk d n w) : PyData.eqv d d = true := SeqAt.eqv_refl d (okD_all d h.ok).2.1
theorem DOk.shaped {d : PyData} {n w : Nat} (h : DOk d n w) (hn : n ≤ 60) : SeqAt.shaped d = true := by
  unfold SeqAt.shaped
  rw [(okD_all d h.ok).2.1, decide_eq_true (by have := h.dp; omega)]; rfl
theorem DOk.repr {d : PyData} {n w : Nat} (h : DOk d n w) (hn : n ≤ 60) (hw : w ≤ 300000) : d.showable = true ∧ d.hasDict = false ∧ d.depth ≤ 60 ∧ d.shown.length ≤ sizeLine := by
  have a := okD_all d h.ok
  refine ⟨a.1, PyData.hasDict_of_canLay d a.2.1, Nat.le_trans h.dp hn, ?_⟩
  have h2 := PyData.shown_le 41 (by decide) d (PyData.leavesShort_of_canLay0 41 d a.2.1 a.2.2)
  have h3 := h.wt
  rw [sizeLine_eq]
  omega
theorem b_repr {K : PySem.W.Frag} {H : Hp} {Q : VK} {a : Addr} {d : PyData} {n w : Nat} (h : Dp K H (.ref a) d) (o : DOk d n w) (hn : n ≤ 60) (hw : w ≤ 300000) (q : Q (.str d.shown) H) : bltW K "repr" [.ref a] H Q := by
  obtain ⟨h1, h2, h3, h4⟩ := o.repr hn hw
  exact ⟨d, h, h1, h2, h3, h4, q⟩

/-! lists of numbers -/
def iD (i : Int) : PyData := .int i
def dN (ns : List Nat) : PyData := .list (ns.map fun (n : Nat) => .int (n : Int))
theorem dpAll_nl {K : PySem.W.Frag} {H : Hp} : ∀ ns : List Nat, DpAll K H (nl ns) (ns.map fun (n : Nat) => .int (n : Int))
  | [] => DpAll.nil
  | n :: ns => DpAll.cons (Dp.int _) (dpAll_nl ns)
theorem dp_nl {K : PySem.W.Frag} {H : Hp} {a : Addr} {ns : List Nat} (h : H a = some (.lst (nl ns))) : Dp K H (.ref a) (dN ns) := Dp.lst (.inl (.inl h)) (dpAll_nl ns)
theorem dOk_int {i : Int} (h : 0 ≤ i ∧ i < 1000000000000) : DOk (.int i) 0 41 := by
  refine ⟨by rw [okD]; exact decide_eq_true (by omega), by rw [PyData.depth]; exact Nat.le_refl _, ?_⟩
  rw [PyData.weight]
  have := log_int h
  split <;> omega
theorem dOk_big {i : Int} (h : i.natAbs < 10000000000000000000000000000000000000000) : DOk (.int i) 0 134 := by
  refine ⟨by rw [okD]; exact decide_eq_true h, by rw [PyData.depth]; exact Nat.le_refl _, ?_⟩
  rw [PyData.weight]
  have := log_big h
  split <;> omega
/-- data side by side -/
structure DsOk (ds : List PyData) (n w : Nat) : Prop where
  ok : okAll ds = true
  dp : PyData.depthAll ds ≤ n
  wt : PyData.weightAll ds ≤ w
theorem DsOk.nil {n w : Nat} : DsOk [] n w := ⟨rfl, Nat.zero_le _, Nat.zero_le _⟩
theorem DsOk.cons {d : PyData} {ds : List PyData} {n w u : Nat} (h : DOk d n w) (hs : DsOk ds n u) : DsOk (d :: ds) n (w + 1 + u) := by
  refine ⟨?_, ?_, ?_⟩
  · rw [okAll, h.ok, hs.ok]; rfl
  · rw [PyData.depthAll]; have := h.dp; have := hs.dp; omega
  · rw [PyData.weightAll]; have := h.wt; have := hs.wt; omega
theorem DsOk.list {ds : List PyData} {n w : Nat} (h : DsOk ds n w) : DOk (.list ds) (n + 1) w := ⟨by rw [okD]; exact h.ok, by rw [PyData.depth]; have := h.dp; omega, by rw [PyData.weight]; exact h.wt⟩
theorem DsOk.tuple {ds : List PyData} {n w : Nat} (h : DsOk ds n w) : DOk (.tuple ds) (n + 1) w := ⟨by rw [okD]; exact h.ok, by rw [PyData.depth]; have := h.dp; omega, by rw [PyData.weight]; exact h.wt⟩
theorem DsOk.of_all {n w : Nat} : ∀ {ds : List PyData}, (∀ d, d ∈ ds → DOk d n w) → DsOk ds n ((w + 1) * ds.length)
  | [], _ => DsOk.nil
  | d :: ds, h => by
    have e : (w + 1) * (d :: ds).length = w + 1 + (w + 1) * ds.length := by rw [List.length_cons, Nat.mul_succ]; omega
    rw [e]
    exact DsOk.cons (h d (by simp)) (DsOk.of_all fun x hx => h x (by simp [hx]))
theorem dOk_dN {ns : List Nat} (h : ∀ n, n ∈ ns → n < 1000000000000) : DOk (dN ns) 1 (42 * ns.length) := by
  have := (DsOk.of_all (n := 0) (w := 41) (ds := ns.map fun (n : Nat) => PyData.int (n : Int)) (fun d hd => by
    obtain ⟨n, hn, rfl⟩ := List.mem_map.mp hd
    have := h n hn
    exact dOk_int (by omega))).list
  rw [List.length_map] at this
  exact this
/-! whole numbers of any sign -/
def dI (ns : List Int) : PyData := .list (ns.map .int)
theorem dpAll_il {K : PySem.W.Frag} {H : Hp} : ∀ ns : List Int, DpAll K H (il ns) (ns.map .int)
  | [] => DpAll.nil
  | n :: ns => DpAll.cons (Dp.int _) (dpAll_il ns)
theorem dp_il {K : PySem.W.Frag} {H : Hp} {a : Addr} {ns : List Int} (h : H a = some (.lst (il ns))) : Dp K H (.ref a) (dI ns) := Dp.lst (.inl (.inl h)) (dpAll_il ns)
theorem dOk_dI {ns : List Int} (h : ∀ n, n ∈ ns → n.natAbs < 10000000000000000000000000000000000000000) : DOk (dI ns) 1 (135 * ns.length) := by
  have := (DsOk.of_all (n := 0) (w := 134) (ds := ns.map PyData.int) (fun d hd => by
    obtain ⟨n, hn, rfl⟩ := List.mem_map.mp hd
    exact dOk_big (h n hn))).list
  rw [List.length_map] at this
  exact this
theorem dOk_dIb {ns : List Int} {B : Int} (h : ∀ i, i < ns.length → -B ≤ ns.getD i 0 ∧ ns.getD i 0 ≤ B) (hB : B < 10000000000000000000000000000000000000000) : DOk (dI ns) 1 (135 * ns.length) := by
  refine dOk_dI fun n hn => ?_
  obtain ⟨i, hi, e⟩ := List.getElem_of_mem hn
  have := h i hi
  rw [List.getD_eq_getElem?_getD, List.getElem?_eq_getElem hi, Option.getD_some, e] at this
  omega
theorem dp_l {K : PySem.W.Frag} {H : Hp} {a : Addr} {xs : List V} {ds : List PyData} (h : H a = some (.lst xs)) (hs : DpAll K H xs ds) : Dp K H (.ref a) (.list ds) := Dp.lst (.inl (.inl h)) hs
theorem dp_t {K : PySem.W.Frag} {H : Hp} {a : Addr} {xs : List V} {ds : List PyData} (h : H a = some (.tup xs)) (hs : DpAll K H xs ds) : Dp K H (.ref a) (.tuple ds) := Dp.tup (.inl (.inl h)) hs
theorem dp2 {K : PySem.W.Frag} {H : Hp} {x y : V} {d e : PyData} (h : Dp K H x d) (g : Dp K H y e) : DpAll K H [x, y] [d, e] := DpAll.cons h (DpAll.cons g DpAll.nil)
theorem c_eqR {K : PySem.W.Frag} {H : Hp} {Q : VK} {a b : Addr} {d e : PyData} {n m w u : Nat} (h : Dp K H (.ref a) d) (g : Dp K H (.ref b) e) (o : DOk d n w) (p : DOk e m u) (hn : n ≤ 60) (hm : m ≤ 60) (q : Q (.bl (PyData.eqv d e)) H) : opCmp K .Eq (.ref a) (.ref b) H Q := by
  show ∃ d e, Dp K H (.ref a) d ∧ Dp K H (.ref b) e ∧ _ ∧ _ ∧ Q (.bl (false ^^ PyData.eqv d e)) H
  exact ⟨d, e, h, g, o.shaped hn, p.shaped hm, by rw [Bool.false_xor]; exact q⟩
theorem c_neR {K : PySem.W.Frag} {H : Hp} {Q : VK} {a b : Addr} {d e : PyData} {n m w u : Nat} (h : Dp K H (.ref a) d) (g : Dp K H (.ref b) e) (o : DOk d n w) (p : DOk e m u) (hn : n ≤ 60) (hm : m ≤ 60) (q : Q (.bl (!PyData.eqv d e)) H) : opCmp K .NotEq (.ref a) (.ref b) H Q := by
  show ∃ d e, Dp K H (.ref a) d ∧ Dp K H (.ref b) e ∧ _ ∧ _ ∧ Q (.bl (true ^^ PyData.eqv d e)) H
  exact ⟨d, e, h, g, o.shaped hn, p.shaped hm, by rw [Bool.true_xor]; exact q⟩
theorem eqv_dN (a b : List Nat) : PyData.eqv (dN a) (dN b) = decide (a = b) := by
  unfold dN
  rw [PyData.eqv]
  induction a generalizing b with
  | nil => cases b <;> simp [PyData.eqvAll]
  | cons x xs ih => cases b with
    | nil => simp [PyData.eqvAll]
    | cons y ys =>
      rw [List.map_cons, List.map_cons, PyData.eqvAll, ih, PyData.eqv]
      by_cases h : x = y
      · subst h; simp
      · have : ((x : Int) == (y : Int)) = false := by simp; omega
        simp [this, h]

theorem eqv_dI (a b : List Int) : PyData.eqv (dI a) (dI b) = decide (a = b) := by
  unfold dI
  rw [PyData.eqv]
  induction a generalizing b with
  | nil => cases b <;> simp [PyData.eqvAll]
  | cons x xs ih => cases b with
    | nil => simp [PyData.eqvAll]
    | cons y ys =>
      rw [List.map_cons, List.map_cons, PyData.eqvAll, ih, PyData.eqv]
      by_cases h : x = y
      · subst h; simp
      · have : (x == y) = false := by simp [h]
        simp [this, h]
/-! more rules -/
section
variable {c : Cn} {E : XK} {σ : L2.St} {H H' : Hp} {Q : VK} {D : Ends} {i j : Int} {v x y : V}
theorem o_rep {a : Addr} {xs : List V} {k : Int} (h : H a = some (.lst xs)) (hk : 0 ≤ k ∧ k ≤ 1000) (hx : xs.length ≤ 100) (q : alloc H (.lst (List.replicate k.toNat xs).flatten) Q) : opBin .Mult (.ref a) (.int k) H Q := by
  refine ⟨xs, h, by omega, by omega, ?_, q⟩
  refine fit ?_

  exact Nat.le_trans (Nat.mul_le_mul hx (show k.toNat ≤ 1000 by omega)) (by decide)
theorem m_pop {K : PySem.W.Frag} {l : Addr} {xs : List V} (hl : H l = some (.lst (xs ++ [y]))) (q : Q y (upd H l (.lst xs))) : mthW K "pop" (.ref l) [] H Q := by
  refine ⟨xs ++ [y], y, hl, by simp, ?_⟩
  rw [List.dropLast_concat]
  exact q
theorem e_rev {a : Ex} (q : wpE c E a σ H fun x H1 => match x with
    | .ref p => onL c.K H1 p fun xs => alloc H1 (.lst xs.reverse) Q
    | _ => False) : wpE c E (.rev a) σ H Q := q
theorem e_lrg {es : Exs} (q : wpEs c E es σ H fun vs H1 => match vs with
    | [.int j] => RgOk 0 j ∧ alloc H1 (.lst (rgV 0 j)) Q
    | [.int i, .int j] => RgOk i j ∧ alloc H1 (.lst (rgV i j)) Q
    | _ => False) : wpE c E (.lrg es) σ H Q := q
theorem e_sl0 {a hi : Ex} (q : wpE c E a σ H fun x H1 => wpE c E hi σ H1 fun y H2 => match y with
    | .int j => slW c.K x none (some j) H2 Q
    | _ => False) : wpE c E (.sl0 a hi) σ H Q := q
end
end VC

/-! Comprehensions that change nothing, rows of rows. -/
namespace VC
open PySem PySem.Spec PyProof.Rows L2

structure RowsAt (H : Hp) (a : Addr) (as : List Addr) (xss : List (List V)) : Prop where
  top : H a = some (.lst (as.map V.ref))
  len : as.length = xss.length
  row : ∀ (i : Nat) (p : Addr) (xs : List V), as[i]? = some p → xss[i]? = some xs → H p = some (.lst xs)
  nd : (a :: as).Nodup
theorem RowsAt.same {H H1 : Hp} {a : Addr} {as : List Addr} {xss : List (List V)} (h : RowsAt H a as xss) (s : Same H H1) : RowsAt H1 a as xss :=
  ⟨s _ _ h.top, h.len, fun i p xs h1 h2 => s _ _ (h.row i p xs h1 h2), h.nd⟩
theorem RowsAt.nil {H : Hp} {a : Addr} (h : H a = some (.lst [])) : RowsAt H a [] [] := ⟨h, rfl, fun i p xs h1 => by simp at h1, by simp⟩
theorem RowsAt.mem {H : Hp} {a : Addr} {as : List Addr} {xss : List (List V)} (h : RowsAt H a as xss) {p : Addr} (hp : p ∈ as) : ∃ xs, H p = some (.lst xs) := by
  obtain ⟨i, hi, e⟩ := List.getElem_of_mem hp
  have h2 : i < xss.length := by have := h.len; omega
  exact ⟨_, h.row i p _ (by rw [List.getElem?_eq_getElem hi, e]) (List.getElem?_eq_getElem h2)⟩
theorem RowsAt.out {H : Hp} {a : Addr} {as : List Addr} {xss : List (List V)} (h : RowsAt H a as xss) {p : Addr} (hp : H p = none) : p ∉ a :: as := by
  intro hm
  rcases List.mem_cons.mp hm with e | e
  · rw [e, h.top] at hp; cases hp
  · obtain ⟨xs, e'⟩ := h.mem e
    rw [e'] at hp; cases hp
/-- a row put behind the others -/
theorem RowsAt.snoc {H : Hp} {a p : Addr} {as : List Addr} {xss : List (List V)} {xs : List V} (h : RowsAt H a as xss) (hp : p ∉ a :: as) (e : H p = some (.lst xs)) : RowsAt (upd H a (.lst (as.map V.ref ++ [.ref p]))) a (as ++ [p]) (xss ++ [xs]) := by
  have hpa : p ≠ a := fun z => hp (by rw [z]; simp)
  refine ⟨?_, by simp [h.len], ?_, ?_⟩
  · rw [upd_same]; simp
  · intro i q ys h1 h2
    rw [List.getElem?_append] at h1 h2
    by_cases hi : i < as.length
    · have hi2 : i < xss.length := by have := h.len; omega
      rw [if_pos hi] at h1
      rw [if_pos hi2] at h2
      have hqa : q ≠ a := fun z => by
        have := (List.nodup_cons.mp h.nd).1
        exact this (by rw [← z]; exact List.mem_of_getElem? h1)
      rw [upd_ne hqa]
      exact h.row i q ys h1 h2
    · have hi2 : ¬ i < xss.length := by have := h.len; omega
      rw [if_neg hi] at h1
      rw [if_neg hi2] at h2
      have l := h.len
      have e1 : i - as.length = 0 := by
        have := (List.getElem?_eq_some_iff.mp h1).1
        simpa using this
      have e2 : i - xss.length = 0 := by omega
      rw [e1] at h1
      rw [e2] at h2
      simp at h1 h2
      rw [← h1, ← h2, upd_ne hpa]
      exact e
  · have hn := h.nd
    rw [show a :: (as ++ [p]) = (a :: as) ++ [p] from rfl]
    refine List.nodup_append.mpr ⟨hn, by simp, ?_⟩
    intro x hx y hy
    rw [List.mem_singleton.mp hy]
    intro z
    exact hp (z ▸ hx)
theorem RowsAt.get {H : Hp} {a : Addr} {as : List Addr} {xss : List (List V)} (h : RowsAt H a as xss) {i : Nat} (hi : i < xss.length) : ∃ p, as[i]? = some p ∧ p ∈ as ∧ H p = some (.lst (xss[i]'hi)) := by
  have h1 : i < as.length := by have := h.len; omega
  exact ⟨as[i], List.getElem?_eq_getElem h1, List.getElem_mem h1, h.row i _ _ (List.getElem?_eq_getElem h1) (List.getElem?_eq_getElem hi)⟩
theorem RowsAt.at_ {H : Hp} {a : Addr} {as : List Addr} {xss : List (List V)} (h : RowsAt H a as xss) {i : Nat} {x : V} (e : (as.map V.ref)[i]? = some x) : ∃ p, ∃ hi : i < xss.length, x = .ref p ∧ as[i]? = some p ∧ p ∈ as ∧ H p = some (.lst (xss[i]'hi)) := by
  have hi : i < xss.length := by
    have := (List.getElem?_eq_some_iff.mp e).1
    have l := h.len
    rw [List.length_map] at this
    omega
  obtain ⟨p, h1, h2, h3⟩ := h.get hi
  rw [List.getElem?_map, h1] at e
  exact ⟨p, hi, (Option.some.inj e).symm, h1, h2, h3⟩
theorem dpAll_of {K : PySem.W.Frag} {H : Hp} : ∀ {vs : List V} {ds : List PyData}, vs.length = ds.length → (∀ (i : Nat) (v : V) (d : PyData), vs[i]? = some v → ds[i]? = some d → Dp K H v d) → DpAll K H vs ds
  | [], [], _, _ => DpAll.nil
  | [], _ :: _, h, _ => by cases h
  | _ :: _, [], h, _ => by cases h
  | v :: vs, d :: ds, h, hh => DpAll.cons (hh 0 v d rfl rfl) (dpAll_of (by simpa using h) fun i v d h1 h2 => hh (i + 1) v d h1 h2)
def dNN (nss : List (List Nat)) : PyData := .list (nss.map dN)
theorem RowsAt.dp {K : PySem.W.Frag} {H : Hp} {a : Addr} {as : List Addr} {xss : List (List V)} {ds : List PyData} (h : RowsAt H a as xss) (hl : xss.length = ds.length) (hh : ∀ (i : Nat) (xs : List V) (d : PyData), xss[i]? = some xs → ds[i]? = some d → ∃ es, d = PyData.list es ∧ DpAll K H xs es) : Dp K H (.ref a) (.list ds) := by
  refine dp_l h.top (dpAll_of (by rw [List.length_map, h.len, hl]) ?_)
  intro i v d h1 h2
  obtain ⟨p, hi, rfl, h3, _, h4⟩ := h.at_ h1
  obtain ⟨es, rfl, h5⟩ := hh i _ d (List.getElem?_eq_getElem hi) h2
  exact dp_l h4 h5
theorem RowsAt.dpN {K : PySem.W.Frag} {H : Hp} {a : Addr} {as : List Addr} {nss : List (List Nat)} (h : RowsAt H a as (nss.map nl)) : Dp K H (.ref a) (dNN nss) := by
  refine h.dp (by simp) ?_
  intro i xs d h1 h2
  rw [List.getElem?_map] at h1 h2
  cases e : nss[i]? with
  | none => rw [e] at h1; cases h1
  | some ns =>
    rw [e] at h1 h2
    cases h1; cases h2
    exact ⟨_, rfl, dpAll_nl ns⟩
theorem dOk_dNN {nss : List (List Nat)} {m : Nat} (h : ∀ ns, ns ∈ nss → ns.length ≤ m ∧ ∀ n, n ∈ ns → n < 1000000000000) : DOk (dNN nss) 2 ((42 * m + 1) * nss.length) := by
  have := (DsOk.of_all (n := 1) (w := 42 * m) (ds := nss.map dN) (fun d hd => by
    obtain ⟨ns, hn, rfl⟩ := List.mem_map.mp hd
    exact (dOk_dN (h ns hn).2).mono (Nat.le_refl _) (by have := (h ns hn).1; omega))).list
  rw [List.length_map] at this
  exact this
theorem eqvAll_map {α : Type} [DecidableEq α] (f : α → PyData) (hf : ∀ a b, PyData.eqv (f a) (f b) = decide (a = b)) : ∀ xs ys : List α, PyData.eqvAll (xs.map f) (ys.map f) = decide (xs = ys)
  | [], [] => by simp [PyData.eqvAll]
  | [], _ :: _ => by simp [PyData.eqvAll]
  | _ :: _, [] => by simp [PyData.eqvAll]
  | x :: xs, y :: ys => by
    rw [List.map_cons, List.map_cons, PyData.eqvAll, hf, eqvAll_map f hf xs ys]
    by_cases h : x = y <;> by_cases g : xs = ys <;> simp [h, g]
theorem eqv_dNN (a b : List (List Nat)) : PyData.eqv (dNN a) (dNN b) = decide (a = b) := by
  unfold dNN
  rw [PyData.eqv]
  exact eqvAll_map dN eqv_dN a b

theorem RowsAt.set {H : Hp} {a p : Addr} {as : List Addr} {xss : List (List V)} {ys : List V} {i : Nat} (h : RowsAt H a as xss) (hp : as[i]? = some p) : RowsAt (upd H p (.lst ys)) a as (xss.set i ys) := by
  have hn := List.nodup_cons.mp h.nd
  have hpm := List.mem_of_getElem? hp
  have hap : a ≠ p := fun e => hn.1 (e ▸ hpm)
  refine ⟨by rw [upd_ne hap]; exact h.top, by rw [List.length_set]; exact h.len, ?_, h.nd⟩
  intro j q xs h1 h2
  by_cases hij : i = j
  · subst hij
    rw [hp] at h1
    cases h1
    rw [List.getElem?_set] at h2
    have hi : i < xss.length := by
      have := (List.getElem?_eq_some_iff.mp hp).1
      have l := h.len
      omega
    rw [if_pos rfl, if_pos hi] at h2
    cases h2
    exact upd_same
  · rw [List.getElem?_set, if_neg hij] at h2
    have hqp : q ≠ p := fun e => by
      subst e
      have h3 := (List.getElem?_eq_some_iff.mp hp)
      have h4 := (List.getElem?_eq_some_iff.mp h1)
      obtain ⟨i1, e1⟩ := h3
      obtain ⟨i2, e2⟩ := h4
      have hpw := List.pairwise_iff_getElem.mp hn.2
      rcases Nat.lt_or_gt_of_ne hij with hlt | hlt
      · exact hpw i j i1 i2 hlt (e1.trans e2.symm)
      · exact hpw j i i2 i1 hlt (e2.trans e1.symm)
    rw [upd_ne hqp]
    exact h.row j q xs h1 h2
/-- the first i rows with something behind -/
def mixR (nss : List (List Nat)) (i : Nat) : List (List V) := (List.range nss.length).map fun j => if j < i then nl (nss.getD j []) ++ [V.non] else nl (nss.getD j [])
theorem mixR_zero (nss : List (List Nat)) : mixR nss 0 = nss.map nl := by
  refine List.ext_getElem? fun j => ?_
  unfold mixR
  rw [List.getElem?_map, List.getElem?_map]
  by_cases h : j < nss.length
  · rw [List.getElem?_range h, List.getElem?_eq_getElem h]
    simp [h]
  · rw [List.getElem?_eq_none (by simp; omega), List.getElem?_eq_none (by omega)]; rfl
theorem mixR_all (nss : List (List Nat)) : mixR nss nss.length = nss.map fun ns => nl ns ++ [V.non] := by
  refine List.ext_getElem? fun j => ?_
  unfold mixR
  rw [List.getElem?_map, List.getElem?_map]
  by_cases h : j < nss.length
  · rw [List.getElem?_range h, List.getElem?_eq_getElem h]
    simp [h]
  · rw [List.getElem?_eq_none (by simp; omega), List.getElem?_eq_none (by omega)]; rfl
theorem mixR_set (nss : List (List Nat)) {i : Nat} (hi : i < nss.length) : (mixR nss i).set i (nl (nss.getD i []) ++ [V.non]) = mixR nss (i + 1) := by
  refine List.ext_getElem? fun j => ?_
  unfold mixR
  rw [List.getElem?_set]
  by_cases h : j < nss.length
  · by_cases e : i = j
    · subst e
      rw [if_pos rfl, if_pos (by simp; omega), List.getElem?_map, List.getElem?_range h]
      simp
    · rw [if_neg e, List.getElem?_map, List.getElem?_map, List.getElem?_range h]
      have : (j < i) ↔ (j < i + 1) := by omega
      simp only [Option.map_some, this]
  · have hij : i ≠ j := by omega
    rw [if_neg hij, List.getElem?_eq_none (by simp; omega), List.getElem?_eq_none (by simp; omega)]
theorem none_loop {c : Cn} {E : XK} {K : PySem.W.Frag} {σ : L2.St} {H : Hp} {D : Ends} {j : Nat} {a : Addr} {as : List Addr} {nss : List (List Nat)} (hj : j < σ.length) (hz : ∀ ns, ns ∈ nss → ns.length ≤ 1000) (h : RowsAt H a as (nss.map nl))
    (done : ∀ x H', RowsAt H' a as (nss.map fun ns => nl ns ++ [V.non]) → (∀ q o, q ∉ as → H q = some o → H' q = some o) → D.nx (σ.set j x) H') :
    forW K (.lst a (as.map V.ref)) (.name j) (wpSs c E (.cons (.expr (.mth "append" (.var j) (.cons (.con .none) .nil))) .nil)) D σ H := by
  have la : as.length = nss.length := by have := h.len; simpa using this
  refine f_lst (fun i σ' H' => ∃ x, σ' = σ.set j x ∧ RowsAt H' a as (mixR nss i) ∧ ∀ q o, q ∉ as → H q = some o → H' q = some o) ⟨σ[j], (List.set_getElem_self hj).symm, by rw [mixR_zero]; exact h, fun _ _ _ e => e⟩ ?_ ?_ ?_
  · rintro i σ' H' ⟨x, rfl, h, _⟩
    exact h.top
  · rintro i σ' H' x hix ⟨x1, rfl, h, fr⟩
    obtain ⟨p, hi, rfl, hp, hm, e⟩ := h.at_ hix
    have hi2 : i < nss.length := by simpa [mixR] using hi
    have er : (mixR nss i)[i] = nl (nss.getD i []) := by simp [mixR]
    rw [er] at e
    refine s_cons (s_expr (e_mth (e_var (v := .ref p) (by rw [List.set_set, List.getElem?_set_self hj]) ?_)))
    dsimp only
    simp only [e]
    refine es_cons (e_none (es_nil (m_append e (fit1 ?_) ?_)))
    · rw [nl_length]
      have := hz (nss.getD i []) (by rw [List.getD_eq_getElem?_getD, List.getElem?_eq_getElem hi2, Option.getD_some]; exact List.getElem_mem hi2)
      omega
    · refine s_nil ⟨some (.ref p), by rw [List.set_set], ?_, ?_⟩
      · rw [← mixR_set nss hi2]
        exact h.set hp
      · intro q o hq ho
        rw [upd_ne (show q ≠ p from fun z => hq (by rw [z]; exact hm))]
        exact fr q o hq ho
  · rintro σ' H' ⟨x, rfl, h, fr⟩
    refine done x H' ?_ fr
    rw [List.length_map, la] at h
    rw [← mixR_all]
    exact h

/-! ### comprehensions that change nothing -/
theorem map_range_succ {α : Type} (f : Nat → α) (i : Nat) : (List.range (i + 1)).map f = (List.range i).map f ++ [f i] := by
  rw [List.range_succ, List.map_append]; rfl
section
variable {K : PySem.W.Frag} {c : Cn} {σ : L2.St} {H : Hp} {te : TE} {Q : VK} {a b d : Addr} {xs ys : List V} {j l : Nat}
theorem acc_step {H4 : Hp} {d : Addr} {i n : Nat} {f : Nat → V} {W : Hp → Prop} (hn : n ≤ 10000) (hi : i < n) (hd : H d = none) (s : Same H H4) (h : H4 d = some (.lst ((List.range i).map f)))
    (hW : ∀ H5, Same H H5 → H5 d = some (.lst ((List.range (i + 1)).map f)) → W H5) : ∃ acc, H4 d = some (.lst acc) ∧ acc.length < sizeLine ∧ W (upd H4 d (.lst (acc ++ [f i]))) := by
  refine ⟨_, h, fit1 (by simp; omega), hW _ (same_mut s hd) ?_⟩
  rw [upd_same, map_range_succ]
theorem cl_rng {lo : Int} {n : Nat} (f : Nat → V) (hn : n ≤ 10000) (hd : H d = none)
    (turn : ∀ i H' (P : VK), i < n → Same H H' → (∀ H4, Same H' H4 → P (f i) H4) → te (σ.set j (some (.int (lo + (i : Nat))))) H' P)
    (done : ∀ H', Same H H' → H' d = some (.lst ((List.range n).map f)) → Q (.ref d) H') : lcW K (.rng lo 1 n) (.name j) (wpTs c .no) te σ d Q (upd H d (.lst [])) := by
  refine l_rng (fun i H' => Same H H' ∧ H' d = some (.lst ((List.range i).map f))) ⟨same_new hd, by rw [upd_same]; rfl⟩ ?_ fun H' h => done H' h.1 h.2
  rintro i H' hi ⟨s, h⟩
  refine d_no (if_T ?_)
  refine turn i H' _ hi s fun H4 s4 => acc_step (W := fun H5 => Same H H5 ∧ H5 d = some (.lst ((List.range (i + 1)).map f))) hn hi hd (s.trans s4) (s4 _ _ h) fun H5 s5 h5 => ⟨s5, h5⟩
theorem cl_lst (f : Nat → V) (hn : xs.length ≤ 10000) (hd : H d = none) (ha : H a = some (.lst xs))
    (turn : ∀ i x H' (P : VK), xs[i]? = some x → Same H H' → (∀ H4, Same H' H4 → P (f i) H4) → te (σ.set j (some x)) H' P)
    (done : ∀ H', Same H H' → H' d = some (.lst ((List.range xs.length).map f)) → Q (.ref d) H') : lcW K (.lst a xs) (.name j) (wpTs c .no) te σ d Q (upd H d (.lst [])) := by
  refine l_lst (fun i H' => Same H H' ∧ H' d = some (.lst ((List.range i).map f))) ⟨same_new hd, by rw [upd_same]; rfl⟩ (fun i H' h => h.1 _ _ ha) ?_ fun H' h => done H' h.1 h.2
  rintro i H' x hx ⟨s, h⟩
  have hi := (List.getElem?_eq_some_iff.mp hx).1
  refine d_no (if_T ?_)
  refine turn i x H' _ hx s fun H4 s4 => acc_step (W := fun H5 => Same H H5 ∧ H5 d = some (.lst ((List.range (i + 1)).map f))) hn hi hd (s.trans s4) (s4 _ _ h) fun H5 s5 h5 => ⟨s5, h5⟩
theorem cl_enm (f : Nat → V) (hn : xs.length ≤ 10000) (hd : H d = none) (ha : H a = some (.lst xs))
    (turn : ∀ i x H' (P : VK), xs[i]? = some x → Same H H' → (∀ H4, Same H' H4 → P (f i) H4) → te ((σ.set j (some (.int (i : Nat)))).set l (some x)) H' P)
    (done : ∀ H', Same H H' → H' d = some (.lst ((List.range xs.length).map f)) → Q (.ref d) H') : lcW K (.enm a xs) (.tup [j, l]) (wpTs c .no) te σ d Q (upd H d (.lst [])) := by
  refine l_enm (l2 := 0) (fun i H' => Same H H' ∧ H' d = some (.lst ((List.range i).map f))) ⟨same_new hd, by rw [upd_same]; rfl⟩ (fun i H' h => h.1 _ _ ha) ?_ fun H' h => done H' h.1 h.2
  rintro i H' x hx ⟨s, h⟩ H1 s1
  have hi := (List.getElem?_eq_some_iff.mp hx).1
  refine d_no (if_T ?_)
  refine turn i x H1 _ hx (s.trans s1) fun H4 s4 => acc_step (W := fun H5 => Same H H5 ∧ H5 d = some (.lst ((List.range (i + 1)).map f))) hn hi hd ((s.trans s1).trans s4) (s4 _ _ (s1 _ _ h)) fun H5 s5 h5 => ⟨s5, h5⟩
theorem cl_zip (f : Nat → V) (hn : xs.length ≤ 10000) (hd : H d = none) (ha : H a = some (.lst xs)) (hb : H b = some (.lst ys)) (hl : xs.length = ys.length)
    (turn : ∀ i x y H' (P : VK), xs[i]? = some x → ys[i]? = some y → Same H H' → (∀ H4, Same H' H4 → P (f i) H4) → te ((σ.set j (some x)).set l (some y)) H' P)
    (done : ∀ H', Same H H' → H' d = some (.lst ((List.range xs.length).map f)) → Q (.ref d) H') : lcW K (.zip a b xs ys) (.tup [j, l]) (wpTs c .no) te σ d Q (upd H d (.lst [])) := by
  have em : min xs.length ys.length = xs.length := by omega
  refine l_zip (fun i H' => Same H H' ∧ H' d = some (.lst ((List.range i).map f))) ⟨same_new hd, by rw [upd_same]; rfl⟩ (fun i H' h => ⟨h.1 _ _ ha, h.1 _ _ hb⟩) ?_ fun H' h => done H' h.1 (by rw [em] at h; exact h.2)
  rintro i H' x y hx hy ⟨s, h⟩ H1 s1
  have hi := (List.getElem?_eq_some_iff.mp hx).1
  refine d_no (if_T ?_)
  refine turn i x y H1 _ hx hy (s.trans s1) fun H4 s4 => acc_step (W := fun H5 => Same H H5 ∧ H5 d = some (.lst ((List.range (i + 1)).map f))) hn hi hd ((s.trans s1).trans s4) (s4 _ _ (s1 _ _ h)) fun H5 s5 h5 => ⟨s5, h5⟩
/-- a comprehension of new lists -/
theorem rows_step {H4 : Hp} {d p : Addr} {as : List Addr} {i n : Nat} {g : Nat → List V} {W : Hp → Prop} (hn : n ≤ 10000) (hi : i < n) (hd : H d = none) (s : Same H H4) (h : RowsAt H4 d as ((List.range i).map g)) (hp : p ∉ d :: as) (e : H4 p = some (.lst (g i)))
    (hW : ∀ H5, Same H H5 → RowsAt H5 d (as ++ [p]) ((List.range (i + 1)).map g) → W H5) : ∃ acc, H4 d = some (.lst acc) ∧ acc.length < sizeLine ∧ W (upd H4 d (.lst (acc ++ [.ref p]))) := by
  have l := h.len
  simp at l
  refine ⟨_, h.top, fit1 (by simp; omega), hW _ (same_mut s hd) ?_⟩
  rw [map_range_succ]
  exact h.snoc hp e
theorem cr_rng {lo : Int} {n : Nat} (g : Nat → List V) (hn : n ≤ 10000) (hd : H d = none)
    (turn : ∀ i H' (P : VK), i < n → Same H H' → (∀ p H4, H' p = none → Same H' H4 → H4 p = some (.lst (g i)) → P (.ref p) H4) → te (σ.set j (some (.int (lo + (i : Nat))))) H' P)
    (done : ∀ as H', Same H H' → RowsAt H' d as ((List.range n).map g) → (∀ p, p ∈ as → H p = none) → Q (.ref d) H') : lcW K (.rng lo 1 n) (.name j) (wpTs c .no) te σ d Q (upd H d (.lst [])) := by
  refine l_rng (fun i H' => Same H H' ∧ ∃ as, RowsAt H' d as ((List.range i).map g) ∧ ∀ p, p ∈ as → H p = none) ⟨same_new hd, [], RowsAt.nil upd_same, fun p hp => by cases hp⟩ ?_ fun H' ⟨s, as, h, f⟩ => done as H' s h f
  rintro i H' hi ⟨s, as, h, fr⟩
  refine d_no (if_T ?_)
  refine turn i H' _ hi s fun p H4 hp s4 e => rows_step (W := fun H5 => Same H H5 ∧ ∃ as, RowsAt H5 d as ((List.range (i + 1)).map g) ∧ ∀ p, p ∈ as → H p = none) hn hi hd (s.trans s4) (h.same s4) (h.out hp) e fun H5 s5 h5 => ⟨s5, as ++ [p], h5, fun q hq => by
    rcases List.mem_append.mp hq with hq | hq
    · exact fr q hq
    · rw [List.mem_singleton.mp hq]; exact s.free hp⟩
theorem cr_lst (g : Nat → List V) (hn : xs.length ≤ 10000) (hd : H d = none) (ha : H a = some (.lst xs))
    (turn : ∀ i x H' (P : VK), xs[i]? = some x → Same H H' → (∀ p H4, H' p = none → Same H' H4 → H4 p = some (.lst (g i)) → P (.ref p) H4) → te (σ.set j (some x)) H' P)
    (done : ∀ as H', Same H H' → RowsAt H' d as ((List.range xs.length).map g) → (∀ p, p ∈ as → H p = none) → Q (.ref d) H') : lcW K (.lst a xs) (.name j) (wpTs c .no) te σ d Q (upd H d (.lst [])) := by
  refine l_lst (fun i H' => Same H H' ∧ ∃ as, RowsAt H' d as ((List.range i).map g) ∧ ∀ p, p ∈ as → H p = none) ⟨same_new hd, [], RowsAt.nil upd_same, fun p hp => by cases hp⟩ (fun i H' h => h.1 _ _ ha) ?_ fun H' ⟨s, as, h, f⟩ => done as H' s h f
  rintro i H' x hx ⟨s, as, h, fr⟩
  have hi := (List.getElem?_eq_some_iff.mp hx).1
  refine d_no (if_T ?_)
  refine turn i x H' _ hx s fun p H4 hp s4 e => rows_step (W := fun H5 => Same H H5 ∧ ∃ as, RowsAt H5 d as ((List.range (i + 1)).map g) ∧ ∀ p, p ∈ as → H p = none) hn hi hd (s.trans s4) (h.same s4) (h.out hp) e fun H5 s5 h5 => ⟨s5, as ++ [p], h5, fun q hq => by
    rcases List.mem_append.mp hq with hq | hq
    · exact fr q hq
    · rw [List.mem_singleton.mp hq]; exact s.free hp⟩
/-- a comprehension that keeps some -/
theorem cf_nl {ns : List Nat} {tt : TT} (p : Nat → Bool) (f : Nat → Nat) (hn : ns.length ≤ 10000) (hd : H d = none) (ha : H a = some (.lst (nl ns)))
    (test : ∀ x H' (P : Bool → Hp → Prop), x ∈ ns → Same H H' → (∀ H4, Same H' H4 → P (p x) H4) → tt (σ.set j (some (.int (x : Nat)))) H' P)
    (turn : ∀ x H' (P : VK), x ∈ ns → p x = true → Same H H' → (∀ H4, Same H' H4 → P (.int (f x : Nat)) H4) → te (σ.set j (some (.int (x : Nat)))) H' P)
    (done : ∀ H', Same H H' → H' d = some (.lst (nl ((ns.filter p).map f))) → Q (.ref d) H') : lcW K (.lst a (nl ns)) (.name j) tt te σ d Q (upd H d (.lst [])) := by
  refine l_lst (fun i H' => Same H H' ∧ H' d = some (.lst (nl (((ns.take i).filter p).map f)))) ⟨same_new hd, by rw [upd_same]; simp [nl]⟩ (fun i H' h => h.1 _ _ ha) ?_ fun H' h => done H' h.1 (by
    have := h.2
    rw [nl_length, List.take_length] at this
    exact this)
  rintro i H' x hx ⟨s, h⟩
  have hi : i < ns.length := by have := (List.getElem?_eq_some_iff.mp hx).1; simpa using this
  rw [nl_get hi] at hx
  cases hx
  have em : ns.getD i 0 ∈ ns := by rw [List.getD_eq_getElem?_getD, List.getElem?_eq_getElem hi, Option.getD_some]; exact List.getElem_mem hi
  have et : ns.take (i + 1) = ns.take i ++ [ns.getD i 0] := by rw [List.take_succ_eq_append_getElem hi, List.getD_eq_getElem?_getD, List.getElem?_eq_getElem hi, Option.getD_some]
  refine test _ H' _ em s fun H4 s4 => ?_
  by_cases hp : p (ns.getD i 0) = true
  · rw [if_pos hp]
    refine turn _ H4 _ em hp (s.trans s4) fun H5 s5 => ?_
    refine ⟨_, s5 _ _ (s4 _ _ h), fit1 ?_, same_mut ((s.trans s4).trans s5) hd, ?_⟩
    · rw [nl_length, List.length_map]
      have := List.length_filter_le p (ns.take i)
      rw [List.length_take] at this
      omega
    · rw [upd_same, et, List.filter_append, List.map_append, nl_append]
      generalize ns.getD i 0 = x at hp
      rw [List.filter_cons_of_pos hp]; rfl
  · rw [if_neg hp]
    refine ⟨s.trans s4, ?_⟩
    rw [et, List.filter_append, List.filter_cons_of_neg hp, List.filter_nil, List.append_nil]
    exact s4 _ _ h
end
theorem inV_nl (i : Int) (ns : List Nat) : inV (.int i) (nl ns) = decide (∃ n, n ∈ ns ∧ (n : Int) = i) := by
  unfold inV nl
  rw [List.any_map]
  induction ns with
  | nil => simp
  | cons n ns ih =>
    rw [List.any_cons, ih]
    by_cases h : (n : Int) = i
    · simp [eqV, h]
    · have : ((n : Int) == i) = false := by simp [h]
      simp [eqV, this, h]
theorem inV_nat (i : Nat) (ns : List Nat) : inV (.int (i : Nat)) (nl ns) = decide (i ∈ ns) := by
  rw [inV_nl]
  congr 1
  exact propext ⟨fun ⟨n, h, e⟩ => by have : n = i := by omega
                                     rw [← this]; exact h, fun h => ⟨i, h, rfl⟩⟩
theorem flat_nl (ns : List Nat) : (nl ns).all flatV = true := by
  simp [nl, flatV]
theorem c_inN {K : PySem.W.Frag} {H : Hp} {Q : VK} {p : Addr} {ns : List Nat} {i : Nat} (h : H p = some (.lst (nl ns))) (q : Q (.bl (decide (i ∈ ns))) H) : opCmp K .In (.int (i : Nat)) (.ref p) H Q := by
  show onS K H p _
  rw [onS_l h]
  refine ⟨rfl, flat_nl ns, ?_⟩
  rw [inV_nat]
  exact q
end VC

/-! Plain laws: sums, cells, values. -/
namespace VC
open PySem PySem.Spec PyProof.Rows L2

def sumN : Nat → (Nat → Int) → Int
  | 0, _ => 0
  | n + 1, f => sumN n f + f n
theorem sumN_congr {f g : Nat → Int} : ∀ {n : Nat}, (∀ i, i < n → f i = g i) → sumN n f = sumN n g
  | 0, _ => rfl
  | n + 1, h => by rw [sumN, sumN, sumN_congr fun i hi => h i (by omega), h n (by omega)]
theorem sumN_zero : ∀ (n : Nat), sumN n (fun _ => 0) = 0
  | 0 => rfl
  | n + 1 => by rw [sumN, sumN_zero n]; rfl
theorem sumN_add (f g : Nat → Int) : ∀ (n : Nat), sumN n (fun i => f i + g i) = sumN n f + sumN n g
  | 0 => rfl
  | n + 1 => by rw [sumN, sumN, sumN, sumN_add f g n]; omega
theorem sumN_sub (f g : Nat → Int) : ∀ (n : Nat), sumN n (fun i => f i - g i) = sumN n f - sumN n g
  | 0 => rfl
  | n + 1 => by rw [sumN, sumN, sumN, sumN_sub f g n]; omega
theorem sumN_mul (c : Int) (f : Nat → Int) : ∀ (n : Nat), sumN n (fun i => c * f i) = c * sumN n f
  | 0 => by rw [sumN, sumN, Int.mul_zero]
  | n + 1 => by rw [sumN, sumN, sumN_mul c f n, Int.mul_add]
theorem sumN_comm (f : Nat → Nat → Int) (m : Nat) : ∀ (n : Nat), sumN n (fun i => sumN m fun j => f i j) = sumN m fun j => sumN n fun i => f i j
  | 0 => by
    show (0 : Int) = sumN m fun _ => 0
    rw [sumN_zero]
  | n + 1 => by
    rw [sumN, sumN_comm f m n, ← sumN_add]
    exact sumN_congr fun j _ => rfl
def ind (p : Prop) [Decidable p] : Int := if p then 1 else 0
theorem ind_t {p : Prop} [Decidable p] (h : p) : ind p = 1 := if_pos h
theorem ind_f {p : Prop} [Decidable p] (h : ¬ p) : ind p = 0 := if_neg h
theorem sumN_one {k : Nat} (f : Nat → Int) : ∀ {n : Nat}, k < n → sumN n (fun i => ind (i = k) * f i) = f k
  | 0, h => by omega
  | n + 1, h => by
    rw [sumN]
    by_cases e : n = k
    · subst e
      have z : sumN n (fun i => ind (i = n) * f i) = 0 := by
        rw [← sumN_zero n]
        exact sumN_congr fun i hi => by rw [ind_f (by omega), Int.zero_mul]
      rw [z, ind_t rfl, Int.one_mul]; omega
    · rw [ind_f e, Int.zero_mul, sumN_one f (by omega)]; omega

/-! cells -/
def addAt (cs : List Int) (k : Nat) (x : Int) : List Int := cs.set k (cs.getD k 0 + x)
theorem addAt_length (cs : List Int) (k : Nat) (x : Int) : (addAt cs k x).length = cs.length := by simp [addAt]
theorem addAt_get {cs : List Int} {k : Nat} (x : Int) (hk : k < cs.length) (i : Nat) : (addAt cs k x).getD i 0 = cs.getD i 0 + ind (i = k) * x := by
  unfold addAt
  rw [List.getD_eq_getElem?_getD, List.getElem?_set]
  by_cases h : k = i
  · subst h
    rw [if_pos rfl, if_pos hk, ind_t rfl, Int.one_mul]; rfl
  · rw [if_neg h, ind_f (fun e => h e.symm), Int.zero_mul, Int.add_zero, List.getD_eq_getElem?_getD]
def fillW (cs : List Int) (w : List Nat) (x : Int) : List Int := w.foldl (fun cs p => addAt cs (p - 1) x) cs
theorem fillW_length : ∀ (w : List Nat) (cs : List Int) (x : Int), (fillW cs w x).length = cs.length
  | [], _, _ => rfl
  | p :: w, cs, x => by
    show (fillW (addAt cs (p - 1) x) w x).length = _
    rw [fillW_length w, addAt_length]
theorem fillW_get : ∀ (w : List Nat) (cs : List Int) (x : Int) (i : Nat), w.Nodup → (∀ p, p ∈ w → 1 ≤ p ∧ p ≤ cs.length) → (fillW cs w x).getD i 0 = cs.getD i 0 + ind (i + 1 ∈ w) * x
  | [], cs, x, i, _, _ => by
    rw [ind_f (by simp), Int.zero_mul, Int.add_zero]; rfl
  | p :: w, cs, x, i, hn, hw => by
    have hp := hw p (by simp)
    have hn' := List.nodup_cons.mp hn
    show (fillW (addAt cs (p - 1) x) w x).getD i 0 = _
    rw [fillW_get w _ x i hn'.2 (fun q hq => by rw [addAt_length]; exact hw q (by simp [hq])), addAt_get x (by omega)]
    by_cases e : i = p - 1
    · have e1 : i + 1 = p := by omega
      rw [ind_t e, ind_t (show i + 1 ∈ p :: w by rw [e1]; simp), ind_f (show ¬ i + 1 ∈ w by rw [e1]; exact hn'.1)]
      omega
    · have e1 : ¬ i + 1 = p := by omega
      rw [ind_f e]
      by_cases hm : i + 1 ∈ w
      · rw [ind_t hm, ind_t (show i + 1 ∈ p :: w by simp [hm])]; omega
      · rw [ind_f hm, ind_f (show ¬ i + 1 ∈ p :: w by simp [hm, e1])]; omega
def subW (cs : List Int) (k : Nat) (x : Int) : List Int := cs.set k (cs.getD k 0 - x)
theorem subW_length (cs : List Int) (k : Nat) (x : Int) : (subW cs k x).length = cs.length := by simp [subW]
theorem subW_get {cs : List Int} {k : Nat} (x : Int) (hk : k < cs.length) (i : Nat) : (subW cs k x).getD i 0 = cs.getD i 0 - ind (i = k) * x := by
  have : subW cs k x = addAt cs k (-x) := by unfold subW addAt; rw [Int.sub_eq_add_neg]
  rw [this, addAt_get _ hk, Int.mul_neg, Int.sub_eq_add_neg]
theorem getD_repl (n i : Nat) : (List.replicate n (0 : Int)).getD i 0 = 0 := by
  simp [List.getD_eq_getElem?_getD, List.getElem?_replicate]
  split <;> rfl
theorem getD_out (l : List Int) {i : Nat} (h : l.length ≤ i) : l.getD i 0 = 0 := by
  rw [List.getD_eq_getElem?_getD, List.getElem?_eq_none h]; rfl
theorem list_ext0 {a b : List Int} (hl : a.length = b.length) (h : ∀ i, i < a.length → a.getD i 0 = b.getD i 0) : a = b := by
  refine List.ext_getElem hl fun i h1 h2 => ?_
  have := h i h1
  rw [List.getD_eq_getElem?_getD, List.getD_eq_getElem?_getD, List.getElem?_eq_getElem h1, List.getElem?_eq_getElem h2] at this
  exact this
/-- |.| of a sum -/
theorem sumN_bd {f : Nat → Int} {B : Int} : ∀ (n : Nat), (∀ i, i < n → -B ≤ f i ∧ f i ≤ B) → -(n * B) ≤ sumN n f ∧ sumN n f ≤ n * B
  | 0, _ => by rw [sumN]; simp
  | n + 1, h => by
    have h1 := sumN_bd n fun i hi => h i (by omega)
    have h2 := h n (by omega)
    rw [sumN, show ((n + 1 : Nat) : Int) * B = n * B + B by rw [Int.natCast_add, Int.add_mul]; simp]
    omega
end VC

namespace VC
open PySem PySem.Spec PyProof.Rows L2
def f_is_whole : Fn := ⟨["thing"], ["thing"],
  (.cons (.ret (.and (.isi (.var 0) "int") (.not (.isi (.var 0) "bool"))))
 .nil)⟩
def f_check_down : Fn := ⟨["down"], ["down", "index", "link"],
  (.cons (.ife (.or (.not (.val (.isi (.var 0) "list"))) (.not (.chn .LtE .LtE (.con (.int 1)) (.blt "len" (.cons (.var 0) .nil)) (.glb "MOST_PLACES"))))
  (.cons .never
  .nil)
  .nil)
 (.cons (.forI (.tup [1, 2]) (.enm (.var 0))
  (.cons (.ife (.or (.not (.val (.call "is_whole" (.cons (.var 2) .nil) [] .nil))) (.not (.chn .LtE .LtE (.con (.int 0)) (.var 2) (.var 1))))
   (.cons .never
   .nil)
   .nil)
  .nil))
 .nil))⟩
def f_check_up : Fn := ⟨["up"], ["up", "index", "link"],
  (.cons (.ife (.or (.not (.val (.isi (.var 0) "list"))) (.not (.chn .LtE .LtE (.con (.int 1)) (.blt "len" (.cons (.var 0) .nil)) (.glb "MOST_PLACES"))))
  (.cons .never
  .nil)
  .nil)
 (.cons (.forI (.tup [1, 2]) (.enm (.var 0))
  (.cons (.ife (.or (.not (.val (.call "is_whole" (.cons (.var 2) .nil) [] .nil))) (.not (.chn .LtE .LtE (.bin .Add (.var 1) (.con (.int 2))) (.var 2) (.bin .Add (.blt "len" (.cons (.var 0) .nil)) (.con (.int 1))))))
   (.cons .never
   .nil)
   .nil)
  .nil))
 .nil))⟩
def f_check_place : Fn := ⟨["place", "places"], ["place", "places"],
  (.cons (.ife (.or (.not (.val (.call "is_whole" (.cons (.var 0) .nil) [] .nil))) (.not (.chn .LtE .LtE (.con (.int 1)) (.var 0) (.var 1))))
  (.cons .never
  .nil)
  .nil)
 .nil)⟩
def f_steps_down : Fn := ⟨["down", "place"], ["down", "place", "told"],
  (.cons (.asg 2 (.lst .nil))
 (.cons (.whl (.cmp .Gt (.var 1) (.con (.int 0)))
  (.cons (.expr (.mth "append" (.var 2) (.cons (.var 1) .nil)))
  (.cons (.asg 1 (.idx (.var 0) (.bin .Sub (.var 1) (.con (.int 1)))))
  .nil)))
 (.cons (.ret (.var 2))
 .nil)))⟩
def f_steps_up : Fn := ⟨["up", "place"], ["up", "place", "told"],
  (.cons (.asg 2 (.lst .nil))
 (.cons (.whl (.cmp .LtE (.var 1) (.blt "len" (.cons (.var 0) .nil)))
  (.cons (.expr (.mth "append" (.var 2) (.cons (.var 1) .nil)))
  (.cons (.asg 1 (.idx (.var 0) (.bin .Sub (.var 1) (.con (.int 1)))))
  .nil)))
 (.cons (.ret (.var 2))
 .nil)))⟩
def f_walk_down : Fn := ⟨["down", "place"], ["down", "place"],
  (.cons (.expr (.call "check_down" (.cons (.var 0) .nil) [] .nil))
 (.cons (.expr (.call "check_place" (.cons (.var 1) (.cons (.blt "len" (.cons (.var 0) .nil)) .nil)) [] .nil))
 (.cons (.ret (.call "steps_down" (.cons (.var 0) (.cons (.var 1) .nil)) [] .nil))
 .nil)))⟩
def f_walk_up : Fn := ⟨["up", "place"], ["up", "place"],
  (.cons (.expr (.call "check_up" (.cons (.var 0) .nil) [] .nil))
 (.cons (.expr (.call "check_place" (.cons (.var 1) (.cons (.blt "len" (.cons (.var 0) .nil)) .nil)) [] .nil))
 (.cons (.ret (.call "steps_up" (.cons (.var 0) (.cons (.var 1) .nil)) [] .nil))
 .nil)))⟩
def f_law_draws : Fn := ⟨["_law_cell"], ["_law_cell"],
  (.cons (.ret (.lst (.cons (.bin .Mod (.blt "int" (.cons (.var 0) .nil)) (.bin .Pow (.bin .Pow (.bin .Pow (.con (.int 10)) (.con (.int 60))) (.con (.int 60))) (.con (.int 4)))) (.cons (.con (.int 0)) (.cons (.cmp .GtE (.var 0) (.bin .Pow (.con (.int 10)) (.con (.int 18)))) .nil)))))
 .nil)⟩
def f_law_next : Fn := ⟨["_law_draws_here"], ["_law_draws_here", "_law_k", "_law_number"],
  (.cons (.setI (.var 0) (.con (.int 1)) (.bin .Add (.idx (.var 0) (.con (.int 1))) (.con (.int 1))))
 (.cons (.asg 1 (.idx (.var 0) (.con (.int 1))))
 (.cons (.ife (.val (.idx (.var 0) (.con (.int 2))))
  (.cons (.asg 2 (.bin .Mod (.blt "int" (.cons (.idx (.var 0) (.con (.int 0))) .nil)) (.bin .Pow (.con (.int 10)) (.con (.int 6)))))
  (.cons (.setI (.var 0) (.con (.int 0)) (.bin .FloorDiv (.idx (.var 0) (.con (.int 0))) (.bin .Pow (.con (.int 10)) (.con (.int 6)))))
  (.cons (.ret (.var 2))
  .nil)))
  .nil)
 (.cons (.asg 2 (.bin .Mod (.blt "int" (.cons (.bin .Mult (.bin .Add (.bin .Add (.bin .Mod (.blt "int" (.cons (.idx (.var 0) (.con (.int 0))) .nil)) (.con (.int 1000003))) (.bin .Mult (.bin .Mult (.var 1) (.var 1)) (.con (.int 7919)))) (.var 1)) (.con (.int 48271))) .nil)) (.con (.int 2147483629))))
 (.cons (.asg 2 (.bin .Mod (.blt "int" (.cons (.bin .Mult (.var 2) (.var 2)) .nil)) (.con (.int 2147483587))))
 (.cons (.ret (.bin .FloorDiv (.bin .Mod (.blt "int" (.cons (.bin .Mult (.var 2) (.bin .Add (.var 2) (.con (.int 2)))) .nil)) (.con (.int 2147483579))) (.con (.int 7))))
 .nil))))))⟩
def f_law_next_b : Fn := ⟨["_law_draws_here"], ["_law_draws_here", "_law_k", "_law_drawn"],
  (.cons (.setI (.var 0) (.con (.int 1)) (.bin .Add (.idx (.var 0) (.con (.int 1))) (.con (.int 1))))
 (.cons (.asg 1 (.idx (.var 0) (.con (.int 1))))
 (.cons (.ife (.val (.idx (.var 0) (.con (.int 2))))
  (.cons (.asg 2 (.bin .Mod (.blt "int" (.cons (.idx (.var 0) (.con (.int 0))) .nil)) (.bin .Pow (.con (.int 10)) (.con (.int 6)))))
  (.cons (.setI (.var 0) (.con (.int 0)) (.bin .FloorDiv (.idx (.var 0) (.con (.int 0))) (.bin .Pow (.con (.int 10)) (.con (.int 6)))))
  (.cons (.ret (.var 2))
  .nil)))
  .nil)
 (.cons (.asg 2 (.bin .Mod (.blt "int" (.cons (.bin .Mult (.bin .Add (.bin .Add (.bin .Mod (.blt "int" (.cons (.idx (.var 0) (.con (.int 0))) .nil)) (.con (.int 1000003))) (.bin .Mult (.bin .Mult (.var 1) (.var 1)) (.con (.int 7919)))) (.var 1)) (.con (.int 48271))) .nil)) (.con (.int 2147483629))))
 (.cons (.asg 2 (.bin .Mod (.blt "int" (.cons (.bin .Mult (.var 2) (.var 2)) .nil)) (.con (.int 2147483587))))
 (.cons (.ret (.bin .FloorDiv (.bin .Mod (.blt "int" (.cons (.bin .Mult (.var 2) (.bin .Add (.var 2) (.con (.int 2)))) .nil)) (.con (.int 2147483579))) (.con (.int 7))))
 .nil))))))⟩
def f_law_next_c : Fn := ⟨["_law_draws_here"], ["_law_draws_here", "_law_k", "_law_drawn_here"],
  (.cons (.setI (.var 0) (.con (.int 1)) (.bin .Add (.idx (.var 0) (.con (.int 1))) (.con (.int 1))))
 (.cons (.asg 1 (.idx (.var 0) (.con (.int 1))))
 (.cons (.ife (.val (.idx (.var 0) (.con (.int 2))))
  (.cons (.asg 2 (.bin .Mod (.blt "int" (.cons (.idx (.var 0) (.con (.int 0))) .nil)) (.bin .Pow (.con (.int 10)) (.con (.int 6)))))
  (.cons (.setI (.var 0) (.con (.int 0)) (.bin .FloorDiv (.idx (.var 0) (.con (.int 0))) (.bin .Pow (.con (.int 10)) (.con (.int 6)))))
  (.cons (.ret (.var 2))
  .nil)))
  .nil)
 (.cons (.asg 2 (.bin .Mod (.blt "int" (.cons (.bin .Mult (.bin .Add (.bin .Add (.bin .Mod (.blt "int" (.cons (.idx (.var 0) (.con (.int 0))) .nil)) (.con (.int 1000003))) (.bin .Mult (.bin .Mult (.var 1) (.var 1)) (.con (.int 7919)))) (.var 1)) (.con (.int 48271))) .nil)) (.con (.int 2147483629))))
 (.cons (.asg 2 (.bin .Mod (.blt "int" (.cons (.bin .Mult (.var 2) (.var 2)) .nil)) (.con (.int 2147483587))))
 (.cons (.ret (.bin .FloorDiv (.bin .Mod (.blt "int" (.cons (.bin .Mult (.var 2) (.bin .Add (.var 2) (.con (.int 2)))) .nil)) (.con (.int 2147483579))) (.con (.int 7))))
 .nil))))))⟩
def f_law_pair : Fn := ⟨["_law_draws_here", "_law_most"], ["_law_draws_here", "_law_most", "_law_many", "_law_falls", "_law_rises", "_law_k"],
  (.cons (.asg 2 (.bin .Add (.con (.int 1)) (.bin .Mod (.blt "int" (.cons (.call "_law_next" (.cons (.var 0) .nil) [] .nil) .nil)) (.var 1))))
 (.cons (.asg 3 (.comp (.bin .Mod (.blt "int" (.cons (.call "_law_next" (.cons (.var 0) .nil) [] .nil) .nil)) (.bin .Add (.var 5) (.con (.int 1)))) (.name 5) (.rng (.cons (.var 2) .nil)) .no [("_law_k", 5)]))
 (.cons (.asg 4 (.comp (.bin .Add (.bin .Add (.var 5) (.con (.int 2))) (.bin .Mod (.blt "int" (.cons (.call "_law_next" (.cons (.var 0) .nil) [] .nil) .nil)) (.bin .Sub (.var 2) (.var 5)))) (.name 5) (.rng (.cons (.var 2) .nil)) .no [("_law_k", 5)]))
 (.cons (.ret (.tup (.cons (.var 3) (.cons (.var 4) .nil))))
 .nil))))⟩
def f_law_tree : Fn := ⟨["_law_draws_here", "_law_most"], ["_law_draws_here", "_law_most", "_law_many", "_law_falls", "_law_rises", "_law_left", "_law_pick", "_law_some", "_law_root", "_law_low", "_law_high"],
  (.cons (.asg 2 (.bin .Add (.con (.int 1)) (.bin .Mod (.blt "int" (.cons (.call "_law_next" (.cons (.var 0) .nil) [] .nil) .nil)) (.var 1))))
 (.cons (.asg 3 (.bin .Mult (.lst (.cons (.con (.int 0)) .nil)) (.var 2)))
 (.cons (.asg 4 (.bin .Mult (.lst (.cons (.con (.int 0)) .nil)) (.var 2)))
 (.cons (.asg 5 (.lst (.cons (.tup (.cons (.con (.int 1)) (.cons (.var 2) .nil))) .nil)))
 (.cons (.whl (.cmp .NotEq (.var 5) (.lst .nil))
  (.cons (.unp [9, 10] (.mth "pop" (.var 5) .nil))
  (.cons (.asg 6 (.blt "int" (.cons (.call "_law_next" (.cons (.var 0) .nil) [] .nil) .nil)))
  (.cons (.asg 7 (.bin .Add (.var 9) (.bin .Mod (.bin .FloorDiv (.blt "int" (.cons (.var 6) .nil)) (.con (.int 4))) (.bin .Add (.bin .Sub (.var 10) (.var 9)) (.con (.int 1))))))
  (.cons (.asg 8 (.idx (.lst (.cons (.var 9) (.cons (.var 10) (.cons (.var 7) (.cons (.var 7) .nil))))) (.bin .Mod (.blt "int" (.cons (.var 6) .nil)) (.con (.int 4)))))
  (.cons (.setI (.var 3) (.bin .Sub (.var 8) (.con (.int 1))) (.bin .Sub (.var 9) (.con (.int 1))))
  (.cons (.setI (.var 4) (.bin .Sub (.var 8) (.con (.int 1))) (.bin .Add (.var 10) (.con (.int 1))))
  (.cons (.asg 5 (.bin .Add (.bin .Add (.var 5) (.bin .Mult (.lst (.cons (.tup (.cons (.var 9) (.cons (.bin .Sub (.var 8) (.con (.int 1))) .nil))) .nil)) (.blt "int" (.cons (.cmp .Lt (.var 9) (.var 8)) .nil)))) (.bin .Mult (.lst (.cons (.tup (.cons (.bin .Add (.var 8) (.con (.int 1))) (.cons (.var 10) .nil))) .nil)) (.blt "int" (.cons (.cmp .Lt (.var 8) (.var 10)) .nil)))))
  .nil))))))))
 (.cons (.ret (.tup (.cons (.var 3) (.cons (.var 4) .nil))))
 .nil))))))⟩
def f_law_tree_b : Fn := ⟨["_law_draws_here", "_law_many"], ["_law_draws_here", "_law_many", "_law_ahead", "_law_behind", "_law_left", "_law_pick", "_law_root", "_law_low", "_law_high"],
  (.cons (.asg 2 (.bin .Mult (.lst (.cons (.con (.int 0)) .nil)) (.var 1)))
 (.cons (.asg 3 (.bin .Mult (.lst (.cons (.con (.int 0)) .nil)) (.var 1)))
 (.cons (.asg 4 (.lst (.cons (.tup (.cons (.con (.int 1)) (.cons (.var 1) .nil))) .nil)))
 (.cons (.whl (.cmp .NotEq (.var 4) (.lst .nil))
  (.cons (.unp [7, 8] (.mth "pop" (.var 4) .nil))
  (.cons (.asg 5 (.blt "int" (.cons (.call "_law_next" (.cons (.var 0) .nil) [] .nil) .nil)))
  (.cons (.asg 6 (.bin .Add (.var 7) (.bin .Mod (.blt "int" (.cons (.bin .FloorDiv (.var 5) (.con (.int 4))) .nil)) (.bin .Add (.bin .Sub (.var 8) (.var 7)) (.con (.int 1))))))
  (.cons (.ife (.or (.cmp .Eq (.bin .Mod (.var 5) (.con (.int 4))) (.con (.int 1))) (.cmp .Eq (.bin .Mod (.var 5) (.con (.int 4))) (.con (.int 2))))
   (.cons (.asg 6 (.idx (.lst (.cons (.var 7) (.cons (.var 8) .nil))) (.bin .Mod (.blt "int" (.cons (.var 5) .nil)) (.con (.int 2)))))
   .nil)
   .nil)
  (.cons (.setI (.var 2) (.bin .Sub (.var 6) (.con (.int 1))) (.bin .Sub (.var 7) (.con (.int 1))))
  (.cons (.setI (.var 3) (.bin .Sub (.var 6) (.con (.int 1))) (.bin .Add (.var 8) (.con (.int 1))))
  (.cons (.asg 4 (.bin .Add (.bin .Add (.var 4) (.bin .Mult (.lst (.cons (.tup (.cons (.var 7) (.cons (.bin .Sub (.var 6) (.con (.int 1))) .nil))) .nil)) (.blt "int" (.cons (.cmp .Lt (.var 7) (.var 6)) .nil)))) (.bin .Mult (.lst (.cons (.tup (.cons (.bin .Add (.var 6) (.con (.int 1))) (.cons (.var 8) .nil))) .nil)) (.blt "int" (.cons (.cmp .Lt (.var 6) (.var 8)) .nil)))))
  .nil))))))))
 (.cons (.ret (.tup (.cons (.var 2) (.cons (.var 3) .nil))))
 .nil)))))⟩
def f_law_bent : Fn := ⟨["_law_draws_here", "_law_a_pair"], ["_law_draws_here", "_law_a_pair", "_law_turn", "_law_falls", "_law_rises", "_law_pick", "_law_k"],
  (.cons (.par [3, 4] (.cons (.blt "list" (.cons (.idx (.var 1) (.con (.int 0))) .nil)) (.cons (.blt "list" (.cons (.idx (.var 1) (.con (.int 1))) .nil)) .nil)))
 (.cons (.forI (.name 2) (.rng (.cons (.bin .Add (.con (.int 1)) (.bin .Mod (.blt "int" (.cons (.call "_law_next" (.cons (.var 0) .nil) [] .nil) .nil)) (.con (.int 3)))) .nil))
  (.cons (.asg 5 (.blt "int" (.cons (.call "_law_next" (.cons (.var 0) .nil) [] .nil) .nil)))
  (.cons (.asg 6 (.bin .Mod (.bin .FloorDiv (.blt "int" (.cons (.var 5) .nil)) (.con (.int 2))) (.blt "len" (.cons (.var 3) .nil))))
  (.cons (.ife (.cmp .Eq (.bin .Mod (.blt "int" (.cons (.var 5) .nil)) (.con (.int 2))) (.con (.int 0)))
   (.cons (.setI (.var 3) (.var 6) (.bin .Mod (.bin .FloorDiv (.blt "int" (.cons (.var 5) .nil)) (.con (.int 32))) (.bin .Add (.var 6) (.con (.int 1)))))
   .nil)
   (.cons (.setI (.var 4) (.var 6) (.bin .Add (.bin .Add (.var 6) (.con (.int 2))) (.bin .Mod (.bin .FloorDiv (.blt "int" (.cons (.var 5) .nil)) (.con (.int 32))) (.bin .Sub (.blt "len" (.cons (.var 3) .nil)) (.var 6)))))
   .nil))
  .nil))))
 (.cons (.ret (.tup (.cons (.var 3) (.cons (.var 4) .nil))))
 .nil)))⟩
def f_law_bent_b : Fn := ⟨["_law_draws_here", "_law_links"], ["_law_draws_here", "_law_links", "_law_many", "_law_turn", "_law_ahead", "_law_behind", "_law_at"],
  (.cons (.par [4, 5] (.cons (.blt "list" (.cons (.idx (.var 1) (.con (.int 0))) .nil)) (.cons (.blt "list" (.cons (.idx (.var 1) (.con (.int 1))) .nil)) .nil)))
 (.cons (.asg 2 (.blt "len" (.cons (.var 4) .nil)))
 (.cons (.forI (.name 3) (.rng (.cons (.bin .Add (.con (.int 1)) (.bin .Mod (.blt "int" (.cons (.call "_law_next" (.cons (.var 0) .nil) [] .nil) .nil)) (.con (.int 3)))) .nil))
  (.cons (.asg 6 (.bin .Mod (.blt "int" (.cons (.call "_law_next" (.cons (.var 0) .nil) [] .nil) .nil)) (.var 2)))
  (.cons (.ife (.cmp .Eq (.bin .Mod (.blt "int" (.cons (.call "_law_next" (.cons (.var 0) .nil) [] .nil) .nil)) (.con (.int 2))) (.con (.int 0)))
   (.cons (.setI (.var 4) (.var 6) (.bin .Mod (.blt "int" (.cons (.call "_law_next" (.cons (.var 0) .nil) [] .nil) .nil)) (.bin .Add (.var 6) (.con (.int 1)))))
   .nil)
   (.cons (.setI (.var 5) (.var 6) (.bin .Add (.bin .Add (.var 6) (.con (.int 2))) (.bin .Mod (.blt "int" (.cons (.call "_law_next" (.cons (.var 0) .nil) [] .nil) .nil)) (.bin .Sub (.var 2) (.var 6)))))
   .nil))
  .nil)))
 (.cons (.ret (.tup (.cons (.var 4) (.cons (.var 5) .nil))))
 .nil))))⟩
def f_law_any : Fn := ⟨["_law_draws_here", "_law_most"], ["_law_draws_here", "_law_most", "_law_kind", "_law_a_pair"],
  (.cons (.asg 2 (.bin .Mod (.blt "int" (.cons (.call "_law_next" (.cons (.var 0) .nil) [] .nil) .nil)) (.con (.int 3))))
 (.cons (.ife (.cmp .Eq (.var 2) (.con (.int 0)))
  (.cons (.ret (.call "_law_pair" (.cons (.var 0) (.cons (.var 1) .nil)) [] .nil))
  .nil)
  .nil)
 (.cons (.asg 3 (.call "_law_tree" (.cons (.var 0) (.cons (.var 1) .nil)) [] .nil))
 (.cons (.ret (.ite (.cmp .Eq (.var 2) (.con (.int 1))) (.call "_law_bent" (.cons (.var 0) (.cons (.var 3) .nil)) [] .nil) (.var 3)))
 .nil))))⟩
def f_law_any_b : Fn := ⟨["_law_draws_here", "_law_many"], ["_law_draws_here", "_law_many", "_law_ahead", "_law_at"],
  (.cons (.asg 2 (.comp (.bin .Mod (.blt "int" (.cons (.call "_law_next" (.cons (.var 0) .nil) [] .nil) .nil)) (.bin .Add (.var 3) (.con (.int 1)))) (.name 3) (.rng (.cons (.var 1) .nil)) .no [("_law_at", 3)]))
 (.cons (.ret (.tup (.cons (.var 2) (.cons (.comp (.bin .Add (.bin .Add (.var 3) (.con (.int 2))) (.bin .Mod (.blt "int" (.cons (.call "_law_next" (.cons (.var 0) .nil) [] .nil) .nil)) (.bin .Sub (.var 1) (.var 3)))) (.name 3) (.rng (.cons (.var 1) .nil)) .no [("_law_at", 3)]) .nil))))
 .nil))⟩
def f_law_down : Fn := ⟨["_law_falls", "_law_k"], ["_law_falls", "_law_k", "_law_told"],
  (.cons (.asg 2 (.lst .nil))
 (.cons (.whl (.cmp .Gt (.var 1) (.con (.int 0)))
  (.cons (.expr (.mth "append" (.var 2) (.cons (.var 1) .nil)))
  (.cons (.asg 1 (.idx (.var 0) (.bin .Sub (.var 1) (.con (.int 1)))))
  .nil)))
 (.cons (.ret (.var 2))
 .nil)))⟩
def f_law_down_b : Fn := ⟨["_law_ahead", "_law_spot"], ["_law_ahead", "_law_spot", "_law_told_here"],
  (.cons (.asg 2 (.lst .nil))
 (.cons (.whl (.cmp .Gt (.var 1) (.con (.int 0)))
  (.cons (.expr (.mth "append" (.var 2) (.cons (.var 1) .nil)))
  (.cons (.asg 1 (.idx (.var 0) (.bin .Sub (.var 1) (.con (.int 1)))))
  .nil)))
 (.cons (.ret (.var 2))
 .nil)))⟩
def f_law_down_c : Fn := ⟨["_law_ahead", "_law_spot"], ["_law_ahead", "_law_spot", "_law_told"],
  (.cons (.asg 2 (.lst .nil))
 (.cons (.whl (.cmp .Gt (.var 1) (.con (.int 0)))
  (.cons (.expr (.mth "append" (.var 2) (.cons (.var 1) .nil)))
  (.cons (.asg 1 (.idx (.var 0) (.bin .Sub (.var 1) (.con (.int 1)))))
  .nil)))
 (.cons (.ret (.var 2))
 .nil)))⟩
def f_law_up : Fn := ⟨["_law_rises", "_law_k"], ["_law_rises", "_law_k", "_law_told"],
  (.cons (.asg 2 (.lst .nil))
 (.cons (.whl (.cmp .LtE (.var 1) (.blt "len" (.cons (.var 0) .nil)))
  (.cons (.expr (.mth "append" (.var 2) (.cons (.var 1) .nil)))
  (.cons (.asg 1 (.idx (.var 0) (.bin .Sub (.var 1) (.con (.int 1)))))
  .nil)))
 (.cons (.ret (.var 2))
 .nil)))⟩
def f_law_up_b : Fn := ⟨["_law_behind", "_law_spot"], ["_law_behind", "_law_spot", "_law_told_here"],
  (.cons (.asg 2 (.lst .nil))
 (.cons (.whl (.cmp .LtE (.var 1) (.blt "len" (.cons (.var 0) .nil)))
  (.cons (.expr (.mth "append" (.var 2) (.cons (.var 1) .nil)))
  (.cons (.asg 1 (.idx (.var 0) (.bin .Sub (.var 1) (.con (.int 1)))))
  .nil)))
 (.cons (.ret (.var 2))
 .nil)))⟩
def f_law_up_c : Fn := ⟨["_law_behind", "_law_spot"], ["_law_behind", "_law_spot", "_law_told"],
  (.cons (.asg 2 (.lst .nil))
 (.cons (.whl (.cmp .LtE (.var 1) (.blt "len" (.cons (.var 0) .nil)))
  (.cons (.expr (.mth "append" (.var 2) (.cons (.var 1) .nil)))
  (.cons (.asg 1 (.idx (.var 0) (.bin .Sub (.var 1) (.con (.int 1)))))
  .nil)))
 (.cons (.ret (.var 2))
 .nil)))⟩
def f_check_pair : Fn := ⟨["pair"], ["pair", "down", "up"],
  (.cons (.ife (.or (.not (.val (.isi (.var 0) "tuple"))) (.cmp .NotEq (.blt "len" (.cons (.var 0) .nil)) (.con (.int 2))))
  (.cons .never
  .nil)
  .nil)
 (.cons (.unp [1, 2] (.var 0))
 (.cons (.ife (.or (.not (.val (.isi (.var 1) "list"))) (.not (.val (.isi (.var 2) "list"))))
  (.cons .never
  .nil)
  .nil)
 (.cons (.ife (.or (.cmp .NotEq (.blt "len" (.cons (.var 1) .nil)) (.blt "len" (.cons (.var 2) .nil))) (.not (.chn .LtE .LtE (.con (.int 1)) (.blt "len" (.cons (.var 1) .nil)) (.glb "MOST_PLACES"))))
  (.cons .never
  .nil)
  .nil)
 (.cons (.expr (.call "check_down" (.cons (.var 1) .nil) [] .nil))
 (.cons (.expr (.call "check_up" (.cons (.var 2) .nil) [] .nil))
 .nil))))))⟩
def f_meetings : Fn := ⟨["pair", "first", "second"], ["pair", "first", "second", "walk", "place"],
  (.cons (.asg 3 (.call "steps_down" (.cons (.idx (.var 0) (.con (.int 0))) (.cons (.var 1) .nil)) [] .nil))
 (.cons (.ret (.blt "len" (.cons (.comp (.var 4) (.name 4) (.seq (.call "steps_up" (.cons (.idx (.var 0) (.con (.int 1))) (.cons (.var 2) .nil)) [] .nil)) (.one (.cmp .In (.var 4) (.var 3))) [("place", 4)]) .nil)))
 .nil))⟩
def f_count : Fn := ⟨["pair", "first", "second"], ["pair", "first", "second"],
  (.cons (.expr (.call "check_pair" (.cons (.var 0) .nil) [] .nil))
 (.cons (.expr (.call "check_place" (.cons (.var 1) (.cons (.blt "len" (.cons (.idx (.var 0) (.con (.int 0))) .nil)) .nil)) [] .nil))
 (.cons (.expr (.call "check_place" (.cons (.var 2) (.cons (.blt "len" (.cons (.idx (.var 0) (.con (.int 0))) .nil)) .nil)) [] .nil))
 (.cons (.ret (.call "meetings" (.cons (.var 0) (.cons (.var 1) (.cons (.var 2) .nil))) [] .nil))
 .nil))))⟩
def f_counts : Fn := ⟨["pair"], ["pair", "walks", "rows", "index", "link", "row", "walk", "number", "more"],
  (.cons (.expr (.call "check_pair" (.cons (.var 0) .nil) [] .nil))
 (.cons (.asg 1 (.comp (.call "steps_up" (.cons (.idx (.var 0) (.con (.int 1))) (.cons (.bin .Add (.var 3) (.con (.int 1))) .nil)) [] .nil) (.name 3) (.rng (.cons (.blt "len" (.cons (.idx (.var 0) (.con (.int 1))) .nil)) .nil)) .no [("index", 3)]))
 (.cons (.asg 2 (.lst .nil))
 (.cons (.forI (.tup [3, 4]) (.enm (.idx (.var 0) (.con (.int 0))))
  (.cons (.asg 5 (.comp (.blt "int" (.cons (.cmp .In (.bin .Add (.var 3) (.con (.int 1))) (.var 6)) .nil)) (.name 6) (.seq (.var 1)) .no [("walk", 6)]))
  (.cons (.ife (.cmp .Gt (.var 4) (.con (.int 0)))
   (.cons (.asg 5 (.comp (.bin .Add (.var 7) (.var 8)) (.tup [7, 8]) (.zip (.var 5) (.idx (.var 2) (.bin .Sub (.var 4) (.con (.int 1))))) .no [("number", 7), ("more", 8)]))
   .nil)
   .nil)
  (.cons (.expr (.mth "append" (.var 2) (.cons (.var 5) .nil)))
  .nil))))
 (.cons (.ret (.var 2))
 .nil)))))⟩
def f_law_counts : Fn := ⟨["_law_a_pair"], ["_law_a_pair", "_law_walks", "_law_told", "_law_i", "_law_falls", "_law_rises", "_law_row", "_law_k", "_law_j", "_law_walk", "_law_number", "_law_more"],
  (.cons (.unp [4, 5] (.var 0))
 (.cons (.asg 1 (.comp (.call "_law_up" (.cons (.var 5) (.cons (.var 8) .nil)) [] .nil) (.name 8) (.rng (.cons (.con (.int 1)) (.cons (.bin .Add (.blt "len" (.cons (.var 4) .nil)) (.con (.int 1))) .nil))) .no [("_law_j", 8)]))
 (.cons (.asg 2 (.lst .nil))
 (.cons (.forI (.name 3) (.rng (.cons (.con (.int 1)) (.cons (.bin .Add (.blt "len" (.cons (.var 4) .nil)) (.con (.int 1))) .nil)))
  (.cons (.asg 6 (.comp (.blt "int" (.cons (.cmp .In (.var 3) (.var 9)) .nil)) (.name 9) (.seq (.var 1)) .no [("_law_walk", 9)]))
  (.cons (.forI (.name 7) (.seq (.sl2 (.call "_law_down" (.cons (.var 4) (.cons (.var 3) .nil)) [] .nil) (.con (.int 1)) (.con (.int 2))))
   (.cons (.asg 6 (.comp (.bin .Add (.var 10) (.var 11)) (.tup [10, 11]) (.zip (.var 6) (.idx (.var 2) (.bin .Sub (.var 7) (.con (.int 1))))) .no [("_law_number", 10), ("_law_more", 11)]))
   .nil))
  (.cons (.expr (.mth "append" (.var 2) (.cons (.var 6) .nil)))
  .nil))))
 (.cons (.ret (.var 2))
 .nil)))))⟩
def f_law_counts_b : Fn := ⟨["_law_links"], ["_law_links", "_law_spots", "_law_one", "_law_two"],
  (.cons (.asg 1 (.lrg (.cons (.con (.int 1)) (.cons (.bin .Add (.blt "len" (.cons (.idx (.var 0) (.con (.int 0))) .nil)) (.con (.int 1))) .nil))))
 (.cons (.ret (.comp (.comp (.call "_law_count" (.cons (.var 0) (.cons (.var 2) (.cons (.var 3) .nil))) [] .nil) (.name 3) (.seq (.var 1)) (.one (.cmp .LtE (.var 3) (.var 2))) [("_law_two", 3)]) (.name 2) (.seq (.var 1)) .no [("_law_one", 2)]))
 .nil))⟩
def f_check_values : Fn := ⟨["values", "places"], ["values", "places", "index", "value"],
  (.cons (.ife (.or (.not (.val (.isi (.var 0) "list"))) (.cmp .NotEq (.blt "len" (.cons (.var 0) .nil)) (.var 1)))
  (.cons .never
  .nil)
  .nil)
 (.cons (.forI (.tup [2, 3]) (.enm (.var 0))
  (.cons (.ife (.not (.val (.call "is_whole" (.cons (.var 3) .nil) [] .nil)))
   (.cons .never
   .nil)
   .nil)
  .nil))
 .nil))⟩
def f_filled : Fn := ⟨["up", "values"], ["up", "values", "cells", "index", "value", "place"],
  (.cons (.asg 2 (.comp (.con (.int 0)) (.name 4) (.seq (.var 1)) .no [("value", 4)]))
 (.cons (.forI (.tup [3, 4]) (.enm (.var 1))
  (.cons (.forI (.name 5) (.seq (.call "steps_up" (.cons (.var 0) (.cons (.bin .Add (.var 3) (.con (.int 1))) .nil)) [] .nil))
   (.cons (.augI (.var 2) (.bin .Sub (.var 5) (.con (.int 1))) .Add (.var 4))
   .nil))
  .nil))
 (.cons (.ret (.var 2))
 .nil)))⟩
def f_cells_of : Fn := ⟨["up", "values"], ["up", "values"],
  (.cons (.expr (.call "check_up" (.cons (.var 0) .nil) [] .nil))
 (.cons (.expr (.call "check_values" (.cons (.var 1) (.cons (.blt "len" (.cons (.var 0) .nil)) .nil)) [] .nil))
 (.cons (.ret (.call "filled" (.cons (.var 0) (.cons (.var 1) .nil)) [] .nil))
 .nil)))⟩
def f_values_of : Fn := ⟨["up", "cells"], ["up", "cells", "values", "index", "link"],
  (.cons (.expr (.call "check_up" (.cons (.var 0) .nil) [] .nil))
 (.cons (.expr (.call "check_values" (.cons (.var 1) (.cons (.blt "len" (.cons (.var 0) .nil)) .nil)) [] .nil))
 (.cons (.asg 2 (.blt "list" (.cons (.var 1) .nil)))
 (.cons (.forI (.tup [3, 4]) (.enm (.var 0))
  (.cons (.ife (.cmp .LtE (.var 4) (.blt "len" (.cons (.var 0) .nil)))
   (.cons (.augI (.var 2) (.bin .Sub (.var 4) (.con (.int 1))) .Sub (.idx (.var 1) (.var 3)))
   .nil)
   .nil)
  .nil))
 (.cons (.ret (.var 2))
 .nil)))))⟩
def f_total : Fn := ⟨["down", "cells", "place"], ["down", "cells", "place", "step"],
  (.cons (.expr (.call "check_down" (.cons (.var 0) .nil) [] .nil))
 (.cons (.expr (.call "check_values" (.cons (.var 1) (.cons (.blt "len" (.cons (.var 0) .nil)) .nil)) [] .nil))
 (.cons (.expr (.call "check_place" (.cons (.var 2) (.cons (.blt "len" (.cons (.var 0) .nil)) .nil)) [] .nil))
 (.cons (.ret (.blt "sum" (.cons (.comp (.idx (.var 1) (.bin .Sub (.var 3) (.con (.int 1)))) (.name 3) (.seq (.call "steps_down" (.cons (.var 0) (.cons (.var 2) .nil)) [] .nil)) .no [("step", 3)]) .nil)))
 .nil))))⟩
def f_law_values : Fn := ⟨["_law_draws_here", "_law_many"], ["_law_draws_here", "_law_many", "_law_pick", "_law_far", "_law_k"],
  (.cons (.asg 2 (.blt "int" (.cons (.call "_law_next" (.cons (.var 0) .nil) [] .nil) .nil)))
 (.cons (.asg 3 (.idx (.lst (.cons (.con (.int 1)) (.cons (.con (.int 1)) (.cons (.con (.int 1)) (.cons (.bin .Pow (.con (.int 10)) (.con (.int 13))) .nil))))) (.bin .Mod (.blt "int" (.cons (.var 2) .nil)) (.con (.int 4)))))
 (.cons (.ret (.comp (.bin .Mult (.bin .Sub (.bin .Mod (.blt "int" (.cons (.call "_law_next" (.cons (.var 0) .nil) [] .nil) .nil)) (.idx (.lst (.cons (.con (.int 3)) (.cons (.con (.int 20)) (.cons (.bin .Pow (.con (.int 10)) (.con (.int 6))) (.cons (.bin .Pow (.con (.int 10)) (.con (.int 6))) .nil))))) (.bin .Mod (.bin .FloorDiv (.blt "int" (.cons (.var 2) .nil)) (.con (.int 4))) (.con (.int 4))))) (.con (.int 1))) (.var 3)) (.name 4) (.rng (.cons (.var 1) .nil)) .no [("_law_k", 4)]))
 .nil)))⟩
def f_ups_of : Fn := ⟨["down"], ["down", "told", "index", "link", "other"],
  (.cons (.asg 1 (.comp (.bin .Add (.blt "len" (.cons (.var 0) .nil)) (.con (.int 1))) (.name 3) (.seq (.var 0)) .no [("link", 3)]))
 (.cons (.forI (.tup [2, 3]) (.enm (.var 0))
  (.cons (.ife (.cmp .NotEq (.comp (.var 4) (.name 4) (.seq (.sl2 (.var 0) (.var 3) (.var 2))) (.one (.cmp .Lt (.var 4) (.var 3))) [("other", 4)]) (.lst .nil))
   (.cons (.ret (.con .none))
   .nil)
   .nil)
  (.cons (.forI (.name 4) (.rng (.cons (.var 2) .nil))
   (.cons (.ife (.and (.cmp .LtE (.var 3) (.var 4)) (.cmp .Gt (.idx (.var 1) (.var 4)) (.blt "len" (.cons (.var 0) .nil))))
    (.cons (.setI (.var 1) (.var 4) (.bin .Add (.var 2) (.con (.int 1))))
    .nil)
    .nil)
   .nil))
  .nil)))
 (.cons (.ret (.var 1))
 .nil)))⟩
def f_is_right_pair : Fn := ⟨["pair"], ["pair"],
  (.cons (.ret (.cmp .Eq (.idx (.var 0) (.con (.int 1))) (.call "ups_of" (.cons (.idx (.var 0) (.con (.int 0))) .nil) [] .nil)))
 .nil)⟩
def f_is_right : Fn := ⟨["pair"], ["pair"],
  (.cons (.expr (.call "check_pair" (.cons (.var 0) .nil) [] .nil))
 (.cons (.ret (.call "is_right_pair" (.cons (.var 0) .nil) [] .nil))
 .nil))⟩
def f_law_totals : Fn := ⟨["_law_a_pair", "_law_some"], ["_law_a_pair", "_law_some", "_law_kept", "_law_k"],
  (.cons (.asg 2 (.call "cells_of" (.cons (.idx (.var 0) (.con (.int 1))) (.cons (.var 1) .nil)) [] .nil))
 (.cons (.ret (.comp (.call "total" (.cons (.idx (.var 0) (.con (.int 0))) (.cons (.var 2) (.cons (.var 3) .nil))) [] .nil) (.name 3) (.rng (.cons (.con (.int 1)) (.cons (.bin .Add (.blt "len" (.cons (.var 1) .nil)) (.con (.int 1))) .nil))) .no [("_law_k", 3)]))
 .nil))⟩
def f_law_all : Fn := ⟨["_law_asks", "_law_due"], ["_law_asks", "_law_due", "_law_ask"],
  (.cons (.ret (.cmp .Eq (.comp (.var 2) (.name 2) (.seq (.var 0)) (.one (.cmp .NotEq (.call "_law_kept" (.cons (.var 2) .nil) [] .nil) (.blt "repr" (.cons (.var 1) .nil)))) [("_law_ask", 2)]) (.lst .nil)))
 .nil)⟩
def f_law_lists : Fn := ⟨["_law_sizes"], ["_law_sizes", "_law_told", "_law_size", "_law_row", "_law_number"],
  (.cons (.asg 1 (.lst (.cons (.lst .nil) .nil)))
 (.cons (.forI (.name 2) (.seq (.var 0))
  (.cons (.asg 1 (.blt "sum" (.cons (.comp (.comp (.bin .Add (.var 3) (.lst (.cons (.var 4) .nil))) (.name 4) (.rng (.cons (.var 2) .nil)) .no [("_law_number", 4)]) (.name 3) (.seq (.var 1)) .no [("_law_row", 3)]) (.cons (.lst .nil) .nil))))
  .nil))
 (.cons (.ret (.var 1))
 .nil)))⟩
def f_law_all_pairs : Fn := ⟨["_law_many"], ["_law_many", "_law_lows", "_law_highs", "_law_row", "_law_falls", "_law_number", "_law_rises"],
  (.cons (.asg 1 (.call "_law_lists" (.cons (.lrg (.cons (.con (.int 1)) (.cons (.bin .Add (.var 0) (.con (.int 1))) .nil))) .nil) [] .nil))
 (.cons (.asg 2 (.blt "sorted" (.cons (.comp (.comp (.bin .Sub (.bin .Add (.var 0) (.con (.int 1))) (.var 5)) (.name 5) (.seq (.rev (.var 3))) .no [("_law_number", 5)]) (.name 3) (.seq (.var 1)) .no [("_law_row", 3)]) .nil)))
 (.cons (.ret (.blt "sum" (.cons (.comp (.comp (.tup (.cons (.var 4) (.cons (.var 6) .nil))) (.name 6) (.seq (.var 2)) .no [("_law_rises", 6)]) (.name 4) (.seq (.var 1)) .no [("_law_falls", 4)]) (.cons (.lst .nil) .nil))))
 .nil)))⟩
def f_check_equal : Fn := ⟨["pair", "other"], ["pair", "other"],
  (.cons (.ife (.cmp .NotEq (.blt "len" (.cons (.idx (.var 0) (.con (.int 0))) .nil)) (.blt "len" (.cons (.idx (.var 1) (.con (.int 0))) .nil)))
  (.cons .never
  .nil)
  .nil)
 .nil)⟩
def f_are_alike : Fn := ⟨["pair", "other"], ["pair", "other"],
  (.cons (.expr (.call "check_pair" (.cons (.var 0) .nil) [] .nil))
 (.cons (.expr (.call "check_pair" (.cons (.var 1) .nil) [] .nil))
 (.cons (.expr (.call "check_equal" (.cons (.var 0) (.cons (.var 1) .nil)) [] .nil))
 (.cons (.ret (.cmp .Eq (.call "sums_of" (.cons (.var 0) .nil) [] .nil) (.call "sums_of" (.cons (.var 1) .nil) [] .nil)))
 .nil))))⟩
def f_cover_of : Fn := ⟨["pair", "first", "second"], ["pair", "first", "second", "links", "down", "up"],
  (.cons (.asg 3 (.sl2 (.lzp (.idx (.var 0) (.con (.int 0))) (.idx (.var 0) (.con (.int 1)))) (.bin .Sub (.var 2) (.con (.int 1))) (.var 1)))
 (.cons (.ret (.blt "len" (.cons (.comp (.var 4) (.tup [4, 5]) (.seq (.var 3)) (.one (.and (.cmp .Lt (.var 4) (.var 2)) (.cmp .Gt (.var 5) (.var 1)))) [("down", 4), ("up", 5)]) .nil)))
 .nil))⟩
def f_covers_of : Fn := ⟨["pair"], ["pair", "places", "first", "second"],
  (.cons (.asg 1 (.lrg (.cons (.con (.int 1)) (.cons (.bin .Add (.blt "len" (.cons (.idx (.var 0) (.con (.int 0))) .nil)) (.con (.int 1))) .nil))))
 (.cons (.ret (.comp (.comp (.call "cover_of" (.cons (.var 0) (.cons (.var 2) (.cons (.var 3) .nil))) [] .nil) (.name 3) (.seq (.var 1)) .no [("second", 3)]) (.name 2) (.seq (.var 1)) .no [("first", 2)]))
 .nil))⟩
def f_covers : Fn := ⟨["pair"], ["pair"],
  (.cons (.expr (.call "check_pair" (.cons (.var 0) .nil) [] .nil))
 (.cons (.ret (.call "covers_of" (.cons (.var 0) .nil) [] .nil))
 .nil))⟩
def f_law_moves : Fn := ⟨["_law_a_pair"], ["_law_a_pair", "_law_told", "_law_x", "_law_falls", "_law_rises", "_law_y", "_law_ahead"],
  (.cons (.unp [3, 4] (.var 0))
 (.cons (.asg 1 (.lst .nil))
 (.cons (.forI (.name 2) (.rng (.cons (.con (.int 1)) (.cons (.bin .Add (.blt "len" (.cons (.var 3) .nil)) (.con (.int 1))) .nil)))
  (.cons (.forI (.name 5) (.rng (.cons (.bin .Add (.var 2) (.con (.int 1))) (.cons (.bin .Add (.blt "len" (.cons (.var 3) .nil)) (.con (.int 1))) .nil)))
   (.cons (.asg 6 (.and (.cmp .Eq (.idx (.var 4) (.bin .Sub (.var 2) (.con (.int 1)))) (.var 5)) (.cmp .Eq (.idx (.var 3) (.bin .Sub (.var 2) (.con (.int 1)))) (.idx (.var 3) (.bin .Sub (.var 5) (.con (.int 1)))))))
   (.cons (.ife (.or (.val (.var 6)) (.and (.cmp .Eq (.idx (.var 4) (.bin .Sub (.var 2) (.con (.int 1)))) (.idx (.var 4) (.bin .Sub (.var 5) (.con (.int 1))))) (.cmp .Eq (.idx (.var 3) (.bin .Sub (.var 5) (.con (.int 1)))) (.var 2))))
    (.cons (.expr (.mth "append" (.var 1) (.cons (.tup (.cons (.var 2) (.cons (.var 5) (.cons (.var 6) .nil)))) .nil)))
    .nil)
    .nil)
   .nil)))
  .nil))
 (.cons (.ret (.var 1))
 .nil))))⟩
def f_law_sized : Fn := ⟨["_law_draws_here", "_law_many"], ["_law_draws_here", "_law_many", "_law_falls", "_law_told", "_law_turn", "_law_some", "_law_k"],
  (.cons (.asg 2 (.comp (.bin .Mod (.blt "int" (.cons (.call "_law_next" (.cons (.var 0) .nil) [] .nil) .nil)) (.bin .Add (.var 6) (.con (.int 1)))) (.name 6) (.rng (.cons (.var 1) .nil)) .no [("_law_k", 6)]))
 (.cons (.asg 3 (.tup (.cons (.var 2) (.cons (.comp (.bin .Add (.bin .Add (.var 6) (.con (.int 2))) (.bin .Mod (.blt "int" (.cons (.call "_law_next" (.cons (.var 0) .nil) [] .nil) .nil)) (.bin .Sub (.var 1) (.var 6)))) (.name 6) (.rng (.cons (.var 1) .nil)) .no [("_law_k", 6)]) .nil))))
 (.cons (.ife (.cmp .Eq (.bin .Mod (.blt "int" (.cons (.call "_law_next" (.cons (.var 0) .nil) [] .nil) .nil)) (.con (.int 3))) (.con (.int 0)))
  (.cons (.asg 3 (.tup (.cons (.bin .Mult (.lst (.cons (.con (.int 0)) .nil)) (.var 1)) (.cons (.comp (.bin .Add (.var 6) (.con (.int 2))) (.name 6) (.rng (.cons (.var 1) .nil)) .no [("_law_k", 6)]) .nil))))
  .nil)
  .nil)
 (.cons (.forI (.name 4) (.rng (.cons (.bin .Mod (.blt "int" (.cons (.call "_law_next" (.cons (.var 0) .nil) [] .nil) .nil)) (.con (.int 6))) .nil))
  (.cons (.asg 5 (.call "_law_moves" (.cons (.var 3) .nil) [] .nil))
  (.cons (.asg 3 (.ite (.cmp .NotEq (.var 5) (.lst .nil)) (.call "_law_moved" (.cons (.var 3) (.cons (.idx (.var 5) (.bin .Mod (.blt "int" (.cons (.call "_law_next" (.cons (.var 0) .nil) [] .nil) .nil)) (.blt "len" (.cons (.var 5) .nil)))) .nil)) [] .nil) (.var 3)))
  .nil)))
 (.cons (.ret (.var 3))
 .nil)))))⟩
def f_law_sized_b : Fn := ⟨["_law_draws_here", "_law_many"], ["_law_draws_here", "_law_many", "_law_falls", "_law_rises", "_law_left", "_law_pick", "_law_some", "_law_root", "_law_low", "_law_high"],
  (.cons (.asg 2 (.bin .Mult (.lst (.cons (.con (.int 0)) .nil)) (.var 1)))
 (.cons (.asg 3 (.bin .Mult (.lst (.cons (.con (.int 0)) .nil)) (.var 1)))
 (.cons (.asg 4 (.lst (.cons (.tup (.cons (.con (.int 1)) (.cons (.var 1) .nil))) .nil)))
 (.cons (.whl (.cmp .NotEq (.var 4) (.lst .nil))
  (.cons (.unp [8, 9] (.mth "pop" (.var 4) .nil))
  (.cons (.asg 5 (.blt "int" (.cons (.call "_law_next" (.cons (.var 0) .nil) [] .nil) .nil)))
  (.cons (.asg 6 (.bin .Add (.var 8) (.bin .Mod (.bin .FloorDiv (.blt "int" (.cons (.var 5) .nil)) (.con (.int 4))) (.bin .Add (.bin .Sub (.var 9) (.var 8)) (.con (.int 1))))))
  (.cons (.asg 7 (.idx (.lst (.cons (.var 8) (.cons (.var 9) (.cons (.var 6) (.cons (.var 6) .nil))))) (.bin .Mod (.blt "int" (.cons (.var 5) .nil)) (.con (.int 4)))))
  (.cons (.setI (.var 2) (.bin .Sub (.var 7) (.con (.int 1))) (.bin .Sub (.var 8) (.con (.int 1))))
  (.cons (.setI (.var 3) (.bin .Sub (.var 7) (.con (.int 1))) (.bin .Add (.var 9) (.con (.int 1))))
  (.cons (.asg 4 (.bin .Add (.bin .Add (.var 4) (.bin .Mult (.lst (.cons (.tup (.cons (.var 8) (.cons (.bin .Sub (.var 7) (.con (.int 1))) .nil))) .nil)) (.blt "int" (.cons (.cmp .Lt (.var 8) (.var 7)) .nil)))) (.bin .Mult (.lst (.cons (.tup (.cons (.bin .Add (.var 7) (.con (.int 1))) (.cons (.var 9) .nil))) .nil)) (.blt "int" (.cons (.cmp .Lt (.var 7) (.var 9)) .nil)))))
  .nil))))))))
 (.cons (.ret (.tup (.cons (.var 2) (.cons (.var 3) .nil))))
 .nil)))))⟩
def f_parting : Fn := ⟨["pair", "other"], ["pair", "other"],
  (.cons (.expr (.call "check_pair" (.cons (.var 0) .nil) [] .nil))
 (.cons (.expr (.call "check_pair" (.cons (.var 1) .nil) [] .nil))
 (.cons (.expr (.call "check_equal" (.cons (.var 0) (.cons (.var 1) .nil)) [] .nil))
 (.cons (.ret (.call "parted" (.cons (.call "sums_of" (.cons (.var 0) .nil) [] .nil) (.cons (.call "sums_of" (.cons (.var 1) .nil) [] .nil) .nil)) [] .nil))
 .nil))))⟩
def f_law_other : Fn := ⟨["_law_draws_here", "_law_a_pair"], ["_law_draws_here", "_law_a_pair", "_law_kind", "_law_told", "_law_turn", "_law_many", "_law_falls", "_law_some", "_law_k"],
  (.cons (.asg 2 (.bin .Mod (.blt "int" (.cons (.call "_law_next" (.cons (.var 0) .nil) [] .nil) .nil)) (.con (.int 4))))
 (.cons (.ife (.cmp .Eq (.var 2) (.con (.int 0)))
  (.cons (.ret (.call "_law_bent" (.cons (.var 0) (.cons (.var 1) .nil)) [] .nil))
  .nil)
  .nil)
 (.cons (.ife (.cmp .Eq (.var 2) (.con (.int 1)))
  (.cons (.asg 5 (.blt "len" (.cons (.idx (.var 1) (.con (.int 0))) .nil)))
  (.cons (.asg 6 (.comp (.bin .Mod (.blt "int" (.cons (.call "_law_next" (.cons (.var 0) .nil) [] .nil) .nil)) (.bin .Add (.var 8) (.con (.int 1)))) (.name 8) (.rng (.cons (.var 5) .nil)) .no [("_law_k", 8)]))
  (.cons (.ret (.tup (.cons (.var 6) (.cons (.comp (.bin .Add (.bin .Add (.var 8) (.con (.int 2))) (.bin .Mod (.blt "int" (.cons (.call "_law_next" (.cons (.var 0) .nil) [] .nil) .nil)) (.bin .Sub (.var 5) (.var 8)))) (.name 8) (.rng (.cons (.var 5) .nil)) .no [("_law_k", 8)]) .nil))))
  .nil)))
  .nil)
 (.cons (.asg 3 (.tup (.cons (.blt "list" (.cons (.idx (.var 1) (.con (.int 0))) .nil)) (.cons (.blt "list" (.cons (.idx (.var 1) (.con (.int 1))) .nil)) .nil))))
 (.cons (.forI (.name 4) (.rng (.cons (.bin .Mod (.blt "int" (.cons (.call "_law_next" (.cons (.var 0) .nil) [] .nil) .nil)) (.con (.int 6))) .nil))
  (.cons (.asg 7 (.call "_law_moves" (.cons (.var 3) .nil) [] .nil))
  (.cons (.asg 3 (.ite (.cmp .NotEq (.var 7) (.lst .nil)) (.call "_law_moved" (.cons (.var 3) (.cons (.idx (.var 7) (.bin .Mod (.blt "int" (.cons (.call "_law_next" (.cons (.var 0) .nil) [] .nil) .nil)) (.blt "len" (.cons (.var 7) .nil)))) .nil)) [] .nil) (.var 3)))
  .nil)))
 (.cons (.ret (.ite (.cmp .Eq (.var 2) (.con (.int 2))) (.var 3) (.call "_law_bent" (.cons (.var 0) (.cons (.var 3) .nil)) [] .nil)))
 .nil))))))⟩
def f_gone_on : Fn := ⟨["down", "up", "row", "link"], ["down", "up", "row", "link", "left", "more", "place"],
  (.cons (.asg 4 (.blt "list" (.cons (.var 2) .nil)))
 (.cons (.ife (.cmp .Gt (.var 3) (.con (.int 0)))
  (.cons (.augI (.var 4) (.bin .Sub (.var 3) (.con (.int 1))) .Sub (.con (.int 1)))
  .nil)
  .nil)
 (.cons (.asg 5 (.blt "list" (.cons (.var 1) .nil)))
 (.cons (.forI (.name 6) (.rng (.cons (.blt "len" (.cons (.var 1) .nil)) (.cons (.con (.int 0)) (.cons (.neg (.con (.int 1))) .nil))))
  (.cons (.ife (.cmp .Eq (.idx (.var 4) (.bin .Sub (.var 6) (.con (.int 1)))) (.con (.int 0)))
   (.cons .cont
   .nil)
   .nil)
  (.cons (.ife (.or (.cmp .NotEq (.idx (.var 4) (.bin .Sub (.var 6) (.con (.int 1)))) (.con (.int 1))) (.cmp .NotEq (.idx (.var 1) (.bin .Sub (.var 6) (.con (.int 1)))) (.con (.int 0))))
   (.cons (.ret (.con .none))
   .nil)
   .nil)
  (.cons (.setI (.var 5) (.bin .Sub (.var 6) (.con (.int 1))) (.bin .Add (.blt "len" (.cons (.var 1) .nil)) (.con (.int 1))))
  (.cons (.ife (.cmp .Gt (.idx (.var 0) (.bin .Sub (.var 6) (.con (.int 1)))) (.con (.int 0)))
   (.cons (.augI (.var 4) (.bin .Sub (.idx (.var 0) (.bin .Sub (.var 6) (.con (.int 1)))) (.con (.int 1))) .Add (.con (.int 1)))
   .nil)
   .nil)
  .nil)))))
 (.cons (.ret (.tup (.cons (.bin .Add (.var 0) (.lst (.cons (.var 3) .nil))) (.cons (.bin .Add (.var 5) (.lst (.cons (.con (.int 0)) .nil))) .nil))))
 .nil)))))⟩
def f_right_totals : Fn := ⟨["pair", "totals"], ["pair", "totals", "steps", "row", "total", "before", "number", "step"],
  (.cons (.expr (.call "check_pair" (.cons (.var 0) .nil) [] .nil))
 (.cons (.expr (.call "check_values" (.cons (.var 1) (.cons (.blt "len" (.cons (.idx (.var 0) (.con (.int 0))) .nil)) .nil)) [] .nil))
 (.cons (.asg 2 (.comp (.bin .Sub (.var 4) (.var 5)) (.tup [4, 5]) (.zip (.var 1) (.bin .Add (.lst (.cons (.con (.int 0)) .nil)) (.var 1))) .no [("total", 4), ("before", 5)]))
 (.cons (.ret (.comp (.blt "sum" (.cons (.comp (.bin .Mult (.var 6) (.var 7)) (.tup [6, 7]) (.zip (.var 3) (.var 2)) .no [("number", 6), ("step", 7)]) .nil)) (.name 3) (.seq (.call "covers_of" (.cons (.var 0) .nil) [] .nil)) .no [("row", 3)]))
 .nil))))⟩
def f_right_changes : Fn := ⟨["pair", "place", "more"], ["pair", "place", "more", "column", "row", "before", "number"],
  (.cons (.expr (.call "check_pair" (.cons (.var 0) .nil) [] .nil))
 (.cons (.expr (.call "check_place" (.cons (.var 1) (.cons (.blt "len" (.cons (.idx (.var 0) (.con (.int 0))) .nil)) .nil)) [] .nil))
 (.cons (.ife (.not (.val (.call "is_whole" (.cons (.var 2) .nil) [] .nil)))
  (.cons .never
  .nil)
  .nil)
 (.cons (.asg 3 (.bin .Add (.lst (.cons (.con (.int 0)) .nil)) (.comp (.idx (.var 4) (.bin .Sub (.var 1) (.con (.int 1)))) (.name 4) (.seq (.call "covers_of" (.cons (.var 0) .nil) [] .nil)) .no [("row", 4)])))
 (.cons (.ret (.comp (.bin .Mult (.var 2) (.bin .Sub (.var 6) (.var 5))) (.tup [5, 6]) (.zip (.var 3) (.sl1 (.var 3) (.con (.int 1)))) .no [("before", 5), ("number", 6)]))
 .nil)))))⟩
def f_root_of : Fn := ⟨["pair", "low", "high"], ["pair", "low", "high", "down", "up", "place"],
  (.cons (.unp [3, 4] (.var 0))
 (.cons (.ret (.idx (.comp (.var 5) (.name 5) (.rng (.cons (.var 1) (.cons (.bin .Add (.var 2) (.con (.int 1))) .nil))) (.one (.cmp .Eq (.tup (.cons (.idx (.var 3) (.bin .Sub (.var 5) (.con (.int 1)))) (.cons (.idx (.var 4) (.bin .Sub (.var 5) (.con (.int 1)))) .nil))) (.tup (.cons (.bin .Sub (.var 1) (.con (.int 1))) (.cons (.bin .Add (.var 2) (.con (.int 1))) .nil))))) [("place", 5)]) (.con (.int 0))))
 .nil))⟩
def f_tree_in : Fn := ⟨["pair", "low", "high"], ["pair", "low", "high", "root"],
  (.cons (.ife (.cmp .Gt (.var 1) (.var 2))
  (.cons (.ret (.con .none))
  .nil)
  .nil)
 (.cons (.asg 3 (.call "root_of" (.cons (.var 0) (.cons (.var 1) (.cons (.var 2) .nil))) [] .nil))
 (.cons (.ret (.tup (.cons (.call "tree_in" (.cons (.var 0) (.cons (.var 1) (.cons (.bin .Sub (.var 3) (.con (.int 1))) .nil))) [] .nil) (.cons (.var 3) (.cons (.call "tree_in" (.cons (.var 0) (.cons (.bin .Add (.var 3) (.con (.int 1))) (.cons (.var 2) .nil))) [] .nil) .nil)))))
 .nil)))⟩
def f_tree_of : Fn := ⟨["pair"], ["pair"],
  (.cons (.expr (.call "check_pair" (.cons (.var 0) .nil) [] .nil))
 (.cons (.expr (.call "check_right" (.cons (.var 0) .nil) [] .nil))
 (.cons (.ret (.call "tree_in" (.cons (.var 0) (.cons (.con (.int 1)) (.cons (.blt "len" (.cons (.idx (.var 0) (.con (.int 0))) .nil)) .nil))) [] .nil))
 .nil)))⟩
def f_spread : Fn := ⟨["tree"], ["tree", "told", "left", "part"],
  (.cons (.par [1, 2] (.cons (.lst .nil) (.cons (.lst (.cons (.var 0) .nil)) .nil)))
 (.cons (.whl (.cmp .NotEq (.var 2) (.lst .nil))
  (.cons (.asg 3 (.mth "pop" (.var 2) .nil))
  (.cons (.ife (.val (.call "is_whole" (.cons (.var 3) .nil) [] .nil))
   (.cons (.expr (.mth "append" (.var 1) (.cons (.var 3) .nil)))
   .nil)
   (.cons (.ife (.cmp .IsNot (.var 3) (.con .none))
    (.cons (.expr (.call "check_knot" (.cons (.var 3) .nil) [] .nil))
    (.cons (.aug 2 .Add (.lst (.cons (.idx (.var 3) (.con (.int 2))) (.cons (.idx (.var 3) (.con (.int 1))) (.cons (.idx (.var 3) (.con (.int 0))) .nil)))))
    .nil))
    .nil)
   .nil))
  (.cons (.ife (.or (.cmp .Gt (.blt "len" (.cons (.var 1) .nil)) (.glb "MOST_PLACES")) (.cmp .Gt (.blt "len" (.cons (.var 2) .nil)) (.bin .Mult (.con (.int 3)) (.glb "MOST_PLACES"))))
   (.cons .never
   .nil)
   .nil)
  .nil))))
 (.cons (.ret (.var 1))
 .nil)))⟩
def f_check_knot : Fn := ⟨["thing"], ["thing", "part"],
  (.cons (.ife (.or (.not (.val (.isi (.var 0) "tuple"))) (.or (.cmp .NotEq (.blt "len" (.cons (.var 0) .nil)) (.con (.int 3))) (.not (.val (.call "is_whole" (.cons (.idx (.var 0) (.con (.int 1))) .nil) [] .nil)))))
  (.cons .never
  .nil)
  .nil)
 (.cons (.ife (.not (.val (.blt "all" (.cons (.comp (.or (.cmp .Is (.var 1) (.con .none)) (.isi (.var 1) "tuple")) (.name 1) (.seq (.tup (.cons (.idx (.var 0) (.con (.int 0))) (.cons (.idx (.var 0) (.con (.int 2))) .nil)))) .no [("part", 1)]) .nil))))
  (.cons .never
  .nil)
  .nil)
 .nil))⟩
def f_put_links : Fn := ⟨["tree", "low", "high", "down", "up"], ["tree", "low", "high", "down", "up", "left", "root", "right"],
  (.cons (.ife (.cmp .IsNot (.var 0) (.con .none))
  (.cons (.unp [5, 6, 7] (.var 0))
  (.cons (.setI (.var 3) (.bin .Sub (.var 6) (.con (.int 1))) (.bin .Sub (.var 1) (.con (.int 1))))
  (.cons (.setI (.var 4) (.bin .Sub (.var 6) (.con (.int 1))) (.bin .Add (.var 2) (.con (.int 1))))
  (.cons (.expr (.call "put_links" (.cons (.var 5) (.cons (.var 1) (.cons (.bin .Sub (.var 6) (.con (.int 1))) (.cons (.var 3) (.cons (.var 4) .nil))))) [] .nil))
  (.cons (.expr (.call "put_links" (.cons (.var 7) (.cons (.bin .Add (.var 6) (.con (.int 1))) (.cons (.var 2) (.cons (.var 3) (.cons (.var 4) .nil))))) [] .nil))
  .nil)))))
  .nil)
 .nil)⟩
def f_pair_of : Fn := ⟨["tree"], ["tree", "places", "down", "up", "place"],
  (.cons (.asg 1 (.call "spread" (.cons (.ite (.val (.call "is_whole" (.cons (.var 0) .nil) [] .nil)) (.con .none) (.var 0)) .nil) [] .nil))
 (.cons (.ife (.or (.cmp .Eq (.var 1) (.lst .nil)) (.cmp .NotEq (.var 1) (.lrg (.cons (.con (.int 1)) (.cons (.bin .Add (.blt "len" (.cons (.var 1) .nil)) (.con (.int 1))) .nil)))))
  (.cons .never
  .nil)
  .nil)
 (.cons (.par [2, 3] (.cons (.comp (.con (.int 0)) (.name 4) (.seq (.var 1)) .no [("place", 4)]) (.cons (.comp (.con (.int 0)) (.name 4) (.seq (.var 1)) .no [("place", 4)]) .nil)))
 (.cons (.expr (.call "put_links" (.cons (.var 0) (.cons (.con (.int 1)) (.cons (.blt "len" (.cons (.var 1) .nil)) (.cons (.var 2) (.cons (.var 3) .nil))))) [] .nil))
 (.cons (.ret (.tup (.cons (.var 2) (.cons (.var 3) .nil))))
 .nil)))))⟩
def f_law_nested : Fn := ⟨["_law_roots", "_law_low", "_law_high"], ["_law_roots", "_law_low", "_law_high", "_law_root"],
  (.cons (.ife (.cmp .Gt (.var 1) (.var 2))
  (.cons (.ret (.con .none))
  .nil)
  .nil)
 (.cons (.asg 3 (.idx (.var 0) (.tup (.cons (.var 1) (.cons (.var 2) .nil)))))
 (.cons (.ret (.tup (.cons (.call "_law_nested" (.cons (.var 0) (.cons (.var 1) (.cons (.bin .Sub (.var 3) (.con (.int 1))) .nil))) [] .nil) (.cons (.var 3) (.cons (.call "_law_nested" (.cons (.var 0) (.cons (.bin .Add (.var 3) (.con (.int 1))) (.cons (.var 2) .nil))) [] .nil) .nil)))))
 .nil)))⟩
def f_downs_of : Fn := ⟨["up"], ["up", "told", "index", "link", "other"],
  (.cons (.asg 1 (.lst .nil))
 (.cons (.forI (.tup [2, 3]) (.enm (.var 0))
  (.cons (.ife (.cmp .NotEq (.comp (.var 4) (.name 4) (.seq (.sl2 (.var 0) (.bin .Add (.var 2) (.con (.int 1))) (.bin .Sub (.var 3) (.con (.int 1))))) (.one (.cmp .Gt (.var 4) (.var 3))) [("other", 4)]) (.lst .nil))
   (.cons (.ret (.con .none))
   .nil)
   .nil)
  (.cons (.expr (.mth "append" (.var 1) (.cons (.blt "max" (.cons (.bin .Add (.lst (.cons (.con (.int 0)) .nil)) (.comp (.bin .Add (.var 4) (.con (.int 1))) (.name 4) (.rng (.cons (.var 2) .nil)) (.one (.cmp .Gt (.idx (.var 0) (.var 4)) (.bin .Add (.var 2) (.con (.int 1))))) [("other", 4)])) .nil)) .nil)))
  .nil)))
 (.cons (.ret (.var 1))
 .nil)))⟩
def f_up_for : Fn := ⟨["down"], ["down"],
  (.cons (.expr (.call "check_down" (.cons (.var 0) .nil) [] .nil))
 (.cons (.ret (.call "ups_of" (.cons (.var 0) .nil) [] .nil))
 .nil))⟩
def f_down_for : Fn := ⟨["up"], ["up"],
  (.cons (.expr (.call "check_up" (.cons (.var 0) .nil) [] .nil))
 (.cons (.ret (.call "downs_of" (.cons (.var 0) .nil) [] .nil))
 .nil))⟩
def f_depths : Fn := ⟨["pair"], ["pair", "down", "up", "place"],
  (.cons (.expr (.call "check_pair" (.cons (.var 0) .nil) [] .nil))
 (.cons (.expr (.call "check_right" (.cons (.var 0) .nil) [] .nil))
 (.cons (.unp [1, 2] (.var 0))
 (.cons (.ret (.comp (.bin .Sub (.bin .Add (.blt "len" (.cons (.call "steps_down" (.cons (.var 1) (.cons (.var 3) .nil)) [] .nil) .nil)) (.blt "len" (.cons (.call "steps_up" (.cons (.var 2) (.cons (.var 3) .nil)) [] .nil) .nil))) (.con (.int 1))) (.name 3) (.rng (.cons (.con (.int 1)) (.cons (.bin .Add (.blt "len" (.cons (.var 1) .nil)) (.con (.int 1))) .nil))) .no [("place", 3)]))
 .nil))))⟩
def f_wall : Fn := ⟨["k"], ["k"],
  (.cons (.whl (.val (.con (.bool true)))
  (.cons .pass
  .nil))
 .nil)⟩
def f_check_places : Fn := ⟨["places"], ["places"],
  (.cons (.ife (.or (.not (.val (.call "is_whole" (.cons (.var 0) .nil) [] .nil))) (.not (.chn .LtE .LtE (.con (.int 1)) (.var 0) (.glb "MOST_PLACES"))))
  (.cons .never
  .nil)
  .nil)
 .nil)⟩
def f_by_depth : Fn := ⟨["pair"], ["pair", "depths", "down", "up", "place", "depth", "index"],
  (.cons (.unp [2, 3] (.var 0))
 (.cons (.asg 1 (.comp (.bin .Add (.blt "len" (.cons (.call "steps_down" (.cons (.var 2) (.cons (.var 4) .nil)) [] .nil) .nil)) (.blt "len" (.cons (.call "steps_up" (.cons (.var 3) (.cons (.var 4) .nil)) [] .nil) .nil))) (.name 4) (.rng (.cons (.con (.int 1)) (.cons (.bin .Add (.blt "len" (.cons (.var 2) .nil)) (.con (.int 1))) .nil))) .no [("place", 4)]))
 (.cons (.ret (.comp (.var 4) (.tup [5, 4]) (.seq (.blt "sorted" (.cons (.comp (.tup (.cons (.var 5) (.cons (.bin .Add (.var 6) (.con (.int 1))) .nil))) (.tup [6, 5]) (.enm (.var 1)) .no [("index", 6), ("depth", 5)]) .nil))) .no [("depth", 5), ("place", 4)]))
 .nil)))⟩
def f_choices : Fn := ⟨["many", "some"], ["many", "some", "number", "step"],
  (.cons (.asg 2 (.con (.int 1)))
 (.cons (.forI (.name 3) (.rng (.cons (.var 1) .nil))
  (.cons (.asg 2 (.bin .FloorDiv (.bin .Mult (.var 2) (.bin .Sub (.var 0) (.var 3))) (.bin .Add (.var 3) (.con (.int 1)))))
  .nil))
 (.cons (.ret (.var 2))
 .nil)))⟩
def f_trees_with : Fn := ⟨["places"], ["places"],
  (.cons (.ret (.bin .FloorDiv (.call "choices" (.cons (.bin .Mult (.con (.int 2)) (.var 0)) (.cons (.var 0) .nil)) [] .nil) (.bin .Add (.var 0) (.con (.int 1)))))
 .nil)⟩
def f_pair_number : Fn := ⟨["pair"], ["pair", "up", "number", "index", "link", "lesser"],
  (.cons (.expr (.call "check_pair" (.cons (.var 0) .nil) [] .nil))
 (.cons (.expr (.call "check_right" (.cons (.var 0) .nil) [] .nil))
 (.cons (.unp [1, 2] (.tup (.cons (.idx (.var 0) (.con (.int 1))) (.cons (.con (.int 0)) .nil))))
 (.cons (.forI (.tup [3, 4]) (.enm (.var 1))
  (.cons (.aug 2 .Add (.blt "sum" (.cons (.comp (.call "ways_on" (.cons (.bin .Add (.sl0 (.var 1) (.var 3)) (.lst (.cons (.var 5) .nil))) (.cons (.blt "len" (.cons (.var 1) .nil)) .nil)) [] .nil) (.name 5) (.rng (.cons (.bin .Add (.var 3) (.con (.int 2))) (.cons (.var 4) .nil))) .no [("lesser", 5)]) .nil)))
  .nil))
 (.cons (.ret (.var 2))
 .nil)))))⟩
def f_turned : Fn := ⟨["pair"], ["pair", "most", "link"],
  (.cons (.expr (.call "check_pair" (.cons (.var 0) .nil) [] .nil))
 (.cons (.asg 1 (.bin .Add (.blt "len" (.cons (.idx (.var 0) (.con (.int 0))) .nil)) (.con (.int 1))))
 (.cons (.ret (.tup (.cons (.comp (.bin .Sub (.var 1) (.var 2)) (.name 2) (.seq (.rev (.idx (.var 0) (.con (.int 1))))) .no [("link", 2)]) (.cons (.comp (.bin .Sub (.var 1) (.var 2)) (.name 2) (.seq (.rev (.idx (.var 0) (.con (.int 0))))) .no [("link", 2)]) .nil))))
 .nil)))⟩
def f_forward_in : Fn := ⟨["pair"], ["pair", "some", "down", "up", "index", "link", "first", "second"],
  (.cons (.unp [2, 3] (.var 0))
 (.cons (.asg 1 (.comp (.tup (.cons (.bin .Add (.var 4) (.con (.int 1))) (.cons (.var 5) .nil))) (.tup [4, 5]) (.enm (.var 3)) (.one (.cmp .LtE (.var 5) (.blt "len" (.cons (.var 3) .nil)))) [("index", 4), ("link", 5)]))
 (.cons (.ret (.comp (.tup (.cons (.var 6) (.cons (.var 7) .nil))) (.tup [6, 7]) (.seq (.var 1)) (.one (.cmp .Eq (.idx (.var 2) (.bin .Sub (.var 6) (.con (.int 1)))) (.idx (.var 2) (.bin .Sub (.var 7) (.con (.int 1)))))) [("first", 6), ("second", 7)]))
 .nil)))⟩
def f_back_in : Fn := ⟨["pair"], ["pair", "some", "down", "up", "index", "link", "first", "second"],
  (.cons (.unp [2, 3] (.var 0))
 (.cons (.asg 1 (.comp (.tup (.cons (.var 5) (.cons (.bin .Add (.var 4) (.con (.int 1))) .nil))) (.tup [4, 5]) (.enm (.var 2)) (.one (.cmp .Gt (.var 5) (.con (.int 0)))) [("index", 4), ("link", 5)]))
 (.cons (.ret (.blt "sorted" (.cons (.comp (.tup (.cons (.var 6) (.cons (.var 7) .nil))) (.tup [6, 7]) (.seq (.var 1)) (.one (.cmp .Eq (.idx (.var 3) (.bin .Sub (.var 6) (.con (.int 1)))) (.idx (.var 3) (.bin .Sub (.var 7) (.con (.int 1)))))) [("first", 6), ("second", 7)]) .nil)))
 .nil)))⟩
def f_forward_moves : Fn := ⟨["pair"], ["pair"],
  (.cons (.expr (.call "check_pair" (.cons (.var 0) .nil) [] .nil))
 (.cons (.ret (.call "forward_in" (.cons (.var 0) .nil) [] .nil))
 .nil))⟩
def f_back_moves : Fn := ⟨["pair"], ["pair"],
  (.cons (.expr (.call "check_pair" (.cons (.var 0) .nil) [] .nil))
 (.cons (.ret (.call "back_in" (.cons (.var 0) .nil) [] .nil))
 .nil))⟩
def f_gone_forward : Fn := ⟨["pair", "move"], ["pair", "move", "down", "up", "first", "second"],
  (.cons (.par [2, 3] (.cons (.blt "list" (.cons (.idx (.var 0) (.con (.int 0))) .nil)) (.cons (.blt "list" (.cons (.idx (.var 0) (.con (.int 1))) .nil)) .nil)))
 (.cons (.unp [4, 5] (.var 1))
 (.cons (.setI (.var 3) (.bin .Sub (.var 4) (.con (.int 1))) (.idx (.var 3) (.bin .Sub (.var 5) (.con (.int 1)))))
 (.cons (.setI (.var 2) (.bin .Sub (.var 5) (.con (.int 1))) (.var 4))
 (.cons (.ret (.tup (.cons (.var 2) (.cons (.var 3) .nil))))
 .nil)))))⟩
def f_gone_back : Fn := ⟨["pair", "move"], ["pair", "move", "down", "up", "first", "second"],
  (.cons (.par [2, 3] (.cons (.blt "list" (.cons (.idx (.var 0) (.con (.int 0))) .nil)) (.cons (.blt "list" (.cons (.idx (.var 0) (.con (.int 1))) .nil)) .nil)))
 (.cons (.unp [4, 5] (.var 1))
 (.cons (.setI (.var 3) (.bin .Sub (.var 4) (.con (.int 1))) (.var 5))
 (.cons (.setI (.var 2) (.bin .Sub (.var 5) (.con (.int 1))) (.idx (.var 2) (.bin .Sub (.var 4) (.con (.int 1)))))
 (.cons (.ret (.tup (.cons (.var 2) (.cons (.var 3) .nil))))
 .nil)))))⟩
def f_moved : Fn := ⟨["pair", "move"], ["pair", "move", "place"],
  (.cons (.expr (.call "check_pair" (.cons (.var 0) .nil) [] .nil))
 (.cons (.ife (.or (.not (.val (.isi (.var 1) "tuple"))) (.not (.val (.blt "all" (.cons (.comp (.call "is_whole" (.cons (.var 2) .nil) [] .nil) (.name 2) (.seq (.var 1)) .no [("place", 2)]) .nil)))))
  (.cons .never
  .nil)
  .nil)
 (.cons (.ife (.cmp .In (.var 1) (.call "forward_in" (.cons (.var 0) .nil) [] .nil))
  (.cons (.ret (.call "gone_forward" (.cons (.var 0) (.cons (.var 1) .nil)) [] .nil))
  .nil)
  .nil)
 (.cons (.ife (.cmp .In (.var 1) (.call "back_in" (.cons (.var 0) .nil) [] .nil))
  (.cons (.ret (.call "gone_back" (.cons (.var 0) (.cons (.var 1) .nil)) [] .nil))
  .nil)
  .nil)
 (.cons .never
 .nil)))))⟩
def f_law_pairs : Fn := ⟨["_law_many"], ["_law_many", "_law_told", "_law_size", "_law_row", "_law_root", "_law_left", "_law_right", "_law_falls", "_law_link"],
  (.cons (.asg 1 (.lst (.cons (.lst (.cons (.tup (.cons (.lst .nil) (.cons (.lst .nil) .nil))) .nil)) .nil)))
 (.cons (.forI (.name 2) (.rng (.cons (.con (.int 1)) (.cons (.bin .Add (.var 0) (.con (.int 1))) .nil)))
  (.cons (.asg 3 (.lst .nil))
  (.cons (.forI (.name 4) (.rng (.cons (.var 2) .nil))
   (.cons (.forI (.name 5) (.seq (.idx (.var 1) (.var 4)))
    (.cons (.forI (.name 6) (.seq (.idx (.var 1) (.bin .Sub (.bin .Sub (.var 2) (.con (.int 1))) (.var 4))))
     (.cons (.asg 7 (.bin .Add (.bin .Add (.idx (.var 5) (.con (.int 0))) (.lst (.cons (.con (.int 0)) .nil))) (.comp (.bin .Add (.bin .Add (.var 8) (.var 4)) (.con (.int 1))) (.name 8) (.seq (.idx (.var 6) (.con (.int 0)))) .no [("_law_link", 8)])))
     (.cons (.expr (.mth "append" (.var 3) (.cons (.tup (.cons (.var 7) (.cons (.bin .Add (.bin .Add (.idx (.var 5) (.con (.int 1))) (.lst (.cons (.bin .Add (.var 2) (.con (.int 1))) .nil))) (.comp (.bin .Add (.bin .Add (.var 8) (.var 4)) (.con (.int 1))) (.name 8) (.seq (.idx (.var 6) (.con (.int 1)))) .no [("_law_link", 8)])) .nil))) .nil)))
     .nil)))
    .nil))
   .nil))
  (.cons (.expr (.mth "append" (.var 1) (.cons (.var 3) .nil)))
  .nil))))
 (.cons (.ret (.idx (.var 1) (.var 0)))
 .nil)))⟩
def f_check_number : Fn := ⟨["number"], ["number"],
  (.cons (.ife (.not (.val (.call "is_whole" (.cons (.var 0) .nil) [] .nil)))
  (.cons .never
  .nil)
  .nil)
 .nil)⟩
def f_power_in : Fn := ⟨["number"], ["number", "power"],
  (.cons (.asg 1 (.con (.int 1)))
 (.cons (.whl (.cmp .Eq (.bin .Mod (.var 0) (.bin .Mult (.con (.int 2)) (.var 1))) (.con (.int 0)))
  (.cons (.aug 1 .Mult (.con (.int 2)))
  .nil))
 (.cons (.ret (.var 1))
 .nil)))⟩
def f_limits_of : Fn := ⟨["down"], ["down", "told", "index", "after", "place"],
  (.cons (.asg 1 (.lst .nil))
 (.cons (.forI (.name 2) (.rng (.cons (.blt "len" (.cons (.var 0) .nil)) .nil))
  (.cons (.asg 3 (.comp (.bin .Add (.var 4) (.con (.int 1))) (.name 4) (.rng (.cons (.bin .Add (.var 2) (.con (.int 1))) (.cons (.blt "len" (.cons (.var 0) .nil)) .nil))) (.one (.cmp .LtE (.idx (.var 0) (.var 4)) (.var 2))) [("place", 4)]))
  (.cons (.expr (.mth "append" (.var 1) (.cons (.idx (.bin .Add (.var 3) (.lst (.cons (.bin .Add (.blt "len" (.cons (.var 0) .nil)) (.con (.int 1))) .nil))) (.con (.int 0))) .nil)))
  .nil)))
 (.cons (.ret (.var 1))
 .nil)))⟩
def f_never_misses : Fn := ⟨["pair"], ["pair", "link", "limit"],
  (.cons (.expr (.call "check_pair" (.cons (.var 0) .nil) [] .nil))
 (.cons (.ret (.blt "all" (.cons (.comp (.cmp .LtE (.var 1) (.var 2)) (.tup [1, 2]) (.zip (.idx (.var 0) (.con (.int 1))) (.call "limits_of" (.cons (.idx (.var 0) (.con (.int 0))) .nil) [] .nil)) .no [("link", 1), ("limit", 2)]) .nil)))
 .nil))⟩
def f_never_twice : Fn := ⟨["pair"], ["pair", "place", "step"],
  (.cons (.expr (.call "check_pair" (.cons (.var 0) .nil) [] .nil))
 (.cons (.forI (.name 1) (.rng (.cons (.con (.int 1)) (.cons (.bin .Add (.blt "len" (.cons (.idx (.var 0) (.con (.int 0))) .nil)) (.con (.int 1))) .nil)))
  (.cons (.ife (.cmp .NotEq (.comp (.var 2) (.name 2) (.seq (.sl1 (.call "steps_down" (.cons (.idx (.var 0) (.con (.int 0))) (.cons (.var 1) .nil)) [] .nil) (.con (.int 1)))) (.one (.cmp .In (.var 1) (.call "steps_up" (.cons (.idx (.var 0) (.con (.int 1))) (.cons (.var 2) .nil)) [] .nil))) [("step", 2)]) (.lst .nil))
   (.cons (.ret (.con (.bool false)))
   .nil)
   .nil)
  .nil))
 (.cons (.ret (.con (.bool true)))
 .nil)))⟩
def f_joined : Fn := ⟨["left", "right"], ["left", "right", "root", "down", "link"],
  (.cons (.asg 2 (.bin .Add (.blt "len" (.cons (.idx (.var 0) (.con (.int 0))) .nil)) (.con (.int 1))))
 (.cons (.asg 3 (.bin .Add (.bin .Add (.idx (.var 0) (.con (.int 0))) (.lst (.cons (.con (.int 0)) .nil))) (.comp (.bin .Add (.var 4) (.var 2)) (.name 4) (.seq (.idx (.var 1) (.con (.int 0)))) .no [("link", 4)])))
 (.cons (.ret (.tup (.cons (.var 3) (.cons (.bin .Add (.bin .Add (.idx (.var 0) (.con (.int 1))) (.lst (.cons (.bin .Add (.bin .Add (.var 2) (.blt "len" (.cons (.idx (.var 1) (.con (.int 0))) .nil))) (.con (.int 1))) .nil))) (.comp (.bin .Add (.var 4) (.var 2)) (.name 4) (.seq (.idx (.var 1) (.con (.int 1)))) .no [("link", 4)])) .nil))))
 .nil)))⟩
def f_count_right : Fn := ⟨["places"], ["places"],
  (.cons (.expr (.call "check_places" (.cons (.var 0) .nil) [] .nil))
 (.cons (.ret (.call "trees_with" (.cons (.var 0) .nil) [] .nil))
 .nil))⟩
def f_within : Fn := ⟨["places", "down_most", "up_most", "known"], ["places", "down_most", "up_most", "known", "key", "number", "root", "left"],
  (.cons (.ife (.cmp .Eq (.var 0) (.con (.int 0)))
  (.cons (.ret (.con (.int 1)))
  .nil)
  .nil)
 (.cons (.ife (.or (.cmp .Eq (.var 1) (.con (.int 0))) (.cmp .Eq (.var 2) (.con (.int 0))))
  (.cons (.ret (.con (.int 0)))
  .nil)
  .nil)
 (.cons (.asg 4 (.tup (.cons (.var 0) (.cons (.var 1) (.cons (.var 2) .nil)))))
 (.cons (.ife (.cmp .NotIn (.var 4) (.var 3))
  (.cons (.asg 5 (.con (.int 0)))
  (.cons (.forI (.name 6) (.rng (.cons (.var 0) .nil))
   (.cons (.asg 7 (.call "within" (.cons (.var 6) (.cons (.var 1) (.cons (.bin .Sub (.var 2) (.con (.int 1))) (.cons (.var 3) .nil)))) [] .nil))
   (.cons (.aug 5 .Add (.bin .Mult (.var 7) (.call "within" (.cons (.bin .Sub (.bin .Sub (.var 0) (.con (.int 1))) (.var 6)) (.cons (.bin .Sub (.var 1) (.con (.int 1))) (.cons (.var 2) (.cons (.var 3) .nil)))) [] .nil)))
   .nil)))
  (.cons (.setI (.var 3) (.var 4) (.var 5))
  .nil)))
  .nil)
 (.cons (.ret (.idx (.var 3) (.var 4)))
 .nil)))))⟩
def f_most_places : Fn := ⟨["down_most", "up_most"], ["down_most", "up_most"],
  (.cons (.expr (.call "check_places" (.cons (.var 0) .nil) [] .nil))
 (.cons (.expr (.call "check_places" (.cons (.var 1) .nil) [] .nil))
 (.cons (.ret (.bin .Sub (.call "choices" (.cons (.bin .Add (.var 0) (.var 1)) (.cons (.var 0) .nil)) [] .nil) (.con (.int 1))))
 .nil)))⟩
def f_fullest : Fn := ⟨["down_most", "up_most"], ["down_most", "up_most"],
  (.cons (.ife (.or (.cmp .Eq (.var 0) (.con (.int 0))) (.cmp .Eq (.var 1) (.con (.int 0))))
  (.cons (.ret (.tup (.cons (.lst .nil) (.cons (.lst .nil) .nil))))
  .nil)
  .nil)
 (.cons (.ret (.call "joined" (.cons (.call "fullest" (.cons (.var 0) (.cons (.bin .Sub (.var 1) (.con (.int 1))) .nil)) [] .nil) (.cons (.call "fullest" (.cons (.bin .Sub (.var 0) (.con (.int 1))) (.cons (.var 1) .nil)) [] .nil) .nil)) [] .nil))
 .nil))⟩
def f_fullest_pair : Fn := ⟨["down_most", "up_most"], ["down_most", "up_most", "number"],
  (.cons (.asg 2 (.call "most_places" (.cons (.var 0) (.cons (.var 1) .nil)) [] .nil))
 (.cons (.ife (.cmp .Gt (.var 2) (.glb "MOST_PLACES"))
  (.cons .never
  .nil)
  .nil)
 (.cons (.ret (.call "fullest" (.cons (.var 0) (.cons (.var 1) .nil)) [] .nil))
 .nil)))⟩
def f_law_count : Fn := ⟨["_law_links", "_law_one", "_law_two"], ["_law_links", "_law_one", "_law_two", "_law_walk", "_law_spot"],
  (.cons (.asg 3 (.call "_law_down" (.cons (.idx (.var 0) (.con (.int 0))) (.cons (.var 1) .nil)) [] .nil))
 (.cons (.ret (.blt "len" (.cons (.comp (.var 4) (.name 4) (.seq (.call "_law_up" (.cons (.idx (.var 0) (.con (.int 1))) (.cons (.var 2) .nil)) [] .nil)) (.one (.cmp .In (.var 4) (.var 3))) [("_law_spot", 4)]) .nil)))
 .nil))⟩
def f_law_trees : Fn := ⟨["_law_many"], ["_law_many", "_law_told_here", "_law_size", "_law_row", "_law_root", "_law_ahead", "_law_behind", "_law_more", "_law_further", "_law_one", "_law_link"],
  (.cons (.asg 1 (.lst (.cons (.lst (.cons (.tup (.cons (.lst .nil) (.cons (.lst .nil) .nil))) .nil)) .nil)))
 (.cons (.forI (.name 2) (.rng (.cons (.con (.int 1)) (.cons (.bin .Add (.var 0) (.con (.int 1))) .nil)))
  (.cons (.asg 3 (.lst .nil))
  (.cons (.forI (.name 4) (.rng (.cons (.var 2) .nil))
   (.cons (.forI (.tup [5, 6]) (.seq (.idx (.var 1) (.var 4)))
    (.cons (.forI (.tup [7, 8]) (.seq (.idx (.var 1) (.bin .Sub (.bin .Sub (.var 2) (.con (.int 1))) (.var 4))))
     (.cons (.asg 9 (.bin .Add (.bin .Add (.var 5) (.lst (.cons (.con (.int 0)) .nil))) (.comp (.bin .Add (.bin .Add (.var 10) (.var 4)) (.con (.int 1))) (.name 10) (.seq (.var 7)) .no [("_law_link", 10)])))
     (.cons (.expr (.mth "append" (.var 3) (.cons (.tup (.cons (.bin .Add (.bin .Add (.var 6) (.lst (.cons (.bin .Add (.var 2) (.con (.int 1))) .nil))) (.comp (.bin .Add (.bin .Add (.var 10) (.var 4)) (.con (.int 1))) (.name 10) (.seq (.var 8)) .no [("_law_link", 10)])) (.cons (.var 9) .nil))) .nil)))
     .nil)))
    .nil))
   .nil))
  (.cons (.expr (.mth "append" (.var 1) (.cons (.comp (.tup (.cons (.var 5) (.cons (.var 6) .nil))) (.tup [6, 5]) (.seq (.blt "sorted" (.cons (.var 3) .nil))) .no [("_law_behind", 6), ("_law_ahead", 5)]) .nil)))
  .nil))))
 (.cons (.ret (.idx (.var 1) (.var 0)))
 .nil)))⟩
def f_law_chosen : Fn := ⟨["_law_low", "_law_high"], ["_law_low", "_law_high", "_law_told_here", "_law_step", "_law_at"],
  (.cons (.asg 2 (.bin .Mult (.lst (.cons (.con (.int 1)) .nil)) (.bin .Add (.var 1) (.con (.int 1)))))
 (.cons (.forI (.name 3) (.rng (.cons (.var 0) .nil))
  (.cons (.forI (.name 4) (.rng (.cons (.con (.int 1)) (.cons (.bin .Add (.var 1) (.con (.int 1))) .nil)))
   (.cons (.setI (.var 2) (.var 4) (.bin .Add (.idx (.var 2) (.var 4)) (.idx (.var 2) (.bin .Sub (.var 4) (.con (.int 1))))))
   .nil))
  .nil))
 (.cons (.ret (.idx (.var 2) (.var 1)))
 .nil)))⟩
def f_limits : Fn := ⟨["down"], ["down"],
  (.cons (.expr (.call "check_down" (.cons (.var 0) .nil) [] .nil))
 (.cons (.ret (.call "limits_of" (.cons (.var 0) .nil) [] .nil))
 .nil))⟩
def f_count_never_missing : Fn := ⟨["down"], ["down", "number", "index", "limit"],
  (.cons (.expr (.call "check_down" (.cons (.var 0) .nil) [] .nil))
 (.cons (.asg 1 (.con (.int 1)))
 (.cons (.forI (.tup [2, 3]) (.enm (.call "limits_of" (.cons (.var 0) .nil) [] .nil))
  (.cons (.aug 1 .Mult (.bin .Sub (.bin .Sub (.var 3) (.var 2)) (.con (.int 1))))
  .nil))
 (.cons (.ret (.var 1))
 .nil))))⟩
def f_law_limits : Fn := ⟨["_law_ahead"], ["_law_ahead", "_law_many", "_law_some", "_law_one", "_law_row", "_law_spot"],
  (.cons (.asg 1 (.blt "len" (.cons (.var 0) .nil)))
 (.cons (.asg 2 (.comp (.comp (.var 5) (.name 5) (.rng (.cons (.bin .Add (.var 3) (.con (.int 1))) (.cons (.bin .Add (.var 1) (.con (.int 1))) .nil))) (.one (.cmp .Lt (.idx (.var 0) (.bin .Sub (.var 5) (.con (.int 1)))) (.var 3))) [("_law_spot", 5)]) (.name 3) (.rng (.cons (.con (.int 1)) (.cons (.bin .Add (.var 1) (.con (.int 1))) .nil))) .no [("_law_one", 3)]))
 (.cons (.ret (.comp (.idx (.bin .Add (.var 4) (.lst (.cons (.bin .Add (.var 1) (.con (.int 1))) .nil))) (.con (.int 0))) (.name 4) (.seq (.var 2)) .no [("_law_row", 4)]))
 .nil)))⟩
def f_right_within : Fn := ⟨["pair"], ["pair", "up"],
  (.cons (.ife (.not (.val (.call "never_misses" (.cons (.var 0) .nil) [] .nil)))
  (.cons (.ret (.con .none))
  .nil)
  .nil)
 (.cons (.asg 1 (.call "limits_of" (.cons (.idx (.var 0) (.con (.int 0))) .nil) [] .nil))
 (.cons (.ret (.tup (.cons (.call "downs_of" (.cons (.var 1) .nil) [] .nil) (.cons (.var 1) .nil))))
 .nil)))⟩
def f_check_numbers : Fn := ⟨["numbers", "places"], ["numbers", "places", "index", "number"],
  (.cons (.ife (.or (.not (.val (.isi (.var 0) "list"))) (.cmp .NotEq (.blt "len" (.cons (.var 0) .nil)) (.var 1)))
  (.cons .never
  .nil)
  .nil)
 (.cons (.forI (.tup [2, 3]) (.enm (.var 0))
  (.cons (.ife (.or (.not (.val (.call "is_whole" (.cons (.var 3) .nil) [] .nil))) (.cmp .Lt (.var 3) (.con (.int 0))))
   (.cons .never
   .nil)
   .nil)
  .nil))
 .nil))⟩
def f_check_both : Fn := ⟨["asked", "changed"], ["asked", "changed"],
  (.cons (.ife (.or (.not (.val (.isi (.var 0) "list"))) (.not (.chn .LtE .LtE (.con (.int 1)) (.blt "len" (.cons (.var 0) .nil)) (.glb "MOST_PLACES"))))
  (.cons .never
  .nil)
  .nil)
 (.cons (.expr (.call "check_numbers" (.cons (.var 0) (.cons (.blt "len" (.cons (.var 0) .nil)) .nil)) [] .nil))
 (.cons (.expr (.call "check_numbers" (.cons (.var 1) (.cons (.blt "len" (.cons (.var 0) .nil)) .nil)) [] .nil))
 .nil)))⟩
def f_least_pair : Fn := ⟨["table", "cost", "low", "high"], ["table", "cost", "low", "high", "some", "root"],
  (.cons (.ife (.cmp .Gt (.var 2) (.var 3))
  (.cons (.ret (.tup (.cons (.lst .nil) (.cons (.lst .nil) .nil))))
  .nil)
  .nil)
 (.cons (.asg 4 (.comp (.var 5) (.name 5) (.rng (.cons (.var 2) (.cons (.bin .Add (.var 3) (.con (.int 1))) .nil))) (.one (.cmp .Eq (.call "with_root" (.cons (.var 0) (.cons (.var 1) (.cons (.var 2) (.cons (.var 5) (.cons (.var 3) .nil))))) [] .nil) (.idx (.var 0) (.tup (.cons (.var 2) (.cons (.var 3) .nil)))))) [("root", 5)]))
 (.cons (.ret (.call "joined" (.cons (.call "least_pair" (.cons (.var 0) (.cons (.var 1) (.cons (.var 2) (.cons (.bin .Sub (.idx (.var 4) (.con (.int 0))) (.con (.int 1))) .nil)))) [] .nil) (.cons (.call "least_pair" (.cons (.var 0) (.cons (.var 1) (.cons (.bin .Add (.idx (.var 4) (.con (.int 0))) (.con (.int 1))) (.cons (.var 3) .nil)))) [] .nil) .nil)) [] .nil))
 .nil)))⟩
def f_price : Fn := ⟨["pair", "asked", "changed"], ["pair", "asked", "changed", "number", "index"],
  (.cons (.expr (.call "check_pair" (.cons (.var 0) .nil) [] .nil))
 (.cons (.expr (.call "check_numbers" (.cons (.var 1) (.cons (.blt "len" (.cons (.idx (.var 0) (.con (.int 0))) .nil)) .nil)) [] .nil))
 (.cons (.expr (.call "check_numbers" (.cons (.var 2) (.cons (.blt "len" (.cons (.idx (.var 0) (.con (.int 0))) .nil)) .nil)) [] .nil))
 (.cons (.asg 3 (.con (.int 0)))
 (.cons (.forI (.name 4) (.rng (.cons (.blt "len" (.cons (.var 1) .nil)) .nil))
  (.cons (.aug 3 .Add (.bin .Mult (.idx (.var 1) (.var 4)) (.blt "len" (.cons (.call "steps_down" (.cons (.idx (.var 0) (.con (.int 0))) (.cons (.bin .Add (.var 4) (.con (.int 1))) .nil)) [] .nil) .nil))))
  (.cons (.aug 3 .Add (.bin .Mult (.idx (.var 2) (.var 4)) (.blt "len" (.cons (.call "steps_up" (.cons (.idx (.var 0) (.con (.int 1))) (.cons (.bin .Add (.var 4) (.con (.int 1))) .nil)) [] .nil) .nil))))
  .nil)))
 (.cons (.ret (.var 3))
 .nil))))))⟩
def f_cheapest : Fn := ⟨["asked", "changed"], ["asked", "changed", "cost"],
  (.cons (.expr (.call "check_both" (.cons (.var 0) (.cons (.var 1) .nil)) [] .nil))
 (.cons (.asg 2 (.call "spent" (.cons (.var 0) (.cons (.var 1) .nil)) [] .nil))
 (.cons (.ret (.call "least_pair" (.cons (.call "least_table" (.cons (.blt "len" (.cons (.var 0) .nil)) (.cons (.var 2) .nil)) [] .nil) (.cons (.var 2) (.cons (.con (.int 1)) (.cons (.blt "len" (.cons (.var 0) .nil)) .nil)))) [] .nil))
 .nil)))⟩
def f_clashes_of : Fn := ⟨["pair"], ["pair", "told", "down", "up", "first", "link", "second"],
  (.cons (.unp [2, 3] (.var 0))
 (.cons (.asg 1 (.lst .nil))
 (.cons (.forI (.tup [4, 5]) (.enm (.var 3))
  (.cons (.aug 1 .Add (.comp (.tup (.cons (.bin .Add (.var 4) (.con (.int 1))) (.cons (.var 6) .nil))) (.name 6) (.rng (.cons (.bin .Add (.var 4) (.con (.int 2))) (.cons (.var 5) .nil))) (.one (.cmp .LtE (.idx (.var 2) (.bin .Sub (.var 6) (.con (.int 1)))) (.var 4))) [("second", 6)]))
  .nil))
 (.cons (.ret (.var 1))
 .nil))))⟩
def f_give_second : Fn := ⟨["first", "some", "firsts", "seen"], ["first", "some", "firsts", "seen", "second"],
  (.cons (.forI (.name 4) (.seq (.idx (.var 1) (.var 0)))
  (.cons (.ife (.cmp .NotIn (.var 4) (.var 3))
   (.cons (.expr (.mth "append" (.var 3) (.cons (.var 4) .nil)))
   (.cons (.ife (.or (.cmp .NotIn (.var 4) (.var 2)) (.val (.call "give_second" (.cons (.idx (.var 2) (.var 4)) (.cons (.var 1) (.cons (.var 2) (.cons (.var 3) .nil)))) [] .nil)))
    (.cons (.setI (.var 2) (.var 4) (.var 0))
    (.cons (.ret (.con (.bool true)))
    .nil))
    .nil)
   .nil))
   .nil)
  .nil))
 (.cons (.ret (.con (.bool false)))
 .nil))⟩
def f_clashes : Fn := ⟨["pair"], ["pair"],
  (.cons (.expr (.call "check_pair" (.cons (.var 0) .nil) [] .nil))
 (.cons (.ret (.call "clashes_of" (.cons (.var 0) .nil) [] .nil))
 .nil))⟩
def f_law_all_links : Fn := ⟨["_law_many"], ["_law_many", "_law_told_here", "_law_at", "_law_more", "_law_link", "_law_ahead", "_law_behind"],
  (.cons (.asg 1 (.lst (.cons (.tup (.cons (.lst .nil) (.cons (.lst .nil) .nil))) .nil)))
 (.cons (.forI (.name 2) (.rng (.cons (.var 0) .nil))
  (.cons (.asg 3 (.blt "sum" (.cons (.comp (.comp (.tup (.cons (.bin .Add (.var 5) (.lst (.cons (.var 4) .nil))) (.cons (.var 6) .nil))) (.name 4) (.rng (.cons (.bin .Add (.var 2) (.con (.int 1))) .nil)) .no [("_law_link", 4)]) (.tup [5, 6]) (.seq (.var 1)) .no [("_law_ahead", 5), ("_law_behind", 6)]) (.cons (.lst .nil) .nil))))
  (.cons (.asg 1 (.blt "sum" (.cons (.comp (.comp (.tup (.cons (.var 5) (.cons (.bin .Add (.var 6) (.lst (.cons (.var 4) .nil))) .nil))) (.name 4) (.rng (.cons (.bin .Add (.var 2) (.con (.int 2))) (.cons (.bin .Add (.var 0) (.con (.int 2))) .nil))) .no [("_law_link", 4)]) (.tup [5, 6]) (.seq (.var 3)) .no [("_law_ahead", 5), ("_law_behind", 6)]) (.cons (.lst .nil) .nil))))
  .nil)))
 (.cons (.ret (.var 1))
 .nil)))⟩
def f_law_unlike : Fn := ⟨["_law_one", "_law_two"], ["_law_one", "_law_two", "_law_some", "_law_at"],
  (.cons (.asg 2 (.comp (.var 3) (.name 3) (.rng (.cons (.blt "len" (.cons (.idx (.var 0) (.con (.int 0))) .nil)) .nil)) (.one (.cmp .NotEq (.idx (.idx (.var 0) (.con (.int 0))) (.var 3)) (.idx (.idx (.var 1) (.con (.int 0))) (.var 3)))) [("_law_at", 3)]))
 (.cons (.ret (.bin .Add (.blt "len" (.cons (.var 2) .nil)) (.blt "len" (.cons (.comp (.var 3) (.name 3) (.rng (.cons (.blt "len" (.cons (.idx (.var 0) (.con (.int 1))) .nil)) .nil)) (.one (.cmp .NotEq (.idx (.idx (.var 0) (.con (.int 1))) (.var 3)) (.idx (.idx (.var 1) (.con (.int 1))) (.var 3)))) [("_law_at", 3)]) .nil))))
 .nil))⟩
def f_is_table : Fn := ⟨["table", "places", "cost"], ["table", "places", "cost", "some", "low", "high", "key", "root"],
  (.cons (.asg 3 (.call "stretches" (.cons (.var 1) .nil) [] .nil))
 (.cons (.ife (.or (.not (.val (.isi (.var 0) "dict"))) (.or (.cmp .NotEq (.blt "len" (.cons (.var 0) .nil)) (.blt "len" (.cons (.var 3) .nil))) (.not (.val (.blt "all" (.cons (.comp (.cmp .In (.var 6) (.var 0)) (.name 6) (.seq (.var 3)) .no [("key", 6)]) .nil))))))
  (.cons (.ret (.con (.bool false)))
  .nil)
  .nil)
 (.cons (.ife (.not (.val (.blt "all" (.cons (.comp (.call "is_whole" (.cons (.idx (.var 0) (.var 6)) .nil) [] .nil) (.name 6) (.seq (.var 3)) .no [("key", 6)]) .nil))))
  (.cons (.ret (.con (.bool false)))
  .nil)
  .nil)
 (.cons (.forI (.tup [4, 5]) (.seq (.var 3))
  (.cons (.ife (.cmp .Gt (.idx (.var 0) (.tup (.cons (.var 4) (.cons (.var 5) .nil)))) (.blt "min" (.cons (.comp (.call "with_root" (.cons (.var 0) (.cons (.var 2) (.cons (.var 4) (.cons (.var 7) (.cons (.var 5) .nil))))) [] .nil) (.name 7) (.rng (.cons (.var 4) (.cons (.bin .Add (.var 5) (.con (.int 1))) .nil))) .no [("root", 7)]) .nil)))
   (.cons (.ret (.con (.bool false)))
   .nil)
   .nil)
  .nil))
 (.cons (.ret (.con (.bool true)))
 .nil)))))⟩
def f_price_table : Fn := ⟨["asked", "changed"], ["asked", "changed"],
  (.cons (.expr (.call "check_both" (.cons (.var 0) (.cons (.var 1) .nil)) [] .nil))
 (.cons (.ret (.call "least_table" (.cons (.blt "len" (.cons (.var 0) .nil)) (.cons (.call "spent" (.cons (.var 0) (.cons (.var 1) .nil)) [] .nil) .nil)) [] .nil))
 .nil))⟩
def f_is_price_table : Fn := ⟨["asked", "changed", "table"], ["asked", "changed", "table"],
  (.cons (.expr (.call "check_both" (.cons (.var 0) (.cons (.var 1) .nil)) [] .nil))
 (.cons (.ret (.call "is_table" (.cons (.var 2) (.cons (.blt "len" (.cons (.var 0) .nil)) (.cons (.call "spent" (.cons (.var 0) (.cons (.var 1) .nil)) [] .nil) .nil))) [] .nil))
 .nil))⟩
def f_law_numbers : Fn := ⟨["_law_draws_here", "_law_many"], ["_law_draws_here", "_law_many", "_law_pick", "_law_high", "_law_far", "_law_at"],
  (.cons (.asg 2 (.blt "int" (.cons (.call "_law_next" (.cons (.var 0) .nil) [] .nil) .nil)))
 (.cons (.asg 3 (.idx (.lst (.cons (.con (.int 2)) (.cons (.con (.int 5)) (.cons (.con (.int 100)) (.cons (.bin .Pow (.con (.int 10)) (.con (.int 5))) .nil))))) (.bin .Mod (.blt "int" (.cons (.var 2) .nil)) (.con (.int 4)))))
 (.cons (.asg 4 (.idx (.lst (.cons (.con (.int 1)) (.cons (.con (.int 1)) (.cons (.bin .Pow (.con (.int 10)) (.con (.int 14))) .nil)))) (.bin .Mod (.blt "int" (.cons (.bin .FloorDiv (.var 2) (.con (.int 4))) .nil)) (.con (.int 3)))))
 (.cons (.ret (.comp (.bin .Mult (.bin .Mod (.blt "int" (.cons (.call "_law_next" (.cons (.var 0) .nil) [] .nil) .nil)) (.var 3)) (.var 4)) (.name 5) (.rng (.cons (.var 1) .nil)) .no [("_law_at", 5)]))
 .nil))))⟩
def f_law_keys : Fn := ⟨["_law_many"], ["_law_many", "_law_low", "_law_high"],
  (.cons (.ret (.blt "sum" (.cons (.comp (.comp (.tup (.cons (.var 1) (.cons (.var 2) .nil))) (.name 2) (.rng (.cons (.var 1) (.cons (.bin .Add (.var 0) (.con (.int 1))) .nil))) .no [("_law_high", 2)]) (.name 1) (.rng (.cons (.con (.int 1)) (.cons (.bin .Add (.var 0) (.con (.int 1))) .nil))) .no [("_law_low", 1)]) (.cons (.lst .nil) .nil))))
 .nil)⟩
def f_wrong_links : Fn := ⟨["pair"], ["pair"],
  (.cons (.expr (.call "check_pair" (.cons (.var 0) .nil) [] .nil))
 (.cons (.ret (.idx (.call "least_table" (.cons (.blt "len" (.cons (.idx (.var 0) (.con (.int 0))) .nil)) (.cons (.call "wrong_in" (.cons (.var 0) .nil) [] .nil) .nil)) [] .nil) (.tup (.cons (.con (.int 1)) (.cons (.blt "len" (.cons (.idx (.var 0) (.con (.int 0))) .nil)) .nil)))))
 .nil))⟩
def f_mended : Fn := ⟨["pair"], ["pair", "cost"],
  (.cons (.expr (.call "check_pair" (.cons (.var 0) .nil) [] .nil))
 (.cons (.asg 1 (.call "wrong_in" (.cons (.var 0) .nil) [] .nil))
 (.cons (.ret (.call "least_pair" (.cons (.call "least_table" (.cons (.blt "len" (.cons (.idx (.var 0) (.con (.int 0))) .nil)) (.cons (.var 1) .nil)) [] .nil) (.cons (.var 1) (.cons (.con (.int 1)) (.cons (.blt "len" (.cons (.idx (.var 0) (.con (.int 0))) .nil)) .nil)))) [] .nil))
 .nil)))⟩
def f_mend_table : Fn := ⟨["pair"], ["pair"],
  (.cons (.expr (.call "check_pair" (.cons (.var 0) .nil) [] .nil))
 (.cons (.ret (.call "least_table" (.cons (.blt "len" (.cons (.idx (.var 0) (.con (.int 0))) .nil)) (.cons (.call "wrong_in" (.cons (.var 0) .nil) [] .nil) .nil)) [] .nil))
 .nil))⟩
def f_is_mend_table : Fn := ⟨["pair", "table"], ["pair", "table"],
  (.cons (.expr (.call "check_pair" (.cons (.var 0) .nil) [] .nil))
 (.cons (.ret (.call "is_table" (.cons (.var 1) (.cons (.blt "len" (.cons (.idx (.var 0) (.con (.int 0))) .nil)) (.cons (.call "wrong_in" (.cons (.var 0) .nil) [] .nil) .nil))) [] .nil))
 .nil))⟩
def f_law_some : Fn := ⟨["_law_draws_here"], ["_law_draws_here", "_law_far"],
  (.cons (.asg 1 (.idx (.lst (.cons (.con (.int 1)) (.cons (.con (.int 1)) (.cons (.bin .Pow (.con (.int 10)) (.con (.int 17))) .nil)))) (.bin .Mod (.blt "int" (.cons (.call "_law_next" (.cons (.var 0) .nil) [] .nil) .nil)) (.con (.int 3)))))
 (.cons (.ret (.bin .Mult (.bin .Sub (.bin .Mod (.blt "int" (.cons (.call "_law_next" (.cons (.var 0) .nil) [] .nil) .nil)) (.con (.int 41))) (.con (.int 20))) (.var 1)))
 .nil))⟩
def f_law_drawn : Fn := ⟨["_law_draws_here", "_law_many"], ["_law_draws_here", "_law_many", "_law_pick", "_law_links"],
  (.cons (.asg 2 (.bin .Mod (.blt "int" (.cons (.call "_law_next" (.cons (.var 0) .nil) [] .nil) .nil)) (.con (.int 3))))
 (.cons (.asg 3 (.ite (.cmp .Eq (.var 2) (.con (.int 0))) (.call "_law_any" (.cons (.var 0) (.cons (.var 1) .nil)) [] .nil) (.call "_law_tree" (.cons (.var 0) (.cons (.var 1) .nil)) [] .nil)))
 (.cons (.ret (.ite (.cmp .Eq (.var 2) (.con (.int 2))) (.call "_law_bent" (.cons (.var 0) (.cons (.var 3) .nil)) [] .nil) (.var 3)))
 .nil)))⟩
def f_reached : Fn := ⟨["pair", "values", "least"], ["pair", "values", "least", "cells", "looks", "found", "low", "high", "missing", "root"],
  (.cons (.expr (.call "check_pair" (.cons (.var 0) .nil) [] .nil))
 (.cons (.expr (.call "check_right" (.cons (.var 0) .nil) [] .nil))
 (.cons (.expr (.call "check_numbers" (.cons (.var 1) (.cons (.blt "len" (.cons (.idx (.var 0) (.con (.int 0))) .nil)) .nil)) [] .nil))
 (.cons (.ife (.not (.val (.call "is_whole" (.cons (.var 2) .nil) [] .nil)))
  (.cons .never
  .nil)
  .nil)
 (.cons (.par [3, 4, 5] (.cons (.call "filled" (.cons (.idx (.var 0) (.con (.int 1))) (.cons (.var 1) .nil)) [] .nil) (.cons (.con (.int 0)) (.cons (.bin .Add (.blt "len" (.cons (.var 1) .nil)) (.con (.int 1))) .nil))))
 (.cons (.par [6, 7, 8] (.cons (.con (.int 1)) (.cons (.blt "len" (.cons (.var 1) .nil)) (.cons (.var 2) .nil))))
 (.cons (.whl (.cmp .LtE (.var 6) (.var 7))
  (.cons (.asg 9 (.call "root_of" (.cons (.var 0) (.cons (.var 6) (.cons (.var 7) .nil))) [] .nil))
  (.cons (.aug 4 .Add (.con (.int 1)))
  (.cons (.ife (.cmp .Lt (.idx (.var 3) (.bin .Sub (.var 9) (.con (.int 1)))) (.var 8))
   (.cons (.aug 8 .Sub (.idx (.var 3) (.bin .Sub (.var 9) (.con (.int 1)))))
   (.cons (.asg 6 (.bin .Add (.var 9) (.con (.int 1))))
   .nil))
   (.cons (.asg 5 (.var 9))
   (.cons (.asg 7 (.bin .Sub (.var 9) (.con (.int 1))))
   .nil)))
  .nil))))
 (.cons (.ret (.tup (.cons (.var 5) (.cons (.var 4) .nil))))
 .nil))))))))⟩
def f_number_of : Fn := ⟨["word"], ["word", "sign"],
  (.cons (.ife (.or (.cmp .Eq (.var 0) (.con (.str ""))) (.or (.not (.val (.blt "all" (.cons (.comp (.cmp .In (.var 1) (.glb "DIGITS")) (.name 1) (.seq (.var 0)) .no [("sign", 1)]) .nil)))) (.and (.cmp .Eq (.idx (.var 0) (.con (.int 0))) (.con (.str "0"))) (.cmp .NotEq (.var 0) (.con (.str "0"))))))
  (.cons (.ret (.con .none))
  .nil)
  .nil)
 (.cons (.ret (.blt "int" (.cons (.var 0) .nil)))
 .nil))⟩
def f_k16_law_covers : Fn := ⟨["_law_a_pair"], ["_law_a_pair", "_law_told", "_law_i", "_law_falls", "_law_rises", "_law_row", "_law_j", "_law_k"],
  (.cons (.unp [3, 4] (.var 0))
 (.cons (.asg 1 (.lst .nil))
 (.cons (.forI (.name 2) (.rng (.cons (.con (.int 1)) (.cons (.bin .Add (.blt "len" (.cons (.var 3) .nil)) (.con (.int 1))) .nil)))
  (.cons (.asg 5 (.lst .nil))
  (.cons (.forI (.name 6) (.rng (.cons (.con (.int 1)) (.cons (.bin .Add (.blt "len" (.cons (.var 3) .nil)) (.con (.int 1))) .nil)))
   (.cons (.expr (.mth "append" (.var 5) (.cons (.blt "len" (.cons (.comp (.var 7) (.name 7) (.rng (.cons (.var 6) (.cons (.bin .Add (.var 2) (.con (.int 1))) .nil))) (.one (.and (.cmp .Lt (.idx (.var 3) (.bin .Sub (.var 7) (.con (.int 1)))) (.var 6)) (.cmp .Gt (.idx (.var 4) (.bin .Sub (.var 7) (.con (.int 1)))) (.var 2)))) [("_law_k", 7)]) .nil)) .nil)))
   .nil))
  (.cons (.expr (.mth "append" (.var 1) (.cons (.var 5) .nil)))
  .nil))))
 (.cons (.ret (.var 1))
 .nil))))⟩
def f_k16_law_right : Fn := ⟨["_law_a_pair"], ["_law_a_pair", "_law_kept", "_law_due", "_law_told", "_law_row"],
  (.cons (.asg 1 (.blt "repr" (.cons (.var 0) .nil)))
 (.cons (.asg 2 (.call "_law_covers" (.cons (.var 0) .nil) [] .nil))
 (.cons (.asg 3 (.lst (.cons (.call "covers" (.cons (.var 0) .nil) [] .nil) (.cons (.call "covers" .nil ["pair"] (.cons (.var 0) .nil)) .nil))))
 (.cons (.ife (.or (.cmp .NotEq (.blt "repr" (.cons (.var 3) .nil)) (.blt "repr" (.cons (.lst (.cons (.var 2) (.cons (.var 2) .nil))) .nil))) (.cmp .NotEq (.blt "repr" (.cons (.var 0) .nil)) (.var 1)))
  (.cons (.ret (.con (.bool false)))
  .nil)
  .nil)
 (.cons (.forI (.name 4) (.seq (.idx (.var 3) (.con (.int 0))))
  (.cons (.expr (.mth "append" (.var 4) (.cons (.con .none) .nil)))
  .nil))
 (.cons (.ife (.cmp .NotEq (.blt "repr" (.cons (.idx (.var 3) (.con (.int 0))) .nil)) (.blt "repr" (.cons (.comp (.bin .Add (.var 4) (.lst (.cons (.con .none) .nil))) (.name 4) (.seq (.var 2)) .no [("_law_row", 4)]) .nil)))
  (.cons (.ret (.con (.bool false)))
  .nil)
  .nil)
 (.cons (.ret (.and (.cmp .Eq (.blt "repr" (.cons (.call "covers" (.cons (.var 0) .nil) [] .nil) .nil)) (.blt "repr" (.cons (.var 2) .nil))) (.cmp .Eq (.blt "repr" (.cons (.var 0) .nil)) (.var 1))))
 .nil)))))))⟩
def f_k16_law : Fn := ⟨["_law_script"], ["_law_script", "_law_draws_here", "_law_turn", "_law_cell", "_law_k"],
  (.cons (.forI (.name 1) (.seq (.comp (.call "_law_draws" (.cons (.var 3) .nil) [] .nil) (.name 3) (.seq (.bin .Add (.sl0 (.var 0) (.con (.int 6))) (.lst (.cons (.con (.int 0)) .nil)))) .no [("_law_cell", 3)]))
  (.cons (.forI (.name 2) (.rng (.cons (.con (.int 3)) .nil))
   (.cons (.ife (.not (.val (.call "_law_right" (.cons (.call "_law_any" (.cons (.var 1) (.cons (.con (.int 16)) .nil)) [] .nil) .nil) [] .nil)))
    (.cons (.ret (.con (.bool false)))
    .nil)
    .nil)
   .nil))
  .nil))
 (.cons (.ife (.or (.not (.val (.call "_law_right" (.cons (.tup (.cons (.bin .Mult (.lst (.cons (.con (.int 0)) .nil)) (.con (.int 16))) (.cons (.bin .Mult (.lst (.cons (.con (.int 17)) .nil)) (.con (.int 16))) .nil))) .nil) [] .nil))) (.not (.val (.call "_law_right" (.cons (.tup (.cons (.comp (.var 4) (.name 4) (.rng (.cons (.con (.int 16)) .nil)) .no [("_law_k", 4)]) (.cons (.comp (.bin .Add (.var 4) (.con (.int 2))) (.name 4) (.rng (.cons (.con (.int 16)) .nil)) .no [("_law_k", 4)]) .nil))) .nil) [] .nil))))
  (.cons (.ret (.con (.bool false)))
  .nil)
  .nil)
 (.cons (.ret (.and (.cmp .Eq (.call "covers" (.cons (.tup (.cons (.lst (.cons (.con (.int 0)) (.cons (.con (.int 1)) (.cons (.con (.int 1)) .nil)))) (.cons (.lst (.cons (.con (.int 3)) (.cons (.con (.int 4)) (.cons (.con (.int 4)) .nil)))) .nil))) .nil) [] .nil) (.lst (.cons (.lst (.cons (.con (.int 1)) (.cons (.con (.int 0)) (.cons (.con (.int 0)) .nil)))) (.cons (.lst (.cons (.con (.int 1)) (.cons (.con (.int 1)) (.cons (.con (.int 0)) .nil)))) (.cons (.lst (.cons (.con (.int 0)) (.cons (.con (.int 2)) (.cons (.con (.int 1)) .nil)))) .nil))))) (.cmp .Eq (.call "covers" (.cons (.tup (.cons (.lst (.cons (.con (.int 0)) .nil)) (.cons (.lst (.cons (.con (.int 2)) .nil)) .nil))) .nil) [] .nil) (.lst (.cons (.lst (.cons (.con (.int 1)) .nil)) .nil)))))
 .nil)))⟩
end VC

namespace VC
open PySem PySem.Spec PyProof.Rows L2
local macro_rules | `(tactic| walk_at "e1") => `(tactic| first
  | ((with_reducible refine' e_var ?k1 ?_); (case k1 => exact rfl))
  | ((with_reducible refine' e_glbT ?k1 ?_); (case k1 => assumption))
  | (with_reducible refine e_int ?_) | (with_reducible refine e_bool ?_) | (with_reducible refine e_none ?_) | (with_reducible refine e_str ?_)
  | (with_reducible refine e_bin ?_) | (with_reducible refine e_neg ?_) | (with_reducible refine e_cmp ?_) | (with_reducible refine e_chn ?_) | (with_reducible refine e_and ?_) | (with_reducible refine e_or ?_)
  | (with_reducible refine e_not ?_) | (with_reducible refine e_ite ?_) | (with_reducible refine e_tup ?_) | (with_reducible refine e_lst ?_) | (with_reducible refine e_idx ?_) | (with_reducible refine e_callP ?_)
  | (with_reducible refine e_blt ?_) | (with_reducible refine e_isi ?_) | (with_reducible refine e_lzp ?_) | (with_reducible refine e_mth ?_) | (with_reducible refine e_comp ?_) | (with_reducible refine es_nil ?_) | (with_reducible refine es_cons ?_)
  | (with_reducible refine o_add ?_) | (with_reducible refine o_sub ?_) | ((with_reducible refine' o_mod ?k1 ?_); (case k1 => omega)) | ((with_reducible refine' o_fdiv (cdiv_of ?k1) ?_); (case k1 => omega)) | ((with_reducible refine' o_mul (cmul_of ?k1 ?k2) ?_); (case k1 => omega); (case k2 => omega)) | (with_reducible refine c_lt ?_) | (with_reducible refine c_le ?_) | (with_reducible refine c_gt ?_) | (with_reducible refine c_ge ?_)
  | (with_reducible refine c_eqI ?_) | (with_reducible refine c_neI ?_) | (with_reducible refine c_eqS ?_) | (with_reducible refine c_neS ?_)
  | ((with_reducible refine' i_nl ?k1 ?k2 ?k3 ?_); (case k1 => assumption); (case k2 => omega); (case k3 => omega)) | ((with_reducible refine' i_il ?k1 ?k2 ?k3 ?_); (case k1 => assumption); (case k2 => omega); (case k3 => omega))
  | ((with_reducible refine' i_t ?k1 ?k2 ?_); (case k1 => assumption); (case k2 => exact rfl))
  | ((with_reducible refine' b_lenN ?k1 ?_); (case k1 => assumption)) | ((with_reducible refine' b_lenI ?k1 ?_); (case k1 => assumption)) | ((with_reducible refine' b_len ?k1 ?_); (case k1 => assumption)) | ((with_reducible refine' b_lenT ?k1 ?_); (case k1 => assumption)) | (with_reducible refine b_int ?_) | (with_reducible refine b_intB ?_) | ((with_reducible refine' b_list ?k1 ?_); (case k1 => assumption))
  | (with_reducible refine t_val ?_) | (with_reducible refine t_cmp ?_) | (with_reducible refine t_chn ?_) | (with_reducible refine t_not ?_) | (with_reducible refine t_and ?_) | (with_reducible refine t_or ?_) | (with_reducible refine d_no ?_) | (with_reducible refine d_one ?_)
  | (with_reducible refine w_seq ?_) | (with_reducible refine w_rng ?_) | (with_reducible refine w_enm ?_) | (with_reducible refine w_zip ?_) | ((with_reducible refine' on_l ?k1 ?_); (case k1 => assumption)) | ((with_reducible refine' on_t ?k1 ?_); (case k1 => assumption))
  | (with_reducible refine s_nil ?_) | (with_reducible refine s_cons ?_) | (with_reducible refine s_expr ?_) | (with_reducible refine s_ret ?_) | (with_reducible refine s_asg ?_) | (with_reducible refine s_unp ?_) | (with_reducible refine s_prl ?_) | (with_reducible refine s_ife ?_) | (with_reducible refine s_set ?_) | (with_reducible refine s_augI ?_) | (with_reducible refine s_aug (by exact rfl) ?_) | (with_reducible refine p_add ?_) | (with_reducible refine p_sub ?_) | (with_reducible refine s_for ?_) | (with_reducible refine s_whl ?_)
  | (with_reducible refine if_T ?_) | (with_reducible refine if_F ?_) | (with_reducible refine if_nT ?_) | (with_reducible refine if_nF ?_)
  | (dsimp only)
  | ((rw [decide_eq_true ?kk]); (case kk => omega)) | ((rw [decide_eq_false ?kk]); (case kk => omega)))
local macro_rules | `(tactic| walk_at "e") => `(tactic| repeat walk_at "e1")

section
variable {T : Tab} {K : PySem.W.Frag} {k : Nat} {H : Hp} {Q : VK} {E : XK}
theorem kit_ii : kitB "int" (Str.toString "int") = some true := by decide +kernel
theorem kit_ib : kitB "int" (Str.toString "bool") = some false := by decide +kernel
theorem kit_ll : kitB "list" (Str.toString "list") = some true := by decide +kernel
theorem is_whole_int (hx : T.has "is_whole" f_is_whole) {i : Int} (q : Q (.bl true) H) : SPn T K (k + 1) "is_whole" [.int i] H Q E := by
  refine SPn_of hx rfl ?_
  dsimp only [f_is_whole]
  walk_at "e"
  refine ⟨"int", true, rfl, kit_ii, ?_⟩
  walk_at "e"
  refine ⟨"int", false, rfl, kit_ib, ?_⟩
  exact q
theorem check_place_ok (hx : T.has "check_place" f_check_place) (hw : T.has "is_whole" f_is_whole) {i n : Int} (h : 1 ≤ i ∧ i ≤ n) (q : Q .non H) : SPn T K (k + 2) "check_place" [.int i, .int n] H Q E := by
  refine SPn_of hx rfl ?_
  dsimp only [f_check_place]
  walk_at "e"
  refine ⟨rfl, is_whole_int hw ?_⟩
  walk_at "e"
  exact q

/-- a down table, an up table -/
def DnOk (ds : List Nat) : Prop := ∀ i, i < ds.length → ds.getD i 0 ≤ i
def UpOk (us : List Nat) : Prop := ∀ i, i < us.length → i + 2 ≤ us.getD i 0 ∧ us.getD i 0 ≤ us.length + 1
theorem nl_at {ns : List Nat} {i : Nat} {x : V} (h : (nl ns)[i]? = some x) : i < ns.length ∧ x = .int (ns.getD i 0 : Nat) := by
  have hi : i < ns.length := by
    have := (List.getElem?_eq_some_iff.mp h).1
    simpa using this
  rw [nl_get hi] at h
  exact ⟨hi, (Option.some.inj h).symm⟩
theorem il_at {ns : List Int} {i : Nat} {x : V} (h : (il ns)[i]? = some x) : i < ns.length ∧ x = .int (ns.getD i 0) := by
  have hi : i < ns.length := by
    have := (List.getElem?_eq_some_iff.mp h).1
    simpa using this
  rw [il_get hi] at h
  exact ⟨hi, (Option.some.inj h).symm⟩
theorem check_down_ok (hx : T.has "check_down" f_check_down) (hw : T.has "is_whole" f_is_whole) (hc : T.cons.lookup ("MOST_PLACES" : Str) = some (.int 16)) {d : Addr} {ds : List Nat} (hd : H d = some (.lst (nl ds))) (hn : 1 ≤ ds.length ∧ ds.length ≤ 16) (ok : DnOk ds)
    (q : ∀ H1, Same H H1 → Q .non H1) : SPn T K (k + 2) "check_down" [.ref d] H Q E := by
  refine SPn_of hx rfl ?_
  dsimp only [f_check_down]
  walk_at "e"
  refine ⟨"list", true, by simp only [tyName, hd], kit_ll, ?_⟩
  walk_at "e"
  refine f_enm (fun i σ H' => ∃ x y, σ = [some (.ref d), x, y] ∧ Same H H') ⟨none, none, rfl, Same.refl H⟩ ?_ ?_ ?_
  · rintro i σ' H' ⟨x, y, rfl, sm⟩
    exact sm _ _ hd
  · rintro i σ' H' x hix ⟨x1, y1, rfl, sm⟩ H1 sm1
    obtain ⟨hi, rfl⟩ := nl_at hix
    have hl := ok i hi
    walk_at "e"
    refine ⟨rfl, is_whole_int hw ?_⟩
    walk_at "e"
    exact ⟨_, _, rfl, sm.trans sm1⟩
  · rintro σ' H' ⟨x, y, rfl, sm⟩
    walk_at "e"
    exact q H' sm
theorem check_up_ok (hx : T.has "check_up" f_check_up) (hw : T.has "is_whole" f_is_whole) (hc : T.cons.lookup ("MOST_PLACES" : Str) = some (.int 16)) {d : Addr} {ds : List Nat} (hd : H d = some (.lst (nl ds))) (hn : 1 ≤ ds.length ∧ ds.length ≤ 16) (ok : UpOk ds)
    (q : ∀ H1, Same H H1 → Q .non H1) : SPn T K (k + 2) "check_up" [.ref d] H Q E := by
  refine SPn_of hx rfl ?_
  dsimp only [f_check_up]
  walk_at "e"
  refine ⟨"list", true, by simp only [tyName, hd], kit_ll, ?_⟩
  walk_at "e"
  refine f_enm (fun i σ H' => ∃ x y, σ = [some (.ref d), x, y] ∧ Same H H') ⟨none, none, rfl, Same.refl H⟩ ?_ ?_ ?_
  · rintro i σ' H' ⟨x, y, rfl, sm⟩
    exact sm _ _ hd
  · rintro i σ' H' x hix ⟨x1, y1, rfl, sm⟩ H1 sm1
    obtain ⟨hi, rfl⟩ := nl_at hix
    have hl := ok i hi
    have hd1 := sm1 _ _ (sm _ _ hd)
    walk_at "e"
    refine ⟨rfl, is_whole_int hw ?_⟩
    walk_at "e"
    exact ⟨_, _, rfl, sm.trans sm1⟩
  · rintro σ' H' ⟨x, y, rfl, sm⟩
    walk_at "e"
    exact q H' sm

/-! walks -/
def walkD (ds : List Nat) : Nat → Nat → List Nat
  | 0, _ => []
  | f + 1, p => if p = 0 then [] else p :: walkD ds f (ds.getD (p - 1) 0)
def walkU (us : List Nat) : Nat → Nat → List Nat
  | 0, _ => []
  | f + 1, p => if p ≤ us.length then p :: walkU us f (us.getD (p - 1) 0) else []
/-- the walk down, the walk up -/
def wD (ds : List Nat) (p : Nat) : List Nat := walkD ds (p + 1) p
def wU (us : List Nat) (p : Nat) : List Nat := walkU us (us.length + 2 - p) p
theorem walkD_fuel {ds : List Nat} (ok : DnOk ds) : ∀ (f g p : Nat), p < f → p < g → p ≤ ds.length → walkD ds f p = walkD ds g p
  | 0, _, _, h, _, _ => by omega
  | _ + 1, 0, _, _, h, _ => by omega
  | f + 1, g + 1, p, h1, h2, hp => by
    unfold walkD
    by_cases h0 : p = 0
    · rw [if_pos h0, if_pos h0]
    · have := ok (p - 1) (by omega)
      rw [if_neg h0, if_neg h0, walkD_fuel ok f g _ (by omega) (by omega) (by omega)]
theorem wD_zero (ds : List Nat) : wD ds 0 = [] := by simp [wD, walkD]
theorem wD_pos {ds : List Nat} (ok : DnOk ds) {p : Nat} (h0 : 0 < p) (hp : p ≤ ds.length) : wD ds p = p :: wD ds (ds.getD (p - 1) 0) := by
  have := ok (p - 1) (by omega)
  show walkD ds (p + 1) p = _
  rw [walkD, if_neg (by omega), wD, walkD_fuel ok p (ds.getD (p - 1) 0 + 1) _ (by omega) (by omega) (by omega)]
theorem walkU_fuel {us : List Nat} (ok : UpOk us) : ∀ (f g p : Nat), us.length + 1 < p + f → us.length + 1 < p + g → 0 < p → walkU us f p = walkU us g p
  | 0, 0, _, h, _, _ => rfl
  | 0, g + 1, p, h, _, _ => by
    unfold walkU
    rw [if_neg (by omega)]
  | f + 1, 0, p, _, h, _ => by
    unfold walkU
    rw [if_neg (by omega)]
  | f + 1, g + 1, p, h1, h2, hp => by
    unfold walkU
    by_cases h0 : p ≤ us.length
    · have := ok (p - 1) (by omega)
      rw [if_pos h0, if_pos h0, walkU_fuel ok f g _ (by omega) (by omega) (by omega)]
    · rw [if_neg h0, if_neg h0]
theorem wU_out {us : List Nat} {p : Nat} (h : us.length < p) : wU us p = [] := by
  unfold wU
  cases us.length + 2 - p with
  | zero => rfl
  | succ n => unfold walkU; rw [if_neg (by omega)]
theorem wU_in {us : List Nat} (ok : UpOk us) {p : Nat} (h0 : 0 < p) (hp : p ≤ us.length) : wU us p = p :: wU us (us.getD (p - 1) 0) := by
  have := ok (p - 1) (by omega)
  have e : us.length + 2 - p = (us.length + 1 - p) + 1 := by omega
  show walkU us (us.length + 2 - p) p = _
  rw [e, walkU, if_pos hp, wU, walkU_fuel ok (us.length + 1 - p) (us.length + 2 - us.getD (p - 1) 0) _ (by omega) (by omega) (by omega)]
theorem wD_len {ds : List Nat} (ok : DnOk ds) : ∀ (n p : Nat), p ≤ n → p ≤ ds.length → (wD ds p).length ≤ p
  | 0, p, h, _ => by
    have : p = 0 := by omega
    subst this
    rw [wD_zero]; exact Nat.zero_le _
  | n + 1, p, h, hp => by
    by_cases h0 : p = 0
    · subst h0; rw [wD_zero]; exact Nat.zero_le _
    · have := ok (p - 1) (by omega)
      rw [wD_pos ok (by omega) hp, List.length_cons]
      have := wD_len ok n (ds.getD (p - 1) 0) (by omega) (by omega)
      omega
theorem wU_len {us : List Nat} (ok : UpOk us) : ∀ (n p : Nat), us.length < p + n → 0 < p → (wU us p).length + p ≤ us.length + 1 ∨ us.length < p
  | 0, p, h, _ => .inr (by omega)
  | n + 1, p, h, h0 => by
    by_cases hp : p ≤ us.length
    · have hk := ok (p - 1) (by omega)
      rw [wU_in ok h0 hp, List.length_cons]
      rcases wU_len ok n (us.getD (p - 1) 0) (by omega) (by omega) with e | e
      · left; omega
      · left; rw [wU_out e]; simp; omega
    · exact .inr (by omega)
theorem steps_down_gen {x : Str} {F : Fn} (hx : T.has x F) (hps : F.ps.length = 2) (hN : F.N.length = 3) (hb : F.body = f_steps_down.body) {d : Addr} {ds : List Nat} {p : Nat} (hd : H d = some (.lst (nl ds))) (hn : ds.length ≤ 16) (ok : DnOk ds) (hp : p ≤ ds.length)
    (q : ∀ t H1, H t = none → Same H H1 → H1 t = some (.lst (nl (wD ds p))) → Q (.ref t) H1) : SPn T K (k + 1) x [.ref d, .int (p : Nat)] H Q E := by
  refine SPn_of hx (by rw [hps]; rfl) ?_
  rw [hb, show L2.start F.N [V.ref d, V.int (p : Nat)] = [some (V.ref d), some (V.int (p : Nat)), none] by unfold L2.start; rw [hN]; rfl]
  dsimp only [f_steps_down]
  walk_at "e"
  refine ⟨fit (by simp), fun t H0 ht sm0 h0 => ?_⟩
  walk_at "e"
  refine f_while (fun m σ H' => ∃ (r : Nat) (w : List Nat), σ = [some (.ref d), some (.int (r : Nat)), some (.ref t)] ∧ m = r ∧ r ≤ ds.length ∧ Same H H' ∧ H' t = some (.lst (nl w)) ∧ wD ds p = w ++ wD ds r) p ⟨p, [], rfl, rfl, hp, sm0, h0, rfl⟩ ?_
  rintro m σ' H' ⟨r, w, rfl, rfl, hr, sm, hw, e⟩
  walk_at "e"
  refine if_dec (fun hpos => ?_) (fun hpos => ?_)
  · have hl := ok (m - 1) (by omega)
    have hd' := sm _ _ hd
    walk_at "e"
    simp only [hw]
    walk_at "e"
    have hlen : w.length ≤ 16 := by
      have h1 := wD_len ok p p (Nat.le_refl _) hp
      rw [e, List.length_append] at h1
      omega
    refine m_append hw (fit1 (by simp; omega)) ?_
    have htd : d ≠ t := ne_of_none hd ht
    have hd'' : upd H' t (.lst (nl w ++ [.int (m : Nat)])) d = some (.lst (nl ds)) := by rw [upd_ne htd]; exact hd'
    walk_at "e"
    have em : ((m : Int) - 1).toNat = m - 1 := by omega
    refine ⟨ds.getD (m - 1) 0, by omega, ds.getD (m - 1) 0, w ++ [m], ?_, rfl, by omega, same_mut sm ht, ?_, ?_⟩
    · rw [em]; rfl
    · rw [upd_same, nl_append]; rfl
    · rw [e, wD_pos ok (by omega) hr, List.append_assoc]; rfl
  · have h0 : m = 0 := by omega
    subst h0
    rw [wD_zero, List.append_nil] at e
    walk_at "e"
    rw [← e] at hw
    exact q t H' ht sm hw
theorem wU_small {us : List Nat} (ok : UpOk us) {p : Nat} (h0 : 0 < p) : (wU us p).length ≤ us.length := by
  rcases wU_len ok us.length p (by omega) h0 with e | e
  · omega
  · rw [wU_out e]; exact Nat.zero_le _
theorem steps_up_gen {x : Str} {F : Fn} (hx : T.has x F) (hps : F.ps.length = 2) (hN : F.N.length = 3) (hb : F.body = f_steps_up.body) {d : Addr} {us : List Nat} {p : Nat} (hd : H d = some (.lst (nl us))) (hn : us.length ≤ 16) (ok : UpOk us) (hp : 0 < p)
    (q : ∀ t H1, H t = none → Same H H1 → H1 t = some (.lst (nl (wU us p))) → Q (.ref t) H1) : SPn T K (k + 1) x [.ref d, .int (p : Nat)] H Q E := by
  refine SPn_of hx (by rw [hps]; rfl) ?_
  rw [hb, show L2.start F.N [V.ref d, V.int (p : Nat)] = [some (V.ref d), some (V.int (p : Nat)), none] by unfold L2.start; rw [hN]; rfl]
  dsimp only [f_steps_up]
  walk_at "e"
  refine ⟨fit (by simp), fun t H0 ht sm0 h0 => ?_⟩
  walk_at "e"
  refine f_while (fun m σ H' => ∃ (r : Nat) (w : List Nat), σ = [some (.ref d), some (.int (r : Nat)), some (.ref t)] ∧ m = us.length + 1 - r ∧ 0 < r ∧ Same H H' ∧ H' t = some (.lst (nl w)) ∧ wU us p = w ++ wU us r) (us.length + 1 - p) ⟨p, [], rfl, rfl, hp, sm0, h0, rfl⟩ ?_
  rintro m σ' H' ⟨r, w, rfl, rfl, hr, sm, hw, e⟩
  have hd' := sm _ _ hd
  walk_at "e"
  refine if_dec (fun hpos => ?_) (fun hpos => ?_)
  · have hl := ok (r - 1) (by omega)
    walk_at "e"
    simp only [hw]
    walk_at "e"
    have hlen : w.length ≤ 16 := by
      have h1 := wU_small ok hp
      rw [e, List.length_append] at h1
      omega
    refine m_append hw (fit1 (by simp; omega)) ?_
    have htd : d ≠ t := ne_of_none hd ht
    have hd'' : upd H' t (.lst (nl w ++ [.int (r : Nat)])) d = some (.lst (nl us)) := by rw [upd_ne htd]; exact hd'
    walk_at "e"
    have em : ((r : Int) - 1).toNat = r - 1 := by omega
    refine ⟨us.length + 1 - us.getD (r - 1) 0, by omega, us.getD (r - 1) 0, w ++ [r], ?_, rfl, by omega, same_mut sm ht, ?_, ?_⟩
    · rw [em]; rfl
    · rw [upd_same, nl_append]; rfl
    · rw [e, wU_in ok (by omega) (by omega), List.append_assoc]; rfl
  · have h0 : us.length < r := by omega
    rw [wU_out h0, List.append_nil] at e
    walk_at "e"
    rw [← e] at hw
    exact q t H' ht sm hw
theorem walk_down_ok (hx : T.has "walk_down" f_walk_down) (h1 : T.has "check_down" f_check_down) (hw : T.has "is_whole" f_is_whole) (h2 : T.has "check_place" f_check_place) (h3 : T.has "steps_down" f_steps_down) (hc : T.cons.lookup ("MOST_PLACES" : Str) = some (.int 16))
    {d : Addr} {ds : List Nat} {p : Nat} (hd : H d = some (.lst (nl ds))) (hn : 1 ≤ ds.length ∧ ds.length ≤ 16) (ok : DnOk ds) (hp : 1 ≤ p ∧ p ≤ ds.length)
    (q : ∀ t H1, H t = none → Same H H1 → H1 t = some (.lst (nl (wD ds p))) → Q (.ref t) H1) : SPn T K (k + 3) "walk_down" [.ref d, .int (p : Nat)] H Q E := by
  refine SPn_of hx rfl ?_
  dsimp only [f_walk_down]
  walk_at "e"
  refine ⟨rfl, check_down_ok h1 hw hc hd hn ok fun H1 sm1 => ?_⟩
  have hd1 := sm1 _ _ hd
  walk_at "e"
  refine ⟨rfl, check_place_ok h2 hw (by omega) ?_⟩
  walk_at "e"
  refine ⟨rfl, steps_down_gen h3 rfl rfl rfl hd1 hn.2 ok hp.2 fun t H2 ht sm2 h => ?_⟩
  exact q t H2 (sm1.free ht) (sm1.trans sm2) h
theorem walk_up_ok (hx : T.has "walk_up" f_walk_up) (h1 : T.has "check_up" f_check_up) (hw : T.has "is_whole" f_is_whole) (h2 : T.has "check_place" f_check_place) (h3 : T.has "steps_up" f_steps_up) (hc : T.cons.lookup ("MOST_PLACES" : Str) = some (.int 16))
    {d : Addr} {ds : List Nat} {p : Nat} (hd : H d = some (.lst (nl ds))) (hn : 1 ≤ ds.length ∧ ds.length ≤ 16) (ok : UpOk ds) (hp : 1 ≤ p ∧ p ≤ ds.length)
    (q : ∀ t H1, H t = none → Same H H1 → H1 t = some (.lst (nl (wU ds p))) → Q (.ref t) H1) : SPn T K (k + 3) "walk_up" [.ref d, .int (p : Nat)] H Q E := by
  refine SPn_of hx rfl ?_
  dsimp only [f_walk_up]
  walk_at "e"
  refine ⟨rfl, check_up_ok h1 hw hc hd hn ok fun H1 sm1 => ?_⟩
  have hd1 := sm1 _ _ hd
  walk_at "e"
  refine ⟨rfl, check_place_ok h2 hw (by omega) ?_⟩
  walk_at "e"
  refine ⟨rfl, steps_up_gen h3 rfl rfl rfl hd1 hn.2 ok hp.1 fun t H2 ht sm2 h => ?_⟩
  exact q t H2 (sm1.free ht) (sm1.trans sm2) h
end

/-! ### draws -/
/-- a draws object: at most n numbers were drawn -/
def DrawAt (H : Hp) (r : Addr) (n : Nat) : Prop := ∃ (a b : Int) (c : Bool), H r = some (.lst [.int a, .int b, .bl c]) ∧ 0 ≤ a ∧ 0 ≤ b ∧ b ≤ n
/-- all but r stays -/
def Frm (r : Addr) (H H1 : Hp) : Prop := ∀ x o, x ≠ r → H x = some o → H1 x = some o
theorem Frm.refl (r : Addr) (H : Hp) : Frm r H H := fun _ _ _ h => h
theorem Frm.trans {r : Addr} {H H1 H2 : Hp} (a : Frm r H H1) (b : Frm r H1 H2) : Frm r H H2 := fun x o hx h => b x o hx (a x o hx h)
theorem Frm.same {r : Addr} {H H1 : Hp} (a : Same H H1) : Frm r H H1 := fun x o _ h => a x o h
theorem Frm.upd_ {r : Addr} {H H1 : Hp} {o : HO} (a : Frm r H H1) : Frm r H (upd H1 r o) := fun x u hx h => by
  rw [upd_ne hx]; exact a x u hx h
theorem Frm.new {r p : Addr} {H H1 : Hp} {o : HO} (a : Frm r H H1) (h : H p = none) : Frm r H (upd H1 p o) := fun x u hx e => by
  rw [upd_ne (ne_of_none e h)]; exact a x u hx e
theorem DrawAt.same {H H1 : Hp} {r : Addr} {n : Nat} (h : DrawAt H r n) (s : Same H H1) : DrawAt H1 r n := by
  obtain ⟨a, b, c, e, x⟩ := h
  exact ⟨a, b, c, s _ _ e, x⟩
theorem DrawAt.mono {H : Hp} {r : Addr} {n m : Nat} (h : DrawAt H r n) (hm : n ≤ m) : DrawAt H r m := by
  obtain ⟨a, b, c, e, x, y, z⟩ := h
  exact ⟨a, b, c, e, x, y, by omega⟩
theorem DrawAt.upd_ {H : Hp} {r p : Addr} {n : Nat} {o : HO} (h : DrawAt H r n) (hp : r ≠ p) : DrawAt (upd H p o) r n := by
  obtain ⟨a, b, c, e, x⟩ := h
  exact ⟨a, b, c, by rw [upd_ne hp]; exact e, x⟩
theorem DrawAt.some_ {H : Hp} {r : Addr} {n : Nat} (h : DrawAt H r n) : ∃ o, H r = some o := by
  obtain ⟨a, b, c, e, x⟩ := h
  exact ⟨_, e⟩
section
variable {T : Tab} {K : PySem.W.Frag} {k : Nat} {H : Hp} {Q : VK} {E : XK}
theorem o_pow {i j : Int} (hc : 0 ≤ j ∧ (Builtin.Int.intBits i : Int) * j ≤ 2 ^ 27) (q : Q (.int (i ^ j.toNat)) H) : opBin .Pow (.int i) (.int j) H Q := ⟨hc, q⟩
theorem p6 : ((10 : Int) ^ (6 : Int).toNat) = 1000000 := by decide +kernel
theorem p18 : ((10 : Int) ^ (18 : Int).toNat) = 1000000000000000000 := by decide +kernel
def bigM : Int := (((10 : Int) ^ (60 : Int).toNat) ^ (60 : Int).toNat) ^ (4 : Int).toNat
theorem bigM_pos : 0 < bigM := by decide +kernel
theorem law_draws_ok (hx : T.has "_law_draws" f_law_draws) {i : Int} (q : ∀ r H1, H r = none → Same H H1 → DrawAt H1 r 0 → Q (.ref r) H1) : SPn T K (k + 1) "_law_draws" [.int i] H Q E := by
  refine SPn_of hx rfl ?_
  dsimp only [f_law_draws]
  walk_at "e"
  refine o_pow (by decide +kernel) ?_
  walk_at "e"
  refine o_pow (by decide +kernel) ?_
  walk_at "e"
  refine o_pow (by decide +kernel) ?_
  refine o_mod bigM_pos ?_
  walk_at "e"
  refine o_pow (by decide +kernel) ?_
  walk_at "e"
  refine ⟨fit (by simp), fun r H1 hr sm h1 => ?_⟩
  exact q r H1 hr sm ⟨_, _, _, h1, Int.emod_nonneg _ (Int.ne_of_gt bigM_pos), Int.le_refl _, Int.le_refl _⟩
theorem law_next_ok (hx : T.has "_law_next" f_law_next) {r : Addr} {n : Nat} (hr : DrawAt H r n) (hn : n ≤ 1000000)
    (q : ∀ (v : Nat) H1, Frm r H H1 → (∀ p, H p = none → H1 p = none) → DrawAt H1 r (n + 1) → Q (.int (v : Nat)) H1) : SPn T K (k + 1) "_law_next" [.ref r] H Q E := by
  obtain ⟨a, b, c, e, ha, hb, hbn⟩ := hr
  refine SPn_of hx rfl ?_
  dsimp only [f_law_next]
  walk_at "e"
  refine i_l e rfl ?_
  walk_at "e"
  refine ⟨_, 1, e, rfl, ?_⟩
  have e1 : upd H r (.lst [.int a, .int (b + 1), .bl c]) r = some (.lst [.int a, .int (b + 1), .bl c]) := upd_same
  have f1 : Frm r H (upd H r (.lst [.int a, .int (b + 1), .bl c])) := (Frm.refl r H).upd_
  have n1 : ∀ p, H p = none → upd H r (.lst [.int a, .int (b + 1), .bl c]) p = none := fun p hp => by
    rw [upd_ne (fun z => by rw [z, e] at hp; cases hp)]; exact hp
  show wpSs _ _ _ _ _ (upd H r (.lst [.int a, .int (b + 1), .bl c]))
  generalize upd H r (.lst [.int a, .int (b + 1), .bl c]) = H1 at e1 f1 n1
  walk_at "e"
  refine i_l e1 rfl ?_
  walk_at "e"
  refine i_l e1 rfl ?_
  walk_at "e"
  cases c with
  | true =>
    walk_at "e"
    refine i_l e1 rfl ?_
    walk_at "e"
    refine o_pow (by decide +kernel) ?_
    rw [p6]
    walk_at "e"
    refine i_l e1 rfl ?_
    walk_at "e"
    refine o_pow (by decide +kernel) ?_
    rw [p6]
    walk_at "e"
    refine ⟨_, 0, e1, rfl, ?_⟩
    walk_at "e"
    have hv : 0 ≤ a % 1000000 := Int.emod_nonneg _ (by decide)
    have ev : a % 1000000 = ((a % 1000000).toNat : Int) := by omega
    rw [ev]
    refine q _ _ f1.upd_ (fun p hp => ?_) ⟨a / 1000000, b + 1, true, upd_same, Int.ediv_nonneg ha (by decide), by omega, by omega⟩
    rw [upd_ne (fun z => by have := n1 p hp; rw [z, e1] at this; cases this)]
    exact n1 p hp
  | false =>
    walk_at "e"
    refine i_l e1 rfl ?_
    have m1 := mul_bd (a := b + 1) (A := 1000001) (b := b + 1) (B := 1000001) (by omega) (by omega) (by omega) (by omega)
    walk_at "e"
    generalize (((a % 1000003 + (b + 1) * (b + 1) * 7919 + (b + 1)) * 48271 % 2147483629) * ((a % 1000003 + (b + 1) * (b + 1) * 7919 + (b + 1)) * 48271 % 2147483629) % 2147483587) * (((a % 1000003 + (b + 1) * (b + 1) * 7919 + (b + 1)) * 48271 % 2147483629) * ((a % 1000003 + (b + 1) * (b + 1) * 7919 + (b + 1)) * 48271 % 2147483629) % 2147483587 + 2) = z
    have ev : z % 2147483579 / 7 = ((z % 2147483579 / 7).toNat : Int) := by omega
    rw [ev]
    exact q _ _ f1 n1 ⟨a, b + 1, false, e1, ha, by omega, by omega⟩
end

/-! ### pairs of tables -/
theorem getD_snoc (l : List Nat) (x i : Nat) : (l ++ [x]).getD i 0 = if i < l.length then l.getD i 0 else if i = l.length then x else 0 := by
  rw [List.getD_eq_getElem?_getD, List.getElem?_append]
  by_cases h : i < l.length
  · rw [if_pos h, if_pos h, List.getD_eq_getElem?_getD]
  · rw [if_neg h, if_neg h]
    by_cases e : i = l.length
    · subst e; simp
    · rw [if_neg e]
      have : i - l.length ≠ 0 := by omega
      obtain ⟨m, hm⟩ := Nat.exists_eq_succ_of_ne_zero this
      rw [hm]; simp
theorem getD_set (l : List Nat) (k x i : Nat) (hk : k < l.length) : (l.set k x).getD i 0 = if i = k then x else l.getD i 0 := by
  rw [List.getD_eq_getElem?_getD, List.getElem?_set]
  by_cases h : i = k
  · subst h; simp [hk]
  · rw [if_neg h, if_neg (fun e => h e.symm), List.getD_eq_getElem?_getD]
def UpTo (m : Nat) (us : List Nat) : Prop := ∀ i, i < us.length → i + 2 ≤ us.getD i 0 ∧ us.getD i 0 ≤ m + 1
theorem DnOk.snoc {ds : List Nat} {x : Nat} (h : DnOk ds) (hx : x ≤ ds.length) : DnOk (ds ++ [x]) := by
  intro i hi
  rw [getD_snoc]
  rw [List.length_append, List.length_singleton] at hi
  by_cases e : i < ds.length
  · rw [if_pos e]; exact h i e
  · rw [if_neg e, if_pos (by omega)]; omega
theorem UpTo.snoc {m : Nat} {us : List Nat} {x : Nat} (h : UpTo m us) (hx : us.length + 2 ≤ x ∧ x ≤ m + 1) : UpTo m (us ++ [x]) := by
  intro i hi
  rw [getD_snoc]
  rw [List.length_append, List.length_singleton] at hi
  by_cases e : i < us.length
  · rw [if_pos e]; exact h i e
  · rw [if_neg e, if_pos (by omega)]; omega
theorem DnOk.set {ds : List Nat} {k x : Nat} (h : DnOk ds) (hk : k < ds.length) (hx : x ≤ k) : DnOk (ds.set k x) := by
  intro i hi
  rw [getD_set _ _ _ _ hk]
  rw [List.length_set] at hi
  by_cases e : i = k
  · rw [if_pos e]; omega
  · rw [if_neg e]; exact h i hi
theorem UpOk.set {us : List Nat} {k x : Nat} (h : UpOk us) (hk : k < us.length) (hx : k + 2 ≤ x ∧ x ≤ us.length + 1) : UpOk (us.set k x) := by
  intro i hi
  rw [getD_set _ _ _ _ hk, List.length_set]
  rw [List.length_set] at hi
  by_cases e : i = k
  · rw [if_pos e]; omega
  · rw [if_neg e]; exact h i hi
/-- a pair of tables of at most m places -/
structure PrOk (m : Nat) (ds us : List Nat) : Prop where
  pos : 1 ≤ ds.length
  top : ds.length ≤ m
  len : us.length = ds.length
  dn : DnOk ds
  up : UpOk us
/-- a pair of tables at p -/
structure PairAt (H : Hp) (p d u : Addr) (ds us : List Nat) : Prop where
  hp : H p = some (.tup [.ref d, .ref u])
  hd : H d = some (.lst (nl ds))
  hu : H u = some (.lst (nl us))
  ne : d ≠ u
theorem PairAt.same {H H1 : Hp} {p d u : Addr} {ds us : List Nat} (h : PairAt H p d u ds us) (s : Same H H1) : PairAt H1 p d u ds us := ⟨s _ _ h.hp, s _ _ h.hd, s _ _ h.hu, h.ne⟩
theorem PairAt.frm {H H1 : Hp} {r p d u : Addr} {ds us : List Nat} (h : PairAt H p d u ds us) (s : Frm r H H1) (hp : p ≠ r ∧ d ≠ r ∧ u ≠ r) : PairAt H1 p d u ds us := ⟨s _ _ hp.1 h.hp, s _ _ hp.2.1 h.hd, s _ _ hp.2.2 h.hu, h.ne⟩
/-- what a maker of pairs promises -/
def Made (H : Hp) (r : Addr) (n m : Nat) (Q : VK) : Prop :=
  ∀ p d u ds us H1, H p = none → H d = none → H u = none → Frm r H H1 → DrawAt H1 r n → PairAt H1 p d u ds us → PrOk m ds us → Q (.ref p) H1
section
variable {T : Tab} {K : PySem.W.Frag} {k : Nat} {H : Hp} {Q : VK} {E : XK}
theorem ne_dr {H : Hp} {r p : Addr} {n : Nat} (h : DrawAt H r n) (hp : H p = none) : p ≠ r := by
  obtain ⟨o, e⟩ := h.some_
  intro z
  rw [z, e] at hp
  cases hp
theorem Frm.gone {H H1 : Hp} {r a : Addr} {n : Nat} (f : Frm r H H1) (h : DrawAt H1 r n) (ha : H1 a = none) : H a = none := by
  cases e : H a with
  | none => rfl
  | some o =>
    have := f a o (ne_dr h ha) e
    rw [this] at ha; cases ha
theorem law_pair_ok (hx : T.has "_law_pair" f_law_pair) (hy : T.has "_law_next" f_law_next) {r : Addr} {n m : Nat} (hr : DrawAt H r n) (hn : n ≤ 900000) (hm : 1 ≤ m ∧ m ≤ 16)
    (q : Made H r (n + 33) m Q) : SPn T K (k + 2) "_law_pair" [.ref r, .int (m : Nat)] H Q E := by
  refine SPn_of hx rfl ?_
  dsimp only [f_law_pair]
  walk_at "e"
  refine ⟨rfl, law_next_ok hy hr (by omega) fun v H1 f1 g1 r1 => ?_⟩
  walk_at "e"
  obtain ⟨l, hl⟩ : ∃ l : Nat, (1 : Int) + (v : Int) % (m : Int) = (l : Int) ∧ 1 ≤ l ∧ l ≤ m := by
    have h1 := Int.emod_nonneg (v : Int) (show (m : Int) ≠ 0 by omega)
    have h2 := Int.emod_lt_of_pos (v : Int) (show (0 : Int) < (m : Int) by omega)
    exact ⟨(1 + (v : Int) % (m : Int)).toNat, by omega, by omega, by omega⟩
  obtain ⟨el, hl⟩ := hl
  rw [el]
  walk_at "e"
  refine r_1 (by omega) (by omega) ?_
  intro d hd
  have hdr := ne_dr r1 hd
  have hr0 := hr.some_
  refine l_rng (fun i H' => ∃ ds, H' d = some (.lst (nl ds)) ∧ ds.length = i ∧ DnOk ds ∧ Frm r H1 H' ∧ DrawAt H' r (n + 1 + i)) ⟨[], upd_same, rfl, (fun i hi => by simp at hi), (Frm.refl _ _).new hd, r1.upd_ (Ne.symm hdr)⟩ ?_ ?_
  · rintro i H' hi ⟨ds, h1, e1, ok, f2, r2⟩
    walk_at "e"
    refine ⟨rfl, law_next_ok hy r2 (by omega) fun w H2 f3 g3 r3 => ?_⟩
    walk_at "e"
    have h2 := f3 _ _ hdr h1
    refine ⟨_, h2, fit1 (by simp; omega), ds ++ [w % (i + 1)], ?_, by simp [e1], ok.snoc (by rw [e1]; exact Nat.le_of_lt_succ (Nat.mod_lt _ (by omega))), (f2.trans f3).new hd, (r3.upd_ (Ne.symm hdr))⟩
    rw [upd_same, nl_append]
    have : ((0 : Int) + (i : Int) + 1) = ((i + 1 : Nat) : Int) := by omega
    rw [this]; rfl
  · rintro H2 ⟨ds, h1, e1, ok, f2, r2⟩
    have el2 : ((l : Int)).toNat = l := by omega
    rw [el2] at e1 r2
    walk_at "e"
    refine r_1 (by omega) (by omega) ?_
    intro u hu
    have hur := ne_dr r2 hu
    have hdu : d ≠ u := ne_of_none h1 hu
    refine l_rng (fun i H' => ∃ us, H' u = some (.lst (nl us)) ∧ us.length = i ∧ UpTo l us ∧ Frm r H2 H' ∧ DrawAt H' r (n + 1 + l + i)) ⟨[], upd_same, rfl, (fun i hi => by simp at hi), (Frm.refl _ _).new hu, r2.upd_ (Ne.symm hur)⟩ ?_ ?_
    · rintro i H' hi ⟨us, h3, e3, ok3, f3, r3⟩
      walk_at "e"
      refine ⟨rfl, law_next_ok hy r3 (by omega) fun w H3 f4 g4 r4 => ?_⟩
      rw [el2] at hi
      walk_at "e"
      have h4 := f4 _ _ hur h3
      have hmod := Nat.mod_lt w (show l - i > 0 by omega)
      refine ⟨_, h4, fit1 (by simp; omega), us ++ [i + 2 + w % (l - i)], ?_, by simp [e3], ok3.snoc (by omega), (f3.trans f4).new hu, (r4.upd_ (Ne.symm hur))⟩
      rw [upd_same, nl_append]
      have e5 : ((l : Int) - (0 + (i : Int))) = ((l - i : Nat) : Int) := by omega
      have e6 : ((0 : Int) + (i : Int) + 2) = ((i + 2 : Nat) : Int) := by omega
      rw [e5, e6]; rfl
    · rintro H3 ⟨us, h3, e3, ok3, f3, r3⟩
      rw [el2] at e3 r3
      walk_at "e"
      refine ⟨fit (by simp), fun p H4 hp sm h4 => ?_⟩
      have hd3 := f3 _ _ hdr h1
      have f13 := (f1.trans f2).trans f3
      refine q p d u ds us H4 (f13.gone r3 hp) (f1.gone r1 hd) ((f1.trans f2).gone r2 hu) (f13.trans (Frm.same sm)) ((r3.same sm).mono (by omega)) ⟨h4, sm _ _ hd3, sm _ _ h3, hdu⟩ ⟨by omega, by omega, by omega, ok, ?_⟩
      intro i hi
      rw [e3]
      exact ok3 i hi
end

/-! ### nested pairs -/
def tot (st : List (Addr × Nat × Nat)) : Nat := (st.map fun t => t.2.2 + 1 - t.2.1).sum
theorem tot_append (a b : List (Addr × Nat × Nat)) : tot (a ++ b) = tot a + tot b := by simp [tot]
def stD (st : List (Addr × Nat × Nat)) : PyData := .list (st.map fun t => .tuple [.int (t.2.1 : Nat), .int (t.2.2 : Nat)])
def StAt (H : Hp) (m : Nat) (st : List (Addr × Nat × Nat)) : Prop := ∀ t, t ∈ st → H t.1 = some (.tup [.int (t.2.1 : Nat), .int (t.2.2 : Nat)]) ∧ 1 ≤ t.2.1 ∧ t.2.1 ≤ t.2.2 ∧ t.2.2 ≤ m
theorem StAt.dp {K : PySem.W.Frag} {H : Hp} {m : Nat} : ∀ {st : List (Addr × Nat × Nat)}, StAt H m st → DpAll K H (st.map fun t => V.ref t.1) (st.map fun t => .tuple [.int (t.2.1 : Nat), .int (t.2.2 : Nat)])
  | [], _ => DpAll.nil
  | t :: st, h => DpAll.cons (dp_t (h t (by simp)).1 (dp2 (Dp.int _) (Dp.int _))) (StAt.dp fun x hx => h x (by simp [hx]))
theorem StAt.ok {H : Hp} {m : Nat} {st : List (Addr × Nat × Nat)} (h : StAt H m st) (hm : m ≤ 16) : DOk (stD st) 2 (85 * st.length) := by
  have := (DsOk.of_all (n := 1) (w := 84) (ds := st.map fun t => PyData.tuple [.int (t.2.1 : Nat), .int (t.2.2 : Nat)]) (fun d hd => by
    obtain ⟨t, ht, rfl⟩ := List.mem_map.mp hd
    have := (h t ht).2
    exact ((dOk_int (by omega)).mono (Nat.zero_le _) (Nat.le_refl _) |> fun a => ((DsOk.cons a (DsOk.cons (dOk_int (by omega)) DsOk.nil)).tuple : DOk _ (0 + 1) (41 + 1 + (41 + 1 + 0)))))).list
  rw [List.length_map] at this
  exact this
theorem eqv_stD (st : List (Addr × Nat × Nat)) : PyData.eqv (stD st) (.list []) = decide (st = []) := by
  unfold stD
  rw [PyData.eqv]
  cases st <;> simp [PyData.eqvAll]
theorem rep_if {p : Prop} [Decidable p] (xs : List V) : (List.replicate (if decide p = true then (1 : Int) else 0).toNat xs).flatten = if p then xs else [] := by
  by_cases h : p
  · rw [if_pos (decide_eq_true h), if_pos h]; simp
  · rw [if_neg (by simp [h]), if_neg h]; simp
theorem at4 {a b s j : Int} (h0 : 0 ≤ j) (h4 : j < 4) : ∃ z, atI [V.int a, V.int b, V.int s, V.int s] j = some (.int z) ∧ (z = a ∨ z = b ∨ z = s) := by
  have : j = 0 ∨ j = 1 ∨ j = 2 ∨ j = 3 := by omega
  rcases this with rfl | rfl | rfl | rfl
  · exact ⟨a, rfl, .inl rfl⟩
  · exact ⟨b, rfl, .inr (.inl rfl)⟩
  · exact ⟨s, rfl, .inr (.inr rfl)⟩
  · exact ⟨s, rfl, .inr (.inr rfl)⟩
theorem at_ne {H : Hp} {p q : Addr} {xs ys : List V} (h : H p = some (.tup xs)) (g : H q = some (.lst ys)) : p ≠ q := by
  intro e
  rw [e, g] at h
  cases h
section
variable {T : Tab} {K : PySem.W.Frag} {k : Nat} {H : Hp} {Q : VK} {E : XK}
theorem law_tree_ok (hx : T.has "_law_tree" f_law_tree) (hy : T.has "_law_next" f_law_next) {r : Addr} {n m : Nat} (hr : DrawAt H r n) (hn : n ≤ 900000) (hm : 1 ≤ m ∧ m ≤ 16)
    (q : Made H r (n + 33) m Q) : SPn T K (k + 2) "_law_tree" [.ref r, .int (m : Nat)] H Q E := by
  refine SPn_of hx rfl ?_
  dsimp only [f_law_tree]
  walk_at "e"
  refine ⟨rfl, law_next_ok hy hr (by omega) fun v H1 f1 g1 r1 => ?_⟩
  walk_at "e"
  obtain ⟨l, el, hl⟩ : ∃ l : Nat, (1 : Int) + (v : Int) % (m : Int) = (l : Int) ∧ 1 ≤ l ∧ l ≤ m := by
    have h1 := Int.emod_nonneg (v : Int) (show (m : Int) ≠ 0 by omega)
    have h2 := Int.emod_lt_of_pos (v : Int) (show (0 : Int) < (m : Int) by omega)
    exact ⟨(1 + (v : Int) % (m : Int)).toNat, by omega, by omega, by omega⟩
  rw [el]
  have rep0 : (List.replicate ((l : Int)).toNat [V.int 0]).flatten = nl (List.replicate l 0) := by
    have : ((l : Int)).toNat = l := by omega
    rw [this]
    induction l with
    | zero => rfl
    | succ l ih => simp [nl, List.replicate_succ]
  refine ⟨fit (by simp), fun a H2 ha s2 h2 => ?_⟩
  refine o_rep h2 (by omega) (by simp) ?_
  rw [rep0]
  intro d H3 hd s3 h3
  walk_at "e"
  refine ⟨fit (by simp), fun b H4 hb s4 h4 => ?_⟩
  refine o_rep h4 (by omega) (by simp) ?_
  rw [rep0]
  intro u H5 hu s5 h5
  walk_at "e"
  refine ⟨fit (by simp), fun t H6 ht s6 h6 => ?_⟩
  walk_at "e"
  refine ⟨fit (by simp), fun w H7 hw s7 h7 => ?_⟩
  have d4 := s4 _ _ h3
  have hdu : d ≠ u := ne_of_none d4 hu
  have d7 := s7 _ _ (s6 _ _ (s5 _ _ d4))
  have u7 := s7 _ _ (s6 _ _ h5)
  have t7 := s7 _ _ h6
  have s17 : Same H1 H7 := ((((s2.trans s3).trans s4).trans s5).trans s6).trans s7
  have f17 : Frm r H H7 := f1.trans (Frm.same s17)
  have r7 := r1.same s17
  have gd : H d = none := f1.gone r1 (s2.free hd)
  have gu : H u = none := f1.gone r1 ((((s2.trans s3).trans s4)).free hu)
  have gw : H w = none := f1.gone r1 (((((s2.trans s3).trans s4).trans s5).trans s6).free hw)
  have dw : d ≠ w := ne_of_none (s6 _ _ (s5 _ _ d4)) hw
  have uw : u ≠ w := ne_of_none (s6 _ _ h5) hw
  have hdr := ne_dr hr gd
  have hur := ne_dr hr gu
  clear h2 h4 s2 s3 s4 s5 s6 s7 hd hu ht hw h3 h5 h6 d4 ha hb
  walk_at "e"
  refine f_while (fun c σ H' => ∃ x6 x7 x8 x9 x10 w st ds us, σ = [some (.ref r), some (.int (m : Nat)), some (.int (l : Nat)), some (.ref d), some (.ref u), some (.ref w), x6, x7, x8, x9, x10] ∧
      H' w = some (.lst (st.map fun t => V.ref t.1)) ∧ StAt H' l st ∧ H w = none ∧ d ≠ w ∧ u ≠ w ∧ H' d = some (.lst (nl ds)) ∧ H' u = some (.lst (nl us)) ∧ ds.length = l ∧ us.length = l ∧ DnOk ds ∧
      (∀ i, i < l → (i + 2 ≤ us.getD i 0 ∧ us.getD i 0 ≤ l + 1) ∨ ∃ t, t ∈ st ∧ t.2.1 ≤ i + 1 ∧ i + 1 ≤ t.2.2) ∧ Frm r H H' ∧ c = tot st ∧ c ≤ l ∧ DrawAt H' r (n + 1 + (l - c))) l
    ⟨none, none, none, none, none, w, [(t, 1, l)], List.replicate l 0, List.replicate l 0, rfl, h7, ?_, gw, dw, uw, d7, u7, by simp, by simp, ?_, ?_, f17, ?_, Nat.le_refl _, r7.mono (by omega)⟩ ?_
  · intro x hx
    rw [List.mem_singleton.mp hx]
    exact ⟨t7, Nat.le_refl _, hl.1, Nat.le_refl _⟩
  · intro i hi
    simp [List.getD_eq_getElem?_getD, List.getElem?_replicate]
    split <;> simp
  · intro i hi
    exact .inr ⟨_, List.mem_singleton.mpr rfl, by simp, by simp; omega⟩
  · simp [tot]
  · clear t7 d7 u7 h7 f17 r7 gw dw uw s17 t w rep0
    rintro c σ' H' ⟨x6, x7, x8, x9, x10, w, st, ds, us, rfl, hw, hst, gw, dw, uw, hd, hu, ld, lu, okd, oku, fr, rfl, hc, rr⟩
    walk_at "e"
    refine ⟨fit (by simp), fun z H2 hz sz h2 => ?_⟩
    have hw2 := sz _ _ hw
    have hst2 : StAt H2 l st := fun t ht => ⟨sz _ _ (hst t ht).1, (hst t ht).2⟩
    refine c_neR (d := stD st) (dp_l hw2 hst2.dp) (dp_l h2 DpAll.nil) (hst2.ok (by omega)) (DsOk.nil (n := 0) (w := 0)).list (by omega) (by omega) ?_
    rw [eqv_stD st]
    rcases List.eq_nil_or_concat st with rfl | ⟨st', t, rfl⟩
    · walk_at "e"
      simp only [decide_true]
      walk_at "e"
      refine ⟨fit (by simp), fun p H3 hp s3 h3 => ?_⟩
      have ss := sz.trans s3
      have f3 := fr.trans (Frm.same ss)
      refine q p d u ds us H3 ((fr.trans (Frm.same sz)).gone (rr.same sz) hp) gd gu f3 ((rr.same ss).mono (by omega)) ⟨h3, ss _ _ hd, ss _ _ hu, hdu⟩ ⟨by omega, by omega, by omega, okd, ?_⟩
      intro i hi
      rcases oku i (by omega) with e | ⟨t, ht, _⟩
      · omega
      · cases ht
    · rw [List.concat_eq_append] at *
      have hf : decide (st' ++ [t] = []) = false := by simp
      rw [hf]
      obtain ⟨a, lo, hi⟩ := t
      have ht := (hst2 (a, lo, hi) (by simp)).2
      have ht1 := (hst2 (a, lo, hi) (by simp)).1
      dsimp only at ht ht1
      have hst3 : StAt H2 l st' := fun t h => hst2 t (by simp [h])
      rw [List.map_append, List.map_cons, List.map_nil] at hw2
      walk_at "e"
      simp only [hw2]
      walk_at "e"
      refine m_pop hw2 ?_
      have hd2 := sz _ _ hd
      have hu2 := sz _ _ hu
      have ww := upd_same (H := H2) (a := w) (o := .lst (st'.map fun t => V.ref t.1))
      have wd : upd H2 w (.lst (st'.map fun t => V.ref t.1)) d = some (.lst (nl ds)) := by rw [upd_ne dw]; exact hd2
      have wu : upd H2 w (.lst (st'.map fun t => V.ref t.1)) u = some (.lst (nl us)) := by rw [upd_ne uw]; exact hu2
      have wt : upd H2 w (.lst (st'.map fun t => V.ref t.1)) a = some (.tup [.int (lo : Nat), .int (hi : Nat)]) := by rw [upd_ne (at_ne ht1 hw2)]; exact ht1
      have ws : StAt (upd H2 w (.lst (st'.map fun t => V.ref t.1))) l st' := fun t h => ⟨by rw [upd_ne (at_ne (hst3 t h).1 hw2)]; exact (hst3 t h).1, (hst3 t h).2⟩
      have wf : Frm r H (upd H2 w (.lst (st'.map fun t => V.ref t.1))) := (fr.trans (Frm.same sz)).new gw
      have wr : r ≠ w := Ne.symm (ne_dr hr gw)
      have wrr := (rr.same sz).upd_ (p := w) (o := .lst (st'.map fun t => V.ref t.1)) wr
      rw [tot_append] at hc wrr
      have e1 : tot [(a, lo, hi)] = hi + 1 - lo := by simp [tot]
      rw [e1] at hc wrr
      generalize upd H2 w (.lst (st'.map fun t => V.ref t.1)) = H3 at ww wd wu wt ws wf wrr
      clear hw hst hw2 hst2 hst3 hd2 hu2 rr hd hu fr sz ht1 h2
      walk_at "e"
      refine ⟨rfl, ?_⟩
      walk_at "e"
      refine ⟨rfl, law_next_ok hy wrr (by omega) fun v H4 f4 g4 r4 => ?_⟩
      have ww4 := f4 _ _ (Ne.symm wr) ww
      have wd4 := f4 _ _ hdr wd
      have wu4 := f4 _ _ hur wu
      have ws4 : StAt H4 l st' := fun t h => ⟨f4 _ _ (fun e => by obtain ⟨x, y, c, e', _⟩ := wrr; have := (ws t h).1; rw [e, e'] at this; cases this) (ws t h).1, (ws t h).2⟩
      have wf4 := wf.trans f4
      clear ww wd wu wt ws wrr f4
      walk_at "e"
      obtain ⟨s, es, hs⟩ : ∃ s : Nat, (lo : Int) + (v : Int) / 4 % ((hi : Int) - (lo : Int) + 1) = (s : Int) ∧ lo ≤ s ∧ s ≤ hi := by
        have h1 := Int.emod_nonneg ((v : Int) / 4) (show ((hi : Int) - (lo : Int) + 1) ≠ 0 by omega)
        have h2 := Int.emod_lt_of_pos ((v : Int) / 4) (show (0 : Int) < ((hi : Int) - (lo : Int) + 1) by omega)
        exact ⟨((lo : Int) + (v : Int) / 4 % ((hi : Int) - (lo : Int) + 1)).toNat, by omega, by omega, by omega⟩
      rw [es]
      refine ⟨fit (by simp), fun y H5 hy5 s5 h5 => ?_⟩
      walk_at "e"
      obtain ⟨z, ez, hz⟩ := at4 (a := lo) (b := hi) (s := s) (j := (v : Int) % 4) (by omega) (by omega)
      refine i_l h5 ez ?_
      obtain ⟨rt, rfl⟩ : ∃ rt : Nat, z = (rt : Int) := ⟨z.toNat, by omega⟩
      have hrt : lo ≤ rt ∧ rt ≤ hi := by omega
      have wd5 := s5 _ _ wd4
      have wu5 := s5 _ _ wu4
      have e7 : ((rt : Int) - 1).toNat = rt - 1 := by omega
      have e8 : (lo : Int) - 1 = ((lo - 1 : Nat) : Int) := by omega
      have e9 : (hi : Int) + 1 = ((hi + 1 : Nat) : Int) := by omega
      walk_at "e"
      refine ⟨_, rt - 1, wd5, (by rw [ixN_of (by omega) (by simp; omega), e7]), ?_⟩
      rw [e8, nl_set]
      walk_at "e"
      refine ⟨_, rt - 1, (by rw [upd_ne (Ne.symm hdu)]; exact wu5), (by rw [ixN_of (by omega) (by simp; omega), e7]), ?_⟩
      rw [e9, nl_set]
      have k1 := upd_same (H := upd H5 d (.lst (nl (ds.set (rt - 1) (lo - 1))))) (a := u) (o := .lst (nl (us.set (rt - 1) (hi + 1))))
      have kd : upd (upd H5 d (.lst (nl (ds.set (rt - 1) (lo - 1))))) u (.lst (nl (us.set (rt - 1) (hi + 1)))) d = some (.lst (nl (ds.set (rt - 1) (lo - 1)))) := by rw [upd_ne hdu, upd_same]
      have kw : upd (upd H5 d (.lst (nl (ds.set (rt - 1) (lo - 1))))) u (.lst (nl (us.set (rt - 1) (hi + 1)))) w = some (.lst (st'.map fun t => V.ref t.1)) := by rw [upd_ne (Ne.symm uw), upd_ne (Ne.symm dw)]; exact s5 _ _ ww4
      have ks : StAt (upd (upd H5 d (.lst (nl (ds.set (rt - 1) (lo - 1))))) u (.lst (nl (us.set (rt - 1) (hi + 1))))) l st' := fun t h => ⟨by
        have := s5 _ _ (ws4 t h).1
        rw [upd_ne (at_ne this wu5), upd_ne (at_ne this wd5)]; exact this, (ws4 t h).2⟩
      have kf : Frm r H (upd (upd H5 d (.lst (nl (ds.set (rt - 1) (lo - 1))))) u (.lst (nl (us.set (rt - 1) (hi + 1))))) := ((wf4.trans (Frm.same s5)).new gd).new gu
      have kr := ((r4.same s5).upd_ (p := d) (o := .lst (nl (ds.set (rt - 1) (lo - 1)))) (Ne.symm hdr)).upd_ (p := u) (o := .lst (nl (us.set (rt - 1) (hi + 1)))) (Ne.symm hur)
      generalize upd (upd H5 d (.lst (nl (ds.set (rt - 1) (lo - 1))))) u (.lst (nl (us.set (rt - 1) (hi + 1)))) = H6 at k1 kd kw ks kf kr
      clear ww4 wd4 wu4 ws4 wf4 r4 h5 s5 wd5 wu5 ez
      have e10 : (rt : Int) - 1 = ((rt - 1 : Nat) : Int) := by omega
      have e11 : (rt : Int) + 1 = ((rt + 1 : Nat) : Int) := by omega
      have lst' : st'.length ≤ 16 := by
        have : ∀ xs : List (Addr × Nat × Nat), (∀ t, t ∈ xs → t.2.1 ≤ t.2.2) → xs.length ≤ tot xs := by
          intro xs
          induction xs with
          | nil => intro _; exact Nat.zero_le _
          | cons t xs ih =>
            intro hh
            have h1 := ih fun t h => hh t (by simp [h])
            have h2 := hh t (by simp)
            have h3 : tot (t :: xs) = (t.2.2 + 1 - t.2.1) + tot xs := by simp [tot]
            rw [h3, List.length_cons]; omega
        have := this st' fun t h => (ks t h).2.2.1
        omega
      walk_at "e"
      refine ⟨fit (by simp), fun t1 H7 ht1 s7 h7 => ?_⟩
      walk_at "e"
      refine ⟨fit (by simp), fun b1 H8 hb1 s8 h8 => ?_⟩
      walk_at "e"
      refine o_rep h8 (by split <;> omega) (by simp) ?_
      rw [rep_if]
      intro c1 H9 hc1 s9 h9
      refine o_cat (s9 _ _ (s8 _ _ (s7 _ _ kw))) h9 (fit (by simp; split <;> simp <;> omega)) ?_
      intro w1 H10 hw1 s10 h10
      walk_at "e"
      refine ⟨fit (by simp), fun t2 H11 ht2 s11 h11 => ?_⟩
      walk_at "e"
      refine ⟨fit (by simp), fun b2 H12 hb2 s12 h12 => ?_⟩
      walk_at "e"
      refine o_rep h12 (by split <;> omega) (by simp) ?_
      rw [rep_if]
      intro c2 H13 hc2 s13 h13
      refine o_cat (s13 _ _ (s12 _ _ (s11 _ _ h10))) h13 (fit (by simp; split <;> split <;> simp <;> omega)) ?_
      intro w2 H14 hw2 s14 h14
      walk_at "e"
      have ss : Same H6 H13 := (((((s7.trans s8).trans s9).trans s10).trans s11).trans s12).trans s13
      have t14 : H14 t1 = some (.tup [.int (lo : Nat), .int ((rt - 1 : Nat) : Int)]) := by
        rw [← e10]; exact s14 _ _ (s13 _ _ (s12 _ _ (s11 _ _ (s10 _ _ (s9 _ _ (s8 _ _ h7))))))
      have t24 : H14 t2 = some (.tup [.int ((rt + 1 : Nat) : Int), .int (hi : Nat)]) := by
        rw [← e11]; exact s14 _ _ (s13 _ _ (s12 _ _ h11))
      have ss4 := ss.trans s14
      have c1 : (decide ((lo : Int) < (rt : Int)) = true) ↔ lo < rt := by rw [decide_eq_true_iff]; omega
      have etot : tot (st' ++ (if lo < rt then [(t1, lo, rt - 1)] else []) ++ (if rt < hi then [(t2, rt + 1, hi)] else [])) = tot st' + (hi - lo) := by
        rw [tot_append, tot_append]
        split <;> split <;> simp [tot] <;> omega
      refine ⟨_, ?_, _, _, _, _, _, w2, st' ++ (if lo < rt then [(t1, lo, rt - 1)] else []) ++ (if rt < hi then [(t2, rt + 1, hi)] else []), ds.set (rt - 1) (lo - 1), us.set (rt - 1) (hi + 1), rfl, ?_, ?_, (kf.trans (Frm.same ss)).gone (kr.same ss) hw2, ne_of_none (ss _ _ kd) hw2, ne_of_none (ss _ _ k1) hw2, ss4 _ _ kd, ss4 _ _ k1, by simp [ld], by simp [lu], okd.set (by omega) (by omega), ?_, kf.trans (Frm.same ss4), rfl, ?_, (kr.same ss4).mono ?_⟩
      · rw [etot, tot_append, e1]; omega
      · rw [h14]
        have i1 : ((lo : Int) < (rt : Int)) ↔ lo < rt := by omega
        have i2 : ((rt : Int) < (hi : Int)) ↔ rt < hi := by omega
        simp only [i1, i2]
        split <;> split <;> simp
      · intro t ht
        rcases List.mem_append.mp ht with ht | ht
        · rcases List.mem_append.mp ht with ht | ht
          · exact ⟨ss4 _ _ (ks t ht).1, (ks t ht).2⟩
          · split at ht
            · rw [List.mem_singleton.mp ht]; exact ⟨t14, by dsimp only; omega⟩
            · cases ht
        · split at ht
          · rw [List.mem_singleton.mp ht]; exact ⟨t24, by dsimp only; omega⟩
          · cases ht
      · intro i hi'
        rw [getD_set _ _ _ _ (by omega)]
        by_cases ei : i = rt - 1
        · left; rw [if_pos ei]; omega
        · rw [if_neg ei]
          rcases oku i hi' with h | ⟨t, ht, h1, h2⟩
          · exact .inl h
          · right
            rcases List.mem_append.mp ht with ht | ht
            · exact ⟨t, by simp [ht], h1, h2⟩
            · rw [List.mem_singleton.mp ht] at h1 h2
              dsimp only at h1 h2
              by_cases hlt : i + 1 < rt
              · refine ⟨(t1, lo, rt - 1), ?_, h1, by dsimp only; omega⟩
                rw [if_pos (show lo < rt by omega)]; simp
              · refine ⟨(t2, rt + 1, hi), ?_, by dsimp only; omega, h2⟩
                rw [if_pos (show rt < hi by omega)]; simp
      · rw [etot]; omega
      · rw [etot]; omega
end

/-! ### bent pairs, any pairs -/
section
variable {T : Tab} {K : PySem.W.Frag} {k : Nat} {H : Hp} {Q : VK} {E : XK}
theorem law_bent_ok (hx : T.has "_law_bent" f_law_bent) (hy : T.has "_law_next" f_law_next) {r : Addr} {n m : Nat} (hr : DrawAt H r n) (hn : n ≤ 900000) (hm : m ≤ 16) {p0 d0 u0 : Addr} {ds0 us0 : List Nat} (hp : PairAt H p0 d0 u0 ds0 us0) (ok : PrOk m ds0 us0) (hne : p0 ≠ r ∧ d0 ≠ r ∧ u0 ≠ r)
    (q : Made H r (n + 4) m Q) : SPn T K (k + 2) "_law_bent" [.ref r, .ref p0] H Q E := by
  obtain ⟨hp, hd0, hu0, hne0⟩ := hp
  refine SPn_of hx rfl ?_
  dsimp only [f_law_bent]
  walk_at "e"
  intro d H1 hd s1 h1
  have hp1 := s1 _ _ hp
  have hu1 := s1 _ _ hu0
  walk_at "e"
  intro u H2 hu s2 h2
  walk_at "e"
  refine ⟨rfl, ?_⟩
  have ss := s1.trans s2
  have r2 := hr.same ss
  have hdr := ne_dr hr hd
  have gu : H u = none := s1.free hu
  have hur := ne_dr hr gu
  have hdu : d ≠ u := ne_of_none h1 hu
  walk_at "e"
  refine ⟨rfl, law_next_ok hy r2 (by omega) fun v H3 f3 g3 r3 => ?_⟩
  walk_at "e"
  refine r_1 (by omega) (by omega) ?_
  have hp3 : H3 p0 = _ := f3 _ _ hne.1 (ss _ _ hp)
  refine f_rng (fun i σ H' => ∃ x2 x5 x6 ds us, σ = [some (.ref r), some (.ref p0), x2, some (.ref d), some (.ref u), x5, x6] ∧ H' d = some (.lst (nl ds)) ∧ H' u = some (.lst (nl us)) ∧ PrOk m ds us ∧ Frm r H H' ∧ DrawAt H' r (n + 1 + i))
    ⟨none, none, none, ds0, us0, rfl, f3 _ _ hdr (s2 _ _ h1), f3 _ _ hur h2, ok, (Frm.same ss).trans f3, r3⟩ ?_ ?_
  · rintro i σ' H' hi ⟨x2, x5, x6, ds, us, rfl, kd, ku, ok, kf, kr⟩
    have hi3 : i < 3 := by omega
    walk_at "e"
    refine ⟨rfl, law_next_ok hy kr (by omega) fun v H4 f4 g4 r4 => ?_⟩
    have kd4 := f4 _ _ hdr kd
    have ku4 := f4 _ _ hur ku
    have okp := ok.pos
    have okt := ok.top
    have okl := ok.len
    walk_at "e"
    obtain ⟨z, ez, hz⟩ : ∃ z : Nat, (v : Int) / 2 % (ds.length : Int) = (z : Int) ∧ z < ds.length :=
      ⟨v / 2 % ds.length, rfl, Nat.mod_lt _ (by omega)⟩
    rw [ez]
    refine if_dec (fun hc => ?_) (fun hc => ?_)
    · walk_at "e"
      refine ⟨_, z, kd4, (by rw [ixN_of (by omega) (by simp; omega)]; rfl), ?_⟩
      walk_at "e"
      have e1 : (v : Int) / 32 % ((z : Int) + 1) = ((v / 32 % (z + 1) : Nat) : Int) := rfl
      rw [e1, nl_set]
      exact ⟨_, _, _, ds.set z (v / 32 % (z + 1)), us, rfl, upd_same, (by rw [upd_ne (Ne.symm hdu)]; exact ku4), ⟨by simp; omega, by simp; omega, by simp; omega, ok.dn.set hz (Nat.le_of_lt_succ (Nat.mod_lt _ (by omega))), ok.up⟩, (kf.trans f4).new hd, r4.upd_ (Ne.symm hdr)⟩
    · walk_at "e"
      refine ⟨_, z, ku4, (by rw [ixN_of (by omega) (by simp; omega)]; rfl), ?_⟩
      walk_at "e"
      have e0 : (ds.length : Int) - (z : Int) = ((ds.length - z : Nat) : Int) := by omega
      have e1 : (z : Int) + 2 + (v : Int) / 32 % ((ds.length : Int) - (z : Int)) = ((z + 2 + v / 32 % (ds.length - z) : Nat) : Int) := by rw [e0]; rfl
      rw [e1, nl_set]
      have hmod := Nat.mod_lt (v / 32) (show ds.length - z > 0 by omega)
      exact ⟨_, _, _, ds, us.set z (z + 2 + v / 32 % (ds.length - z)), rfl, (by rw [upd_ne hdu]; exact kd4), upd_same, ⟨ok.pos, ok.top, by simp; omega, ok.dn, ok.up.set (by omega) (by omega)⟩, (kf.trans f4).new gu, r4.upd_ (Ne.symm hur)⟩
  · rintro σ' H' ⟨x2, x5, x6, ds, us, rfl, kd, ku, ok, kf, kr⟩
    walk_at "e"
    refine ⟨fit (by simp), fun p H4 hp4 s4 h4 => ?_⟩
    exact q p d u ds us H4 (kf.gone kr hp4) hd gu (kf.trans (Frm.same s4)) ((kr.same s4).mono (by omega)) ⟨h4, s4 _ _ kd, s4 _ _ ku, hdu⟩ ok
theorem Made.of {H H1 : Hp} {r : Addr} {n n' m : Nat} (q : Made H r n' m Q) (f : Frm r H H1) (h : DrawAt H1 r n) {n2 : Nat} (hn : n2 ≤ n') : Made H1 r n2 m Q := fun p d u ds us H2 hp hd hu f2 r2 a b =>
  q p d u ds us H2 (f.gone h hp) (f.gone h hd) (f.gone h hu) (f.trans f2) (r2.mono hn) a b
theorem law_any_ok (hx : T.has "_law_any" f_law_any) (hy : T.has "_law_next" f_law_next) (h1 : T.has "_law_pair" f_law_pair) (h2 : T.has "_law_tree" f_law_tree) (h3 : T.has "_law_bent" f_law_bent)
    {r : Addr} {n m : Nat} (hr : DrawAt H r n) (hn : n ≤ 800000) (hm : 1 ≤ m ∧ m ≤ 16)
    (q : Made H r (n + 40) m Q) : SPn T K (k + 3) "_law_any" [.ref r, .int (m : Nat)] H Q E := by
  refine SPn_of hx rfl ?_
  dsimp only [f_law_any]
  walk_at "e"
  refine ⟨rfl, law_next_ok hy hr (by omega) fun v H1 f1 g1 r1 => ?_⟩
  walk_at "e"
  refine if_dec (fun hc => ?_) (fun hc => ?_)
  · walk_at "e"
    exact ⟨rfl, law_pair_ok h1 hy r1 (by omega) hm (q.of f1 r1 (by omega))⟩
  · walk_at "e"
    refine ⟨rfl, law_tree_ok h2 hy r1 (by omega) hm fun p d u ds us H2 hp hd hu f2 r2 a b => ?_⟩
    walk_at "e"
    refine if_dec (fun hc2 => ?_) (fun hc2 => ?_)
    · walk_at "e"
      exact ⟨rfl, law_bent_ok h3 hy r2 (by omega) hm.2 a b ⟨ne_dr r1 hp, ne_dr r1 hd, ne_dr r1 hu⟩ (q.of (f1.trans f2) r2 (by omega))⟩
    · walk_at "e"
      exact (q.of f1 r1 (Nat.le_refl _)) p d u ds us H2 hp hd hu f2 (r2.mono (by omega)) a b
end

/-! ### k01: walks -/
theorem wD_mem {ds : List Nat} (ok : DnOk ds) {x : Nat} : ∀ (n p : Nat), p ≤ n → p ≤ ds.length → x ∈ wD ds p → x ≤ p
  | 0, p, h, _, hm => by
    have : p = 0 := by omega
    subst this
    rw [wD_zero] at hm; cases hm
  | n + 1, p, h, hp, hm => by
    by_cases h0 : p = 0
    · subst h0; rw [wD_zero] at hm; cases hm
    · have := ok (p - 1) (by omega)
      rw [wD_pos ok (by omega) hp] at hm
      rcases List.mem_cons.mp hm with e | hm
      · omega
      · have := wD_mem ok n _ (by omega) (by omega) hm
        omega
theorem walkU_mem {us : List Nat} {x : Nat} : ∀ (f p : Nat), x ∈ walkU us f p → x ≤ us.length
  | 0, p, h => by cases h
  | f + 1, p, h => by
    unfold walkU at h
    split at h
    · rcases List.mem_cons.mp h with e | h
      · omega
      · exact walkU_mem f _ h
    · cases h
/-- the walks from p, as data -/
def dWk (ds us : List Nat) (p : Nat) : PyData := .list [dN (wD ds p), dN (wU us p)]
def dPr (ds us : List Nat) : PyData := .tuple [dN ds, dN us]
theorem dOk_wk {m : Nat} {ds us : List Nat} (ok : PrOk m ds us) (hm : m ≤ 16) {p : Nat} (h0 : 0 < p) (hp : p ≤ ds.length) : DOk (dWk ds us p) 2 5000 := by
  have t := ok.top
  have l := ok.len
  have h1 := wD_len ok.dn p p (Nat.le_refl _) hp
  have h2 := wU_small ok.up h0
  have a := (dOk_dN (ns := wD ds p) fun n hn => by have := wD_mem ok.dn p p (Nat.le_refl _) hp hn; omega)
  have b := (dOk_dN (ns := wU us p) fun n hn => by have := walkU_mem _ _ hn; omega)
  exact (((DsOk.cons a (DsOk.cons b DsOk.nil)).list).mono (Nat.le_refl _) (u := 5000) (by show 42 * (wD ds p).length + 1 + (42 * (wU us p).length + 1 + 0) ≤ 5000; omega))
theorem dOk_pr {m : Nat} {ds us : List Nat} (ok : PrOk m ds us) (hm : m ≤ 16) : DOk (dPr ds us) 2 5000 := by
  have t := ok.top
  have l := ok.len
  have a := (dOk_dN (ns := ds) fun n hn => by
    obtain ⟨i, hi, e⟩ := List.getElem_of_mem hn
    have := ok.dn i hi
    rw [List.getD_eq_getElem?_getD, List.getElem?_eq_getElem hi, Option.getD_some, e] at this; omega)
  have b := (dOk_dN (ns := us) fun n hn => by
    obtain ⟨i, hi, e⟩ := List.getElem_of_mem hn
    have := ok.up i hi
    rw [List.getD_eq_getElem?_getD, List.getElem?_eq_getElem hi, Option.getD_some, e] at this; omega)
  exact (((DsOk.cons a (DsOk.cons b DsOk.nil)).tuple).mono (Nat.le_refl _) (u := 5000) (by show 42 * ds.length + 1 + (42 * us.length + 1 + 0) ≤ 5000; omega))
theorem PairAt.dp {K : PySem.W.Frag} {H : Hp} {p d u : Addr} {ds us : List Nat} (h : PairAt H p d u ds us) : Dp K H (.ref p) (dPr ds us) := dp_t h.hp (dp2 (dp_nl h.hd) (dp_nl h.hu))
theorem dp_wk {K : PySem.W.Frag} {H : Hp} {t a b : Addr} {ds us : List Nat} {p : Nat} (h : H t = some (.lst [.ref a, .ref b])) (ha : H a = some (.lst (nl (wD ds p)))) (hb : H b = some (.lst (nl (wU us p)))) : Dp K H (.ref t) (dWk ds us p) := dp_l h (dp2 (dp_nl ha) (dp_nl hb))
/-- the defs of the walks -/
structure HasW (T : Tab) : Prop where
  wd : T.has "walk_down" f_walk_down
  wu : T.has "walk_up" f_walk_up
  cd : T.has "check_down" f_check_down
  cu : T.has "check_up" f_check_up
  cp : T.has "check_place" f_check_place
  iw : T.has "is_whole" f_is_whole
  sd : T.has "steps_down" f_steps_down
  su : T.has "steps_up" f_steps_up
  mp : T.cons.lookup ("MOST_PLACES" : Str) = some (.int 16)

structure HasM (T : Tab) : Prop where
  dr : T.has "_law_draws" f_law_draws
  nx : T.has "_law_next" f_law_next
  pr : T.has "_law_pair" f_law_pair
  tr : T.has "_law_tree" f_law_tree
  bt : T.has "_law_bent" f_law_bent
  an : T.has "_law_any" f_law_any
theorem Scr.on {K : PySem.W.Frag} {H : Hp} {a : Addr} {xs : List V} {F : List V → Prop} (h : Scr K H a xs) (q : F xs) : onL K H a F := by
  unfold onL
  rcases h.here with ⟨o, e⟩ | ⟨e, s⟩
  · rw [e]; exact q
  · rw [e]; exact ⟨xs, s, q⟩
theorem cut_hi (ns : List Int) (j : Nat) : cutV (ns.map V.int) none (some (j : Int)) = il (ns.take j) := by
  unfold cutV
  rw [HT.sIx_none, HT.sIx_nat]
  simp only [List.drop_zero, Nat.sub_zero, il, List.length_map, List.map_take]
  rw [← List.map_take, ← List.map_take]
  congr 1
  by_cases h : j ≤ ns.length
  · rw [Nat.min_eq_left h]
  · rw [Nat.min_eq_right (by omega), List.take_length, List.take_of_length_le (by omega)]
theorem DrawAt.frm {H H1 : Hp} {r x : Addr} {n : Nat} (h : DrawAt H x n) (f : Frm r H H1) (hx : x ≠ r) : DrawAt H1 x n := by
  obtain ⟨a, b, c, e, y⟩ := h
  exact ⟨a, b, c, f _ _ hx e, y⟩
/-- all draws of a list -/
def DrawsAt (H : Hp) (w : Addr) (rs : List Addr) (n : Nat) : Prop := H w = some (.lst (rs.map V.ref)) ∧ ∀ r, r ∈ rs → r ≠ w ∧ DrawAt H r n
theorem DrawsAt.same {H H1 : Hp} {w : Addr} {rs : List Addr} {n : Nat} (h : DrawsAt H w rs n) (s : Same H H1) : DrawsAt H1 w rs n := ⟨s _ _ h.1, fun r hr => ⟨(h.2 r hr).1, (h.2 r hr).2.same s⟩⟩
theorem DrawsAt.step {H H1 : Hp} {w r : Addr} {rs : List Addr} {n m : Nat} (h : DrawsAt H w rs n) (hr : r ∈ rs) (f : Frm r H H1) (d : DrawAt H1 r m) (hm : n ≤ m) : DrawsAt H1 w rs m := by
  refine ⟨f _ _ (Ne.symm (h.2 r hr).1) h.1, fun x hx => ⟨(h.2 x hx).1, ?_⟩⟩
  by_cases e : x = r
  · rw [e]; exact d
  · exact ((h.2 x hx).2.frm f e).mono hm
theorem DrawsAt.mono {H : Hp} {w : Addr} {rs : List Addr} {n m : Nat} (h : DrawsAt H w rs n) (hm : n ≤ m) : DrawsAt H w rs m := ⟨h.1, fun r hr => ⟨(h.2 r hr).1, (h.2 r hr).2.mono hm⟩⟩
theorem map_ref_at {rs : List Addr} {i : Nat} {x : V} (h : (rs.map V.ref)[i]? = some x) : ∃ r, r ∈ rs ∧ x = .ref r ∧ i < rs.length := by
  rw [List.getElem?_map] at h
  cases e : rs[i]? with
  | none => rw [e] at h; cases h
  | some r =>
    rw [e] at h
    exact ⟨r, List.mem_of_getElem? e, (Option.some.inj h).symm, (List.getElem?_eq_some_iff.mp e).1⟩
section
variable {T : Tab} {K : PySem.W.Frag} {k : Nat} {H : Hp} {Q : VK} {E : XK}
/-- [_law_draws(cell) for cell in cells] -/
theorem draws_comp {n : Nat} {σ : L2.St} {a : Addr} {ms : List Int} (hx : T.has "_law_draws" f_law_draws) (ha : H a = some (.lst (il ms))) (hm : ms.length ≤ 1000) (hs : n < σ.length) {d : Addr} (hd : H d = none)
    (q : ∀ rs H1, Same H H1 → rs.length = ms.length → DrawsAt H1 d rs 0 → Q (.ref d) H1) :
    lcW (cnOf T K (k + 1)).K (.lst a (il ms)) (.name n) (wpTs (cnOf T K (k + 1)) .no) (wpE (cnOf T K (k + 1)) E0 (.call "_law_draws" (.cons (.var n) .nil) [] .nil)) σ d Q (upd H d (.lst [])) := by
  refine l_lst (fun i H' => ∃ rs, rs.length = i ∧ Same H H' ∧ DrawsAt H' d rs 0) ⟨[], rfl, same_new hd, upd_same, fun r hr => by cases hr⟩ ?_ ?_ ?_
  · rintro i H' ⟨rs, e, s, h⟩
    exact s _ _ ha
  · rintro i H' x hix ⟨rs, e, s, h⟩
    obtain ⟨hi, rfl⟩ := il_at hix
    walk_at "e"
    refine e_var (by rw [List.getElem?_set_self (by omega)]) ?_
    walk_at "e"
    refine ⟨rfl, law_draws_ok hx fun r H1 hr s1 h1 => ?_⟩
    have hne : d ≠ r := ne_of_none h.1 hr
    refine ⟨_, s1 _ _ h.1, fit1 (by simp; omega), rs ++ [r], by simp [e], same_mut (s.trans s1) hd, ?_, ?_⟩
    · rw [upd_same]; simp
    · intro x hx
      rcases List.mem_append.mp hx with hx | hx
      · exact ⟨(h.2 x hx).1, ((h.2 x hx).2.same s1).upd_ (h.2 x hx).1⟩
      · rw [List.mem_singleton.mp hx]
        exact ⟨Ne.symm hne, h1.upd_ (Ne.symm hne)⟩
  · rintro H' ⟨rs, e, s, h⟩
    exact q rs H' s (by simpa using e) h
end

/-! ### counts -/
/-- in how many places the walk down from i meets the walk up from j -/
def cD (ds us : List Nat) (i j : Nat) : Nat := ((wD ds i).filter fun x => decide (x ∈ wU us j)).length
def hit (us : List Nat) (i j : Nat) : Nat := if i ∈ wU us j then 1 else 0
theorem cD_zero (ds us : List Nat) (j : Nat) : cD ds us 0 j = 0 := by simp [cD, wD_zero]
theorem cD_pos {ds us : List Nat} (ok : DnOk ds) {i : Nat} (j : Nat) (h0 : 0 < i) (hi : i ≤ ds.length) : cD ds us i j = hit us i j + cD ds us (ds.getD (i - 1) 0) j := by
  unfold cD hit
  rw [wD_pos ok h0 hi]
  by_cases h : i ∈ wU us j
  · rw [List.filter_cons_of_pos (by simp [h]), if_pos h, List.length_cons]; omega
  · rw [List.filter_cons_of_neg (by simp [h]), if_neg h]; omega
theorem wU_ge {us : List Nat} (ok : UpOk us) {x : Nat} : ∀ (n p : Nat), us.length < p + n → 0 < p → x ∈ wU us p → p ≤ x
  | 0, p, h, _, hm => by rw [wU_out (by omega)] at hm; cases hm
  | n + 1, p, h, h0, hm => by
    by_cases hp : p ≤ us.length
    · have hk := ok (p - 1) (by omega)
      rw [wU_in ok h0 hp] at hm
      rcases List.mem_cons.mp hm with e | hm
      · omega
      · have := wU_ge ok n _ (by omega) (by omega) hm
        omega
    · rw [wU_out (by omega)] at hm; cases hm
theorem wD_nodup {ds : List Nat} (ok : DnOk ds) : ∀ (n p : Nat), p ≤ n → p ≤ ds.length → (wD ds p).Nodup
  | 0, p, h, _ => by
    have : p = 0 := by omega
    subst this
    rw [wD_zero]; exact List.nodup_nil
  | n + 1, p, h, hp => by
    by_cases h0 : p = 0
    · subst h0; rw [wD_zero]; exact List.nodup_nil
    · have := ok (p - 1) (by omega)
      rw [wD_pos ok (by omega) hp]
      refine List.nodup_cons.mpr ⟨fun hm => ?_, wD_nodup ok n _ (by omega) (by omega)⟩
      have := wD_mem ok _ _ (Nat.le_refl _) (by omega) hm
      omega
theorem wU_nodup {us : List Nat} (ok : UpOk us) : ∀ (n p : Nat), us.length < p + n → 0 < p → (wU us p).Nodup
  | 0, p, h, _ => by rw [wU_out (by omega)]; exact List.nodup_nil
  | n + 1, p, h, h0 => by
    by_cases hp : p ≤ us.length
    · have hk := ok (p - 1) (by omega)
      rw [wU_in ok h0 hp]
      refine List.nodup_cons.mpr ⟨fun hm => ?_, wU_nodup ok n _ (by omega) (by omega)⟩
      have := wU_ge ok us.length _ (by omega) (by omega) hm
      omega
    · rw [wU_out (by omega)]; exact List.nodup_nil
theorem meet_comm : ∀ {a b : List Nat}, a.Nodup → b.Nodup → (a.filter fun x => decide (x ∈ b)).length = (b.filter fun x => decide (x ∈ a)).length
  | [], b, _, _ => by
    have : (b.filter fun x => decide (x ∈ ([] : List Nat))) = [] := by
      rw [List.filter_eq_nil_iff]
      intro x _
      simp
    rw [this]; rfl
  | x :: a, b, ha, hb => by
    have ha' := List.nodup_cons.mp ha
    by_cases hx : x ∈ b
    · rw [List.filter_cons_of_pos (by simp [hx]), List.length_cons]
      have hb2 : (b.erase x).Nodup := hb.erase x
      have e1 : (a.filter fun y => decide (y ∈ b)) = a.filter fun y => decide (y ∈ b.erase x) := by
        refine List.filter_congr fun y hy => ?_
        have hne : y ≠ x := fun e => ha'.1 (e ▸ hy)
        simp only [List.mem_erase_of_ne hne]
      have e2 : (b.filter fun y => decide (y ∈ x :: a)).length = ((x :: b.erase x).filter fun y => decide (y ∈ x :: a)).length := ((List.perm_cons_erase hx).filter _).length_eq
      have e3 : ((b.erase x).filter fun y => decide (y ∈ x :: a)) = (b.erase x).filter fun y => decide (y ∈ a) := by
        refine List.filter_congr fun y hy => ?_
        have hne : y ≠ x := fun e => (List.Nodup.not_mem_erase hb) (e ▸ hy)
        simp [hne]
      rw [e1, e2, List.filter_cons_of_pos (by simp), e3, List.length_cons, meet_comm ha'.2 hb2]
    · rw [List.filter_cons_of_neg (by simp [hx]), meet_comm ha'.2 hb]
      congr 1
      refine List.filter_congr fun y hy => ?_
      have hne : y ≠ x := fun e => hx (e ▸ hy)
      simp [hne]
theorem cD_up {ds us : List Nat} (od : DnOk ds) (ou : UpOk us) {i j : Nat} (hi : i ≤ ds.length) (hj : 0 < j) : ((wU us j).filter fun x => decide (x ∈ wD ds i)).length = cD ds us i j :=
  meet_comm (wU_nodup ou us.length j (by omega) hj) (wD_nodup od i i (Nat.le_refl _) hi)
theorem cD_le {ds us : List Nat} (od : DnOk ds) (ou : UpOk us) {j : Nat} (hj : 0 < j) : ∀ (n i : Nat), i ≤ n → i ≤ ds.length → cD ds us i j ≤ i + 1 - j
  | 0, i, h, _ => by
    have : i = 0 := by omega
    subst this
    rw [cD_zero]; exact Nat.zero_le _
  | n + 1, i, h, hi => by
    by_cases h0 : i = 0
    · subst h0; rw [cD_zero]; exact Nat.zero_le _
    · have hl := od (i - 1) (by omega)
      have ih := cD_le od ou hj n (ds.getD (i - 1) 0) (by omega) (by omega)
      rw [cD_pos od j (by omega) hi]
      unfold hit
      by_cases hm : i ∈ wU us j
      · have := wU_ge ou us.length j (by omega) hj hm
        rw [if_pos hm]; omega
      · rw [if_neg hm]; omega
theorem cD_self {ds us : List Nat} (od : DnOk ds) (ou : UpOk us) (hl : us.length = ds.length) {i : Nat} (h0 : 0 < i) (hi : i ≤ ds.length) : 1 ≤ cD ds us i i := by
  rw [cD_pos od i h0 hi]
  unfold hit
  rw [if_pos (by rw [wU_in ou h0 (by omega)]; simp)]
  omega
/-- the rows of counts -/
def crow (ds us : List Nat) (i : Nat) : List Nat := (List.range us.length).map fun j => cD ds us i (j + 1)
def hrow (us : List Nat) (i : Nat) : List Nat := (List.range us.length).map fun j => hit us i (j + 1)
def cmat (ds us : List Nat) : List (List Nat) := (List.range ds.length).map fun i => crow ds us (i + 1)
theorem crow_pos {ds us : List Nat} (ok : DnOk ds) {i : Nat} (h0 : 0 < i) (hi : i ≤ ds.length) : crow ds us i = (List.range us.length).map fun j => hit us i (j + 1) + cD ds us (ds.getD (i - 1) 0) (j + 1) := by
  unfold crow
  refine List.map_congr_left fun j _ => cD_pos ok (j + 1) h0 hi
theorem crow_leaf {ds us : List Nat} (ok : DnOk ds) {i : Nat} (h0 : 0 < i) (hi : i ≤ ds.length) (hl : ds.getD (i - 1) 0 = 0) : crow ds us i = hrow us i := by
  rw [crow_pos ok h0 hi, hl]
  unfold hrow
  refine List.map_congr_left fun j _ => by rw [cD_zero]; omega
theorem map_nl {f : Nat → Nat} (n : Nat) : (List.range n).map (fun i => V.int (f i : Nat)) = nl ((List.range n).map f) := by simp [nl]
theorem dOk_cmat {m : Nat} {ds us : List Nat} (ok : PrOk m ds us) (hm : m ≤ 16) : DOk (dNN (cmat ds us)) 2 20000 := by
  have t := ok.top
  have l := ok.len
  refine (dOk_dNN (m := 16) ?_).mono (Nat.le_refl _) ?_
  · intro ns hn
    obtain ⟨i, hi, rfl⟩ := List.mem_map.mp hn
    have hi := List.mem_range.mp hi
    refine ⟨by simp [crow]; omega, fun n hn => ?_⟩
    obtain ⟨j, hj, rfl⟩ := List.mem_map.mp hn
    have := cD_le ok.dn ok.up (j := j + 1) (by omega) (i + 1) (i + 1) (Nat.le_refl _) (by omega)
    omega
  · simp [cmat]; omega
section
variable {T : Tab} {K : PySem.W.Frag} {k : Nat} {H : Hp} {Q : VK} {E : XK}
theorem kit_tt : kitB "tuple" (Str.toString "tuple") = some true := by decide +kernel
theorem check_pair_ok (hx : T.has "check_pair" f_check_pair) (h1 : T.has "check_down" f_check_down) (h2 : T.has "check_up" f_check_up) (hw : T.has "is_whole" f_is_whole) (hc : T.cons.lookup ("MOST_PLACES" : Str) = some (.int 16))
    {p d u : Addr} {ds us : List Nat} (hp : PairAt H p d u ds us) (ok : PrOk 16 ds us) (q : ∀ H1, Same H H1 → Q .non H1) : SPn T K (k + 3) "check_pair" [.ref p] H Q E := by
  have okt := ok.top
  have okp := ok.pos
  have okl := ok.len
  obtain ⟨kp, kd, ku, kne⟩ := id hp
  refine SPn_of hx rfl ?_
  dsimp only [f_check_pair]
  walk_at "e"
  refine ⟨"tuple", true, by simp only [tyName, kp], kit_tt, ?_⟩
  walk_at "e"
  rw [decide_eq_true (show (([V.ref d, V.ref u].length : Nat) : Int) = 2 from rfl)]
  walk_at "e"
  refine ⟨rfl, ?_⟩
  walk_at "e"
  refine ⟨"list", true, by simp only [tyName, kd], kit_ll, ?_⟩
  walk_at "e"
  refine ⟨"list", true, by simp only [tyName, ku], kit_ll, ?_⟩
  walk_at "e"
  refine ⟨rfl, check_down_ok h1 hw hc kd ⟨okp, okt⟩ ok.dn fun H1 s1 => ?_⟩
  walk_at "e"
  refine ⟨rfl, check_up_ok h2 hw hc (s1 _ _ ku) (by omega) ok.up fun H2 s2 => ?_⟩
  walk_at "e"
  exact q H2 (s1.trans s2)
theorem meetings_ok (hx : T.has "meetings" f_meetings) (h1 : T.has "steps_down" f_steps_down) (h2 : T.has "steps_up" f_steps_up) {p d u : Addr} {ds us : List Nat} (hp : PairAt H p d u ds us) (ok : PrOk 16 ds us)
    {i j : Nat} (hi : i ≤ ds.length) (hj : 0 < j) (q : ∀ H1, Same H H1 → Q (.int (cD ds us i j : Nat)) H1) : SPn T K (k + 2) "meetings" [.ref p, .int (i : Nat), .int (j : Nat)] H Q E := by
  have okt := ok.top
  have okl := ok.len
  obtain ⟨kp, kd, ku, kne⟩ := id hp
  refine SPn_of hx rfl ?_
  dsimp only [f_meetings]
  walk_at "e"
  refine ⟨rfl, steps_down_gen h1 rfl rfl rfl kd okt ok.dn hi fun a H1 ha s1 e1 => ?_⟩
  have kp1 := s1 _ _ kp
  walk_at "e"
  refine ⟨rfl, steps_up_gen h2 rfl rfl rfl (s1 _ _ ku) (by omega) ok.up hj fun b H2 hb s2 e2 => ?_⟩
  walk_at "e"
  intro c hc
  have e12 := s2 _ _ e1
  have hwl := wU_small ok.up hj
  refine cf_nl (fun x => decide (x ∈ wD ds i)) id (by omega) hc e2 ?_ ?_ ?_
  · intro x H' P hx s q
    have e13 := s _ _ e12
    walk_at "e"
    refine c_inN e13 ?_
    exact q H' (Same.refl _)
  · intro x H' P hx hpx s q
    walk_at "e"
    exact q H' (Same.refl _)
  · intro H3 s3 h3
    walk_at "e"
    rw [List.map_id, cD_up ok.dn ok.up hi hj]
    exact q H3 ((s1.trans s2).trans s3)
structure HasC (T : Tab) : Prop where
  cp : T.has "check_pair" f_check_pair
  cs : T.has "counts" f_counts
  cd : T.has "check_down" f_check_down
  cu : T.has "check_up" f_check_up
  iw : T.has "is_whole" f_is_whole
  su : T.has "steps_up" f_steps_up
  mp : T.cons.lookup ("MOST_PLACES" : Str) = some (.int 16)
structure HasCt (T : Tab) : Prop extends HasC T where
  ct : T.has "count" f_count
  mt : T.has "meetings" f_meetings
  pl : T.has "check_place" f_check_place
  sd : T.has "steps_down" f_steps_down
theorem count_ok (w : HasCt T) {p d u : Addr} {ds us : List Nat} (hp : PairAt H p d u ds us) (ok : PrOk 16 ds us)
    {i j : Nat} (hi : 1 ≤ i ∧ i ≤ ds.length) (hj : 1 ≤ j ∧ j ≤ ds.length) (q : ∀ H1, Same H H1 → Q (.int (cD ds us i j : Nat)) H1) : SPn T K (k + 4) "count" [.ref p, .int (i : Nat), .int (j : Nat)] H Q E := by
  refine SPn_of w.ct rfl ?_
  dsimp only [f_count]
  walk_at "e"
  refine ⟨rfl, check_pair_ok w.cp w.cd w.cu w.iw w.mp hp ok fun H1 s1 => ?_⟩
  have hp1 := hp.same s1
  obtain ⟨kp, kd, ku, kne⟩ := id hp1
  walk_at "e"
  refine ⟨rfl, check_place_ok w.pl w.iw (by omega) ?_⟩
  walk_at "e"
  refine ⟨rfl, check_place_ok w.pl w.iw (by omega) ?_⟩
  walk_at "e"
  exact ⟨rfl, meetings_ok w.mt w.sd w.su hp1 ok hi.2 (by omega) fun H2 s2 => q H2 (s1.trans s2)⟩
/-- row of hits, in a comprehension over the walks -/
theorem hits_row {c : Cn} {n : Nat} {σ : L2.St} {te : TE} {ws d : Addr} {as : List Addr} {us : List Nat} {i : Nat} (hl : us.length ≤ 16) (hw : RowsAt H ws as ((List.range us.length).map fun j => nl (wU us (j + 1)))) (hd : H d = none)
    (turn : ∀ p ns H' (P : VK), H' p = some (.lst (nl ns)) → (∀ H4, Same H' H4 → P (.int (if decide (i ∈ ns) = true then 1 else 0)) H4) → te (σ.set n (some (.ref p))) H' P)
    (done : ∀ H', Same H H' → H' d = some (.lst (nl (hrow us i))) → Q (.ref d) H') : lcW K (.lst ws (as.map V.ref)) (.name n) (wpTs c .no) te σ d Q (upd H d (.lst [])) := by
  have la : as.length = us.length := by have := hw.len; simpa using this
  refine cl_lst (fun j => V.int (hit us i (j + 1) : Nat)) (by simp; omega) hd hw.top ?_ ?_
  · intro j x H' P hx s q
    obtain ⟨p, hj, rfl, _, _, e⟩ := hw.at_ hx
    simp at e
    refine turn p _ H' P (s _ _ e) fun H4 s4 => ?_
    have := q H4 s4
    unfold hit at this
    by_cases hm : i ∈ wU us (j + 1)
    · rw [if_pos hm] at this
      rw [if_pos (decide_eq_true hm)]
      exact this
    · rw [if_neg hm] at this
      rw [if_neg (by simp [hm])]
      exact this
  · intro H' s h
    rw [List.length_map, la, map_nl] at h
    exact done H' s h
theorem counts_ok (w : HasC T) {p d u : Addr} {ds us : List Nat} (hp : PairAt H p d u ds us) (ok : PrOk 16 ds us)
    (q : ∀ a as H1, Same H H1 → (∀ x, x ∈ a :: as → H x = none) → RowsAt H1 a as ((cmat ds us).map nl) → Q (.ref a) H1) : SPn T K (k + 4) "counts" [.ref p] H Q E := by
  have okt := ok.top
  have okl := ok.len
  have okp := ok.pos
  refine SPn_of w.cs rfl ?_
  dsimp only [f_counts]
  walk_at "e"
  refine ⟨rfl, check_pair_ok w.cp w.cd w.cu w.iw w.mp hp ok fun H1 s1 => ?_⟩
  have hp1 := hp.same s1
  obtain ⟨kp, kd, ku, kne⟩ := id hp1
  walk_at "e"
  refine r_1 (by omega) (by omega) ?_
  intro ws hws
  have en : ((us.length : Int)).toNat = us.length := by omega
  rw [en]
  refine cr_rng (fun j => nl (wU us (j + 1))) (by omega) hws ?_ ?_
  · intro i H' P hi s q
    have kp' := s _ _ kp
    have ei : ((0 : Int) + (i : Int) + 1) = ((i + 1 : Nat) : Int) := by omega
    walk_at "e"
    rw [ei]
    exact ⟨rfl, steps_up_gen w.su rfl rfl rfl (s _ _ ku) (by omega) ok.up (by omega) q⟩
  · intro as H2 s2 hw _
    walk_at "e"
    refine ⟨fit (by simp), fun rs H3 hrs s3 h3 => ?_⟩
    have s13 := s2.trans s3
    have kp3 := s13 _ _ kp
    have kd3 := s13 _ _ kd
    have hrs1 : H rs = none := s1.free (s2.free hrs)
    walk_at "e"
    refine f_enm (fun i σ H' => ∃ x3 x4 x5 bs, σ = [some (.ref p), some (.ref ws), some (.ref rs), x3, x4, x5, none, none, none] ∧ Same H2 H' ∧ (∀ x, x ∈ bs → H x = none) ∧ RowsAt H' rs bs ((List.range i).map fun k => nl (crow ds us (k + 1)))) ⟨none, none, none, [], rfl, s3, (fun x hx => by cases hx), RowsAt.nil h3⟩ ?_ ?_ ?_
    · rintro i σ' H' ⟨x3, x4, x5, bs, rfl, s, fr, h⟩
      exact s _ _ (s2 _ _ kd)
    · rintro i σ' H' x hix ⟨x3, x4, x5, bs, rfl, s, fr, h⟩ H4 s4
      obtain ⟨hi, rfl⟩ := nl_at hix
      have hl := ok.dn i hi
      have h24 := s.trans s4
      have hw4 := hw.same h24
      have hr4 := h.same s4
      have wtop := hw4.top
      walk_at "e"
      intro row hrow_
      refine hits_row (i := i + 1) (by omega) hw4 hrow_ ?_ ?_
      · intro p' ns H' P hp' q'
        have ei : ((i : Int) + 1) = ((i + 1 : Nat) : Int) := by omega
        walk_at "e"
        rw [ei]
        refine c_inN hp' ?_
        walk_at "e"
        exact q' H' (Same.refl _)
      · intro H5 s5 h5
        have hr5 := hr4.same s5
        have top5 := hr5.top
        have lb : bs.length = i := by have := h.len; simpa using this
        walk_at "e"
        refine if_dec (fun hc => ?_) (fun hc => ?_)
        · walk_at "e"
          have hlen : (ds.getD i 0) - 1 < ((List.range i).map fun k => nl (crow ds us (k + 1))).length := by rw [List.length_map, List.length_range]; omega
          obtain ⟨r0, a0, m0, e0⟩ := hr5.get hlen
          simp only [List.getElem_map, List.getElem_range] at e0
          have hl1 : ds.getD i 0 - 1 + 1 = ds.getD i 0 := by omega
          rw [hl1] at e0
          refine i_l top5 (v := .ref r0) (by
            have ej : ((ds.getD i 0 : Nat) : Int) - 1 = ((ds.getD i 0 - 1 : Nat) : Int) := by omega
            rw [ej]
            exact atI_nat (by rw [List.getElem?_map, a0]; rfl)) ?_
          walk_at "e"
          intro row2 hrow2
          refine cl_zip (fun j => V.int ((hit us (i + 1) (j + 1) + cD ds us (ds.getD i 0) (j + 1) : Nat) : Int)) (by simp [hrow]; omega) hrow2 h5 e0 (by simp [hrow, crow]) ?_ ?_
          · intro j x y H' P hx hy s' q'
            obtain ⟨hj, rfl⟩ := nl_at hx
            obtain ⟨hj2, rfl⟩ := nl_at hy
            simp [hrow] at hj
            walk_at "e"
            have g1 : (hrow us (i + 1)).getD j 0 = hit us (i + 1) (j + 1) := by
              simp [hrow, List.getD_eq_getElem?_getD, List.getElem?_map, hj]
            have g2 : (crow ds us (ds.getD i 0)).getD j 0 = cD ds us (ds.getD i 0) (j + 1) := by
              rw [crow, List.getD_eq_getElem?_getD, List.getElem?_map, List.getElem?_range hj]; rfl
            rw [g1, g2]
            exact q' H' (Same.refl _)
          · intro H6 s6 h6
            have hr6 := hr5.same s6
            have top6 := hr6.top
            walk_at "e"
            simp only [top6]
            walk_at "e"
            refine m_append top6 (fit1 (by simp; omega)) ?_
            walk_at "e"
            have ec : nl ((List.range us.length).map fun j => hit us (i + 1) (j + 1) + cD ds us (ds.getD i 0) (j + 1)) = nl (crow ds us (i + 1)) := by
              rw [crow_pos ok.dn (by omega) (by omega)]; rfl
            rw [map_nl, nl_length, show (hrow us (i + 1)).length = us.length by simp [hrow]] at h6
            rw [ec] at h6
            have hout := hr5.out hrow2
            refine ⟨_, _, _, bs ++ [row2], rfl, same_mut ((h24.trans s5).trans s6) hrs, ?_, ?_⟩
            · intro x hx
              rcases List.mem_append.mp hx with hx | hx
              · exact fr x hx
              · rw [List.mem_singleton.mp hx]
                exact s1.free (s2.free ((h24.trans s5).free hrow2))
            · rw [map_range_succ]
              exact hr6.snoc hout h6
        · walk_at "e"
          simp only [top5]
          walk_at "e"
          refine m_append top5 (fit1 (by simp; omega)) ?_
          walk_at "e"
          rw [← crow_leaf ok.dn (by omega) (by omega) (show ds.getD (i + 1 - 1) 0 = 0 by simp only [Nat.add_sub_cancel]; omega)] at h5
          have hout := hr4.out hrow_
          refine ⟨_, _, _, bs ++ [row], rfl, same_mut (h24.trans s5) hrs, ?_, ?_⟩
          · intro x hx
            rcases List.mem_append.mp hx with hx | hx
            · exact fr x hx
            · rw [List.mem_singleton.mp hx]
              exact s1.free (s2.free (h24.free hrow_))
          · rw [map_range_succ]
            exact hr5.snoc hout h5
    · rintro σ' H' ⟨x3, x4, x5, bs, rfl, s, fr, h⟩
      walk_at "e"
      refine q rs bs H' ((s1.trans s2).trans s) ?_ ?_
      · intro x hx
        rcases List.mem_cons.mp hx with e | hx
        · rw [e]; exact hrs1
        · exact fr x hx
      · rw [nl_length] at h
        rw [cmat, List.map_map]
        exact h
end

theorem cut12 {ds : List Nat} (ok : DnOk ds) {i : Nat} (h0 : 0 < i) (hi : i ≤ ds.length) : cutV (nl (wD ds i)) (some 1) (some 2) = if ds.getD (i - 1) 0 = 0 then [] else nl [ds.getD (i - 1) 0] := by
  have hk := ok (i - 1) (by omega)
  rw [wD_pos ok h0 hi]
  by_cases h : ds.getD (i - 1) 0 = 0
  · rw [if_pos h, h, wD_zero]; rfl
  · rw [if_neg h, wD_pos ok (by omega) (by omega)]
    unfold cutV
    rw [show (some (1 : Int)) = some ((1 : Nat) : Int) from rfl, show (some (2 : Int)) = some ((2 : Nat) : Int) from rfl, HT.sIx_nat, HT.sIx_nat]
    simp only [nl, List.map_cons, List.length_cons]
    rw [show min 1 _ = 1 by omega, show min 2 _ = 2 by omega]
    rfl
section
variable {T : Tab} {K : PySem.W.Frag} {k : Nat} {H : Hp} {Q : VK} {E : XK}
theorem e_sl2 {c : Cn} {σ : L2.St} {a lo hi : Ex} (q : wpE c E a σ H fun x H1 => wpE c E lo σ H1 fun y H2 => match y with
    | .int i => wpE c E hi σ H2 fun z H3 => match z with
      | .int j => slW c.K x (some i) (some j) H3 Q
      | _ => False
    | _ => False) : wpE c E (.sl2 a lo hi) σ H Q := q
theorem law_counts_ok (hx : T.has "_law_counts" f_law_counts) (hd : T.has "_law_down" f_law_down) (hu : T.has "_law_up" f_law_up) {p d u : Addr} {ds us : List Nat} (hp : PairAt H p d u ds us) (ok : PrOk 16 ds us)
    (q : ∀ a as H1, Same H H1 → (∀ x, x ∈ a :: as → H x = none) → RowsAt H1 a as ((cmat ds us).map nl) → Q (.ref a) H1) : SPn T K (k + 2) "_law_counts" [.ref p] H Q E := by
  have okt := ok.top
  have okl := ok.len
  have okp := ok.pos
  obtain ⟨kp, kd, ku, kne⟩ := id hp
  refine SPn_of hx rfl ?_
  dsimp only [f_law_counts]
  walk_at "e"
  refine ⟨rfl, ?_⟩
  walk_at "e"
  refine r_2 (by omega) (by omega) ?_
  intro ws hws
  have en : ((ds.length : Int) + 1 - 1).toNat = us.length := by omega
  rw [en]
  refine cr_rng (fun j => nl (wU us (j + 1))) (by omega) hws ?_ ?_
  · intro i H' P hi s q
    have ei : ((1 : Int) + (i : Int)) = ((i + 1 : Nat) : Int) := by omega
    walk_at "e"
    rw [ei]
    exact ⟨rfl, steps_up_gen hu rfl rfl rfl (s _ _ ku) (by omega) ok.up (by omega) q⟩
  · intro as H2 s2 hw _
    walk_at "e"
    refine ⟨fit (by simp), fun rs H3 hrs s3 h3 => ?_⟩
    have s13 := s2.trans s3
    have kd3 := s13 _ _ kd
    have hrs1 : H rs = none := s2.free hrs
    walk_at "e"
    refine r_2 (by omega) (by omega) ?_
    rw [en]
    refine f_rng (fun i σ H' => ∃ x3 x6 x7 bs, σ = [some (.ref p), some (.ref ws), some (.ref rs), x3, some (.ref d), some (.ref u), x6, x7, none, none, none, none] ∧ Same H2 H' ∧ (∀ x, x ∈ bs → H x = none) ∧ RowsAt H' rs bs ((List.range i).map fun k => nl (crow ds us (k + 1)))) ⟨none, none, none, [], rfl, s3, (fun x hx => by cases hx), RowsAt.nil h3⟩ ?_ ?_
    · rintro i σ' H' hi ⟨x3, x6, x7, bs, rfl, h24, fr, h⟩
      have hl := ok.dn i (by omega)
      have hw4 := hw.same h24
      have wtop := hw4.top
      have ei : ((1 : Int) + (i : Int)) = ((i + 1 : Nat) : Int) := by omega
      rw [ei]
      walk_at "e"
      intro row hrow_
      refine hits_row (i := i + 1) (by omega) hw4 hrow_ ?_ ?_
      · intro p' ns H' P hp' q'
        walk_at "e"
        refine c_inN hp' ?_
        walk_at "e"
        exact q' H' (Same.refl _)
      · intro H5 s5 h5
        have hr5 := h.same s5
        have lb : bs.length = i := by have := h.len; simpa using this
        have kd5 := s5 _ _ (h24 _ _ (s2 _ _ kd))
        walk_at "e"
        refine e_sl2 ?_
        walk_at "e"
        refine ⟨rfl, steps_down_gen hd rfl rfl rfl kd5 okt ok.dn (by omega) fun sd H6 hsd s6 e6 => ?_⟩
        walk_at "e"
        refine on_l e6 ?_
        rw [cut12 ok.dn (by omega) (by omega)]
        simp only [Nat.add_sub_cancel]
        intro st H7 hst s7 e7
        have s57 := s6.trans s7
        have hr7 := hr5.same s57
        have h57 := s57 _ _ h5
        have top7 := hr7.top
        walk_at "e"
        refine f_lst (fun j σ H' => Same H7 H' ∧ ∃ x6 x7, σ = [some (.ref p), some (.ref ws), some (.ref rs), some (.int ((i + 1 : Nat) : Int)), some (.ref d), some (.ref u), some (.ref x6), x7, none, none, none, none] ∧ H' x6 = some (.lst (nl (if j = 0 then hrow us (i + 1) else crow ds us (i + 1)))) ∧ x6 ∉ rs :: bs ∧ H x6 = none) ⟨Same.refl _, row, _, rfl, h57, h.out hrow_, s2.free (h24.free hrow_)⟩ (fun j σ' H' h => h.1 _ _ e7) ?_ ?_
        · rintro j σ' H8 x hxj ⟨s8, x6, x7, rfl, e8, no8, fr8⟩
          by_cases hz : ds.getD i 0 = 0
          · rw [if_pos hz] at hxj; simp at hxj
          · rw [if_neg hz] at hxj
            obtain ⟨hj, rfl⟩ := nl_at hxj
            have hj0 : j = 0 := by simpa using hj
            subst hj0
            rw [if_pos rfl] at e8
            have hr8 := hr7.same s8
            have top8 := hr8.top
            have hlen : (ds.getD i 0) - 1 < ((List.range i).map fun k => nl (crow ds us (k + 1))).length := by rw [List.length_map, List.length_range]; omega
            obtain ⟨r0, a0, m0, e0⟩ := hr8.get hlen
            simp only [List.getElem_map, List.getElem_range] at e0
            have hl1 : ds.getD i 0 - 1 + 1 = ds.getD i 0 := by omega
            rw [hl1] at e0
            have e9 : [ds.getD i 0].getD 0 0 = ds.getD i 0 := rfl
            rw [e9]
            walk_at "e"
            refine i_l top8 (v := .ref r0) (by
              have ej : ((ds.getD i 0 : Nat) : Int) - 1 = ((ds.getD i 0 - 1 : Nat) : Int) := by omega
              rw [ej]
              exact atI_nat (by rw [List.getElem?_map, a0]; rfl)) ?_
            walk_at "e"
            intro row2 hrow2
            refine cl_zip (fun j => V.int ((hit us (i + 1) (j + 1) + cD ds us (ds.getD i 0) (j + 1) : Nat) : Int)) (by simp [hrow]; omega) hrow2 e8 e0 (by simp [hrow, crow]) ?_ ?_
            · intro j x y H' P hx hy s' q'
              obtain ⟨hj, rfl⟩ := nl_at hx
              obtain ⟨hj2, rfl⟩ := nl_at hy
              simp [hrow] at hj
              walk_at "e"
              have g1 : (hrow us (i + 1)).getD j 0 = hit us (i + 1) (j + 1) := by
                simp [hrow, List.getD_eq_getElem?_getD, List.getElem?_map, hj]
              have g2 : (crow ds us (ds.getD i 0)).getD j 0 = cD ds us (ds.getD i 0) (j + 1) := by
                rw [crow, List.getD_eq_getElem?_getD, List.getElem?_map, List.getElem?_range hj]; rfl
              rw [g1, g2]
              exact q' H' (Same.refl _)
            · intro H9 s9 h9
              walk_at "e"
              have ec : nl ((List.range us.length).map fun j => hit us (i + 1) (j + 1) + cD ds us (ds.getD i 0) (j + 1)) = nl (crow ds us (i + 1)) := by
                rw [crow_pos ok.dn (by omega) (by omega)]; rfl
              rw [map_nl, nl_length, show (hrow us (i + 1)).length = us.length by simp [hrow]] at h9
              rw [ec] at h9
              exact ⟨s8.trans s9, row2, _, rfl, h9, hr8.out hrow2, s2.free (((h24.trans s5).trans (s57.trans s8)).free hrow2)⟩
        · rintro σ' H8 ⟨s8, x6, x7, rfl, e8, no8, fr8⟩
          have hr8 := hr7.same s8
          have top8 := hr8.top
          have ef : nl (if (if ds.getD i 0 = 0 then ([] : List V) else nl [ds.getD i 0]).length = 0 then hrow us (i + 1) else crow ds us (i + 1)) = nl (crow ds us (i + 1)) := by
            by_cases hz : ds.getD i 0 = 0
            · rw [if_pos hz, if_pos List.length_nil, ← crow_leaf ok.dn (by omega) (by omega) (show ds.getD (i + 1 - 1) 0 = 0 by simp only [Nat.add_sub_cancel]; exact hz)]
            · rw [if_neg hz, if_neg (by simp [nl])]
          rw [ef] at e8
          walk_at "e"
          simp only [top8]
          walk_at "e"
          refine m_append top8 (fit1 (by simp; omega)) ?_
          walk_at "e"
          refine ⟨_, _, _, bs ++ [x6], rfl, same_mut (((h24.trans s5).trans s57).trans s8) hrs, ?_, ?_⟩
          · intro x hx
            rcases List.mem_append.mp hx with hx | hx
            · exact fr x hx
            · rw [List.mem_singleton.mp hx]
              exact fr8
          · rw [map_range_succ]
            exact hr8.snoc no8 e8
    · rintro σ' H' ⟨x3, x6, x7, bs, rfl, s, fr, h⟩
      walk_at "e"
      refine q rs bs H' (s2.trans s) ?_ ?_
      · intro x hx
        rcases List.mem_cons.mp hx with e | hx
        · rw [e]; exact hrs1
        · exact fr x hx
      · rw [cmat, List.map_map, ← okl]
        exact h
end

/-! ### cells and values, plainly -/
def fillTo (us : List Nat) (vs : List Int) (i : Nat) : List Int := (List.range i).foldl (fun cs j => fillW cs (wU us (j + 1)) (vs.getD j 0)) (List.replicate vs.length 0)
def cellsF (us : List Nat) (vs : List Int) : List Int := fillTo us vs vs.length
theorem fillTo_succ (us : List Nat) (vs : List Int) (i : Nat) : fillTo us vs (i + 1) = fillW (fillTo us vs i) (wU us (i + 1)) (vs.getD i 0) := by
  unfold fillTo
  rw [List.range_succ, List.foldl_append]; rfl
theorem fillTo_length (us : List Nat) (vs : List Int) : ∀ i, (fillTo us vs i).length = vs.length
  | 0 => by simp [fillTo]
  | i + 1 => by rw [fillTo_succ, fillW_length, fillTo_length us vs i]
def cellAt (us : List Nat) (vs : List Int) (i k : Nat) : Int := sumN i fun j => ind (k + 1 ∈ wU us (j + 1)) * vs.getD j 0
theorem fillTo_get {us : List Nat} {vs : List Int} (ok : UpOk us) (hl : us.length = vs.length) (k : Nat) : ∀ i, (fillTo us vs i).getD k 0 = cellAt us vs i k
  | 0 => by
    show (List.replicate vs.length (0 : Int)).getD k 0 = 0
    exact getD_repl _ _
  | i + 1 => by
    rw [fillTo_succ, fillW_get _ _ _ _ (wU_nodup ok us.length (i + 1) (by omega) (by omega)) (fun p hp => ?_), fillTo_get ok hl k i]
    · rfl
    · rw [fillTo_length]
      have h1 := wU_ge ok us.length (i + 1) (by omega) (by omega) hp
      have h2 := walkU_mem _ _ hp
      omega
theorem hit_step {us : List Nat} (ok : UpOk us) {k : Nat} (hk : k < us.length) : ∀ (n p : Nat), us.length < p + n → 0 < p → ind (k + 1 ∈ wU us p) = ind (p = k + 1) + sumN us.length fun c => ind (us.getD c 0 = k + 1) * ind (c + 1 ∈ wU us p)
  | 0, p, h, h0 => by
    rw [wU_out (by omega), ind_f (by simp), ind_f (by omega)]
    rw [sumN_congr (g := fun _ => 0) fun c _ => by rw [ind_f (show ¬ c + 1 ∈ ([] : List Nat) by simp), Int.mul_zero], sumN_zero]; rfl
  | n + 1, p, h, h0 => by
    by_cases hp : p ≤ us.length
    · have hu := ok (p - 1) (by omega)
      have ih := hit_step ok hk n (us.getD (p - 1) 0) (by omega) (by omega)
      have eL : ind (k + 1 ∈ wU us p) = ind (p = k + 1) + ind (k + 1 ∈ wU us (us.getD (p - 1) 0)) := by
        rw [wU_in ok h0 hp]
        by_cases e : p = k + 1
        · have hnot : ¬ k + 1 ∈ wU us (us.getD (p - 1) 0) := fun hm => by
            have := wU_ge ok us.length _ (by omega) (by omega) hm
            omega
          rw [ind_t (show k + 1 ∈ p :: _ by rw [e]; simp), ind_t e, ind_f hnot]; rfl
        · rw [ind_f e]
          by_cases hm : k + 1 ∈ wU us (us.getD (p - 1) 0)
          · rw [ind_t hm, ind_t (List.mem_cons_of_mem p hm)]; rfl
          · rw [ind_f hm, ind_f (show ¬ k + 1 ∈ p :: wU us (us.getD (p - 1) 0) from fun hh => (List.mem_cons.mp hh).elim (fun x => e x.symm) hm)]; rfl
      have eR : (sumN us.length fun c => ind (us.getD c 0 = k + 1) * ind (c + 1 ∈ wU us p)) = ind (us.getD (p - 1) 0 = k + 1) + sumN us.length fun c => ind (us.getD c 0 = k + 1) * ind (c + 1 ∈ wU us (us.getD (p - 1) 0)) := by
        rw [← sumN_one (k := p - 1) (fun c => ind (us.getD c 0 = k + 1)) (show p - 1 < us.length by omega), ← sumN_add]
        refine sumN_congr fun c hc => ?_
        rw [wU_in ok h0 hp]
        by_cases e : c = p - 1
        · have e1 : c + 1 = p := by omega
          have hnot : ¬ c + 1 ∈ wU us (us.getD (p - 1) 0) := fun hm => by
            have := wU_ge ok us.length _ (by omega) (by omega) hm
            omega
          rw [ind_t e, ind_t (show c + 1 ∈ p :: _ by rw [e1]; simp), ind_f hnot]
          omega
        · have e1 : ¬ c + 1 = p := by omega
          rw [ind_f e]
          by_cases hm : c + 1 ∈ wU us (us.getD (p - 1) 0)
          · rw [ind_t hm, ind_t (List.mem_cons_of_mem p hm)]; omega
          · rw [ind_f hm, ind_f (show ¬ c + 1 ∈ p :: wU us (us.getD (p - 1) 0) from fun hh => (List.mem_cons.mp hh).elim e1 hm)]; omega
      rw [eL, eR, ih]
    · rw [wU_out (by omega), ind_f (by simp), ind_f (by omega)]
      rw [sumN_congr (g := fun _ => 0) fun c _ => by rw [ind_f (show ¬ c + 1 ∈ ([] : List Nat) by simp), Int.mul_zero], sumN_zero]; rfl
/-- a cell is its value and the cells of those that are led to it -/
theorem cell_rec {us : List Nat} {vs : List Int} (ok : UpOk us) (hl : us.length = vs.length) {k : Nat} (hk : k < us.length) :
    cellAt us vs vs.length k = vs.getD k 0 + sumN us.length fun c => ind (us.getD c 0 = k + 1) * cellAt us vs vs.length c := by
  unfold cellAt
  have e1 : (sumN vs.length fun j => ind (k + 1 ∈ wU us (j + 1)) * vs.getD j 0) = sumN vs.length fun j => ind (j = k) * vs.getD j 0 + (sumN us.length fun c => ind (us.getD c 0 = k + 1) * (ind (c + 1 ∈ wU us (j + 1)) * vs.getD j 0)) := by
    refine sumN_congr fun j hj => ?_
    rw [hit_step ok hk us.length (j + 1) (by omega) (by omega), Int.add_mul]
    congr 1
    · by_cases e : j = k
      · rw [ind_t e, ind_t (by omega)]
      · rw [ind_f e, ind_f (by omega)]
    · rw [Int.mul_comm, ← sumN_mul]
      refine sumN_congr fun c _ => ?_
      rw [Int.mul_comm, Int.mul_assoc]
  rw [e1, sumN_add, sumN_one _ (by omega), sumN_comm]
  congr 1
  refine sumN_congr fun c _ => ?_
  rw [← sumN_mul]
def valsTo (us : List Nat) (cs : List Int) (i : Nat) : List Int := (List.range i).foldl (fun vs c => if us.getD c 0 ≤ us.length then subW vs (us.getD c 0 - 1) (cs.getD c 0) else vs) cs
def valsF (us : List Nat) (cs : List Int) : List Int := valsTo us cs us.length
theorem valsTo_succ (us : List Nat) (cs : List Int) (i : Nat) : valsTo us cs (i + 1) = if us.getD i 0 ≤ us.length then subW (valsTo us cs i) (us.getD i 0 - 1) (cs.getD i 0) else valsTo us cs i := by
  unfold valsTo
  rw [List.range_succ, List.foldl_append]; rfl
theorem valsTo_length (us : List Nat) (cs : List Int) : ∀ i, (valsTo us cs i).length = cs.length
  | 0 => rfl
  | i + 1 => by
    rw [valsTo_succ]
    split
    · rw [subW_length, valsTo_length us cs i]
    · exact valsTo_length us cs i
theorem valsTo_get {us : List Nat} {cs : List Int} (ok : UpOk us) (hl : us.length = cs.length) {k : Nat} (hk : k < us.length) : ∀ i, i ≤ us.length → (valsTo us cs i).getD k 0 = cs.getD k 0 - sumN i fun c => ind (us.getD c 0 = k + 1) * cs.getD c 0
  | 0, _ => by
    show cs.getD k 0 = cs.getD k 0 - 0
    omega
  | i + 1, hi => by
    have hu := ok i (by omega)
    have ih := valsTo_get ok hl hk i (by omega)
    rw [valsTo_succ, sumN]
    by_cases h : us.getD i 0 ≤ us.length
    · rw [if_pos h, subW_get _ (by rw [valsTo_length]; omega), ih]
      by_cases e : k = us.getD i 0 - 1
      · rw [ind_t e, ind_t (show us.getD i 0 = k + 1 by omega)]; omega
      · rw [ind_f e, ind_f (show ¬ us.getD i 0 = k + 1 by omega)]; omega
    · rw [if_neg h, ih, ind_f (show ¬ us.getD i 0 = k + 1 by omega)]; omega
theorem vals_cells {us : List Nat} {vs : List Int} (ok : UpOk us) (hl : us.length = vs.length) : valsF us (cellsF us vs) = vs := by
  have lc : (cellsF us vs).length = vs.length := fillTo_length us vs _
  refine list_ext0 (by rw [valsF, valsTo_length, lc]) fun k hk => ?_
  rw [valsF, valsTo_length, lc] at hk
  rw [valsF, valsTo_get ok (by omega) (by omega) _ (Nat.le_refl _)]
  have e : ∀ c, (cellsF us vs).getD c 0 = cellAt us vs vs.length c := fun c => fillTo_get ok hl c _
  rw [e, sumN_congr (g := fun c => ind (us.getD c 0 = k + 1) * cellAt us vs vs.length c) fun c _ => by rw [e], cell_rec ok hl (show k < us.length by omega)]
  omega
theorem cells_vals {us : List Nat} {ws : List Int} (ok : UpOk us) (hl : us.length = ws.length) : cellsF us (valsF us ws) = ws := by
  have lv : (valsF us ws).length = ws.length := valsTo_length us ws _
  refine list_ext0 (by rw [cellsF, fillTo_length, lv]) ?_
  intro k hk
  rw [cellsF, fillTo_length, lv] at hk
  have e : ∀ c, (cellsF us (valsF us ws)).getD c 0 = cellAt us (valsF us ws) (valsF us ws).length c := fun c => fillTo_get ok (by omega) c _
  have main : ∀ n k, k ≤ n → k < us.length → cellAt us (valsF us ws) (valsF us ws).length k = ws.getD k 0 := by
    intro n
    induction n with
    | zero =>
      intro k hkn hk
      have : k = 0 := by omega
      subst this
      rw [cell_rec ok (by omega) hk, show (valsF us ws).getD 0 0 = _ from valsTo_get ok hl hk _ (Nat.le_refl _)]
      have z : ∀ f : Nat → Int, (sumN us.length fun c => ind (us.getD c 0 = 0 + 1) * f c) = 0 := fun f => by
        rw [← sumN_zero us.length]
        refine sumN_congr fun c hc => ?_
        have := ok c hc
        rw [ind_f (by omega), Int.zero_mul]
      rw [z, z]; omega
    | succ n ih =>
      intro k hkn hk
      rw [cell_rec ok (by omega) hk, show (valsF us ws).getD k 0 = _ from valsTo_get ok hl hk _ (Nat.le_refl _)]
      have z : (sumN us.length fun c => ind (us.getD c 0 = k + 1) * cellAt us (valsF us ws) (valsF us ws).length c) = sumN us.length fun c => ind (us.getD c 0 = k + 1) * ws.getD c 0 := by
        refine sumN_congr fun c hc => ?_
        by_cases h : us.getD c 0 = k + 1
        · have := ok c hc
          rw [ih c (by omega) hc]
        · rw [ind_f h, Int.zero_mul, Int.zero_mul]
      rw [z]; omega
  rw [e]
  exact main k k (Nat.le_refl _) (by omega)
/-- bounds -/
def Bd (B : Int) (vs : List Int) : Prop := ∀ i, i < vs.length → -B ≤ vs.getD i 0 ∧ vs.getD i 0 ≤ B
theorem ind_bd {p : Prop} [Decidable p] {x B : Int} (h : -B ≤ x ∧ x ≤ B) : -B ≤ ind p * x ∧ ind p * x ≤ B := by
  by_cases hp : p
  · rw [ind_t hp, Int.one_mul]; exact h
  · rw [ind_f hp, Int.zero_mul]; omega
theorem cells_bd {us : List Nat} {vs : List Int} (ok : UpOk us) (hl : us.length = vs.length) {B : Int} (h : Bd B vs) : Bd (vs.length * B) (cellsF us vs) := by
  intro k hk
  rw [show (cellsF us vs).getD k 0 = _ from fillTo_get ok hl k _]
  exact sumN_bd _ fun j hj => ind_bd (h j hj)
theorem vals_bd {us : List Nat} {cs : List Int} (ok : UpOk us) (hl : us.length = cs.length) {B : Int} (h : Bd B cs) : Bd ((cs.length + 1) * B) (valsF us cs) := by
  intro k hk
  rw [valsF, valsTo_length] at hk
  rw [show (valsF us cs).getD k 0 = _ from valsTo_get ok hl (show k < us.length by omega) _ (Nat.le_refl _)]
  have h1 := h k hk
  have h2 := sumN_bd (f := fun c => ind (us.getD c 0 = k + 1) * cs.getD c 0) (B := B) us.length fun c hc => ind_bd (h c (by omega))
  rw [hl] at h2 ⊢
  rw [Int.add_mul, Int.one_mul]
  omega

/-! ### cells and values: the defs -/
theorem fillW_take {cs : List Int} {w : List Nat} {x : Int} {j : Nat} (hj : j < w.length) : fillW cs (w.take (j + 1)) x = addAt (fillW cs (w.take j) x) (w.getD j 0 - 1) x := by
  unfold fillW
  rw [List.take_succ_eq_append_getElem hj, List.foldl_append, List.getD_eq_getElem?_getD, List.getElem?_eq_getElem hj]; rfl
theorem map_il {α : Type} (g : Nat → Int) (w : List Nat) : (List.range w.length).map (fun i => V.int (g (w.getD i 0))) = il (w.map g) := by
  refine List.ext_getElem? fun i => ?_
  rw [List.getElem?_map, il, List.map_map, List.getElem?_map]
  by_cases h : i < w.length
  · rw [List.getElem?_range h, List.getElem?_eq_getElem h]
    simp [List.getElem?_eq_getElem h]
  · rw [List.getElem?_eq_none (by simp; omega), List.getElem?_eq_none (by omega)]; rfl
def totF (ds : List Nat) (cs : List Int) (p : Nat) : Int := ((wD ds p).map fun s => cs.getD (s - 1) 0).sum
theorem sum_bd {B : Int} : ∀ (l : List Int), (∀ x, x ∈ l → -B ≤ x ∧ x ≤ B) → -(l.length * B) ≤ l.sum ∧ l.sum ≤ l.length * B
  | [], _ => by simp
  | x :: l, h => by
    have h1 := sum_bd l fun y hy => h y (by simp [hy])
    have h2 := h x (by simp)
    rw [List.sum_cons, List.length_cons, show ((l.length + 1 : Nat) : Int) * B = l.length * B + B by rw [Int.natCast_add, Int.add_mul]; simp]
    omega
section
variable {T : Tab} {K : PySem.W.Frag} {k : Nat} {H : Hp} {Q : VK} {E : XK}
theorem b_sum {K : PySem.W.Frag} {p : Addr} {ns : List Int} (h : H p = some (.lst (il ns))) (q : Q (.int ns.sum) H) : bltW K "sum" [.ref p] H Q := by
  show onL K H p _
  rw [onL_of h]
  exact ⟨ns, rfl, q⟩
theorem check_values_ok (hx : T.has "check_values" f_check_values) (hw : T.has "is_whole" f_is_whole) {v : Addr} {vs : List Int} {n : Int} (h : H v = some (.lst (il vs))) (hn : (vs.length : Int) = n) (q : ∀ H1, Same H H1 → Q .non H1) : SPn T K (k + 2) "check_values" [.ref v, .int n] H Q E := by
  refine SPn_of hx rfl ?_
  dsimp only [f_check_values]
  walk_at "e"
  refine ⟨"list", true, by simp only [tyName, h], kit_ll, ?_⟩
  walk_at "e"
  refine f_enm (fun i σ H' => ∃ x y, σ = [some (.ref v), some (.int n), x, y] ∧ Same H H') ⟨none, none, rfl, Same.refl H⟩ ?_ ?_ ?_
  · rintro i σ' H' ⟨x, y, rfl, sm⟩
    exact sm _ _ h
  · rintro i σ' H' x hix ⟨x1, y1, rfl, sm⟩ H1 sm1
    obtain ⟨hi, rfl⟩ := il_at hix
    walk_at "e"
    refine ⟨rfl, is_whole_int hw ?_⟩
    walk_at "e"
    exact ⟨_, _, rfl, sm.trans sm1⟩
  · rintro σ' H' ⟨x, y, rfl, sm⟩
    walk_at "e"
    exact q H' sm
theorem filled_ok (hx : T.has "filled" f_filled) (h2 : T.has "steps_up" f_steps_up) {u v : Addr} {us : List Nat} {vs : List Int} (hu : H u = some (.lst (nl us))) (hv : H v = some (.lst (il vs))) (hn : us.length ≤ 16) (hl : us.length = vs.length) (ok : UpOk us)
    (q : ∀ t H1, H t = none → Same H H1 → H1 t = some (.lst (il (cellsF us vs))) → Q (.ref t) H1) : SPn T K (k + 2) "filled" [.ref u, .ref v] H Q E := by
  refine SPn_of hx rfl ?_
  dsimp only [f_filled]
  walk_at "e"
  intro c hc
  refine cl_lst (fun _ => V.int 0) (by simp; omega) hc hv ?_ ?_
  · intro i x H' P _ s' q'
    walk_at "e"
    exact q' H' (Same.refl _)
  · intro H1 s1 h1
    have hv1 := s1 _ _ hv
    have h1' : H1 c = some (.lst (il (fillTo us vs 0))) := by
      rw [h1, il_length, List.map_const', List.length_range]
      simp [il, fillTo]
    walk_at "e"
    refine f_enm (fun i σ H' => ∃ x3 x4 x5, σ = [some (.ref u), some (.ref v), some (.ref c), x3, x4, x5] ∧ Same H H' ∧ H' c = some (.lst (il (fillTo us vs i)))) ⟨none, none, none, rfl, s1, h1'⟩ ?_ ?_ ?_
    · rintro i σ' H' ⟨x3, x4, x5, rfl, sm, _⟩
      exact sm _ _ hv
    · rintro i σ' H' x hix ⟨x3, x4, x5, rfl, sm, hcc⟩ H2 s2
      obtain ⟨hi, rfl⟩ := il_at hix
      have ei : ((i : Int) + 1) = ((i + 1 : Nat) : Int) := by omega
      have sm2 := sm.trans s2
      walk_at "e"
      rw [ei]
      refine ⟨rfl, steps_up_gen h2 rfl rfl rfl (sm2 _ _ hu) hn ok (by omega) fun w H3 hw s3 e3 => ?_⟩
      have hcw : c ≠ w := ne_of_none (s2 _ _ hcc) hw
      walk_at "e"
      refine f_lst (fun j σ H' => ∃ x5, σ = [some (.ref u), some (.ref v), some (.ref c), some (.int (i : Nat)), some (.int (vs.getD i 0)), x5] ∧ Same H H' ∧ H' w = some (.lst (nl (wU us (i + 1)))) ∧ H' c = some (.lst (il (fillW (fillTo us vs i) ((wU us (i + 1)).take j) (vs.getD i 0))))) ⟨_, rfl, sm2.trans s3, e3, s3 _ _ (s2 _ _ hcc)⟩ ?_ ?_ ?_
      · rintro j σ' H' ⟨x5, rfl, _, h, _⟩
        exact h
      · rintro j σ' H4 y hjy ⟨x5, rfl, s4, hw4, hc4⟩
        obtain ⟨hj, rfl⟩ := nl_at hjy
        have hmem : (wU us (i + 1)).getD j 0 ∈ wU us (i + 1) := by rw [List.getD_eq_getElem?_getD, List.getElem?_eq_getElem hj, Option.getD_some]; exact List.getElem_mem hj
        have b1 := wU_ge ok us.length (i + 1) (by omega) (by omega) hmem
        have b2 := walkU_mem _ _ hmem
        have hlen : (fillW (fillTo us vs i) ((wU us (i + 1)).take j) (vs.getD i 0)).length = vs.length := by rw [fillW_length, fillTo_length]
        have et : (((wU us (i + 1)).getD j 0 : Nat) : Int) - 1 = (((wU us (i + 1)).getD j 0 - 1 : Nat) : Int) := by omega
        walk_at "e"
        rw [et]
        refine ⟨_, _, hc4, by omega, (by rw [Int.toNat_natCast]; exact il_get (by omega)), ?_⟩
        walk_at "e"
        refine ⟨_, hc4, by rw [il_length]; omega, ?_⟩
        rw [Int.toNat_natCast, il_set]
        refine ⟨_, rfl, same_mut s4 hc, by rw [upd_ne (Ne.symm hcw)]; exact hw4, ?_⟩
        rw [upd_same, fillW_take hj]; rfl
      · rintro σ' H4 ⟨x5, rfl, s4, hw4, hc4⟩
        walk_at "e"
        refine ⟨_, _, _, rfl, s4, ?_⟩
        rw [nl_length, List.take_length] at hc4
        rw [fillTo_succ]; exact hc4
    · rintro σ' H' ⟨x3, x4, x5, rfl, sm, hcc⟩
      walk_at "e"
      rw [il_length] at hcc
      exact q c H' hc sm hcc
structure HasV (T : Tab) : Prop where
  co : T.has "cells_of" f_cells_of
  to : T.has "total" f_total
  fi : T.has "filled" f_filled
  cv : T.has "check_values" f_check_values
  cd : T.has "check_down" f_check_down
  cu : T.has "check_up" f_check_up
  pl : T.has "check_place" f_check_place
  iw : T.has "is_whole" f_is_whole
  sd : T.has "steps_down" f_steps_down
  su : T.has "steps_up" f_steps_up
  mp : T.cons.lookup ("MOST_PLACES" : Str) = some (.int 16)
structure HasVo (T : Tab) : Prop extends HasV T where
  vo : T.has "values_of" f_values_of
theorem cells_of_ok (w : HasV T) {u v : Addr} {us : List Nat} {vs : List Int} (hu : H u = some (.lst (nl us))) (hv : H v = some (.lst (il vs))) (hn : 1 ≤ us.length ∧ us.length ≤ 16) (hl : us.length = vs.length) (ok : UpOk us)
    (q : ∀ t H1, H t = none → Same H H1 → H1 t = some (.lst (il (cellsF us vs))) → Q (.ref t) H1) : SPn T K (k + 3) "cells_of" [.ref u, .ref v] H Q E := by
  refine SPn_of w.co rfl ?_
  dsimp only [f_cells_of]
  walk_at "e"
  refine ⟨rfl, check_up_ok w.cu w.iw w.mp hu hn ok fun H1 s1 => ?_⟩
  have hu1 := s1 _ _ hu
  have hv1 := s1 _ _ hv
  walk_at "e"
  refine ⟨rfl, check_values_ok w.cv w.iw hv1 (by omega) fun H2 s2 => ?_⟩
  walk_at "e"
  refine ⟨rfl, filled_ok w.fi w.su (s2 _ _ hu1) (s2 _ _ hv1) hn.2 hl ok fun t H3 ht s3 h3 => ?_⟩
  exact q t H3 ((s1.trans s2).free ht) ((s1.trans s2).trans s3) h3
theorem values_of_ok (w : HasVo T) {u v : Addr} {us : List Nat} {cs : List Int} (hu : H u = some (.lst (nl us))) (hv : H v = some (.lst (il cs))) (hn : 1 ≤ us.length ∧ us.length ≤ 16) (hl : us.length = cs.length) (ok : UpOk us)
    (q : ∀ t H1, H t = none → Same H H1 → H1 t = some (.lst (il (valsF us cs))) → Q (.ref t) H1) : SPn T K (k + 3) "values_of" [.ref u, .ref v] H Q E := by
  refine SPn_of w.vo rfl ?_
  dsimp only [f_values_of]
  walk_at "e"
  refine ⟨rfl, check_up_ok w.cu w.iw w.mp hu hn ok fun H1 s1 => ?_⟩
  have hu1 := s1 _ _ hu
  have hv1 := s1 _ _ hv
  walk_at "e"
  refine ⟨rfl, check_values_ok w.cv w.iw hv1 (by omega) fun H2 s2 => ?_⟩
  have hu2 := s2 _ _ hu1
  have hv2 := s2 _ _ hv1
  walk_at "e"
  intro c H3 hc s3 h3
  have s03 := (s1.trans s2).trans s3
  have hu3 := s03 _ _ hu
  walk_at "e"
  refine f_enm (fun i σ H' => ∃ x3 x4, σ = [some (.ref u), some (.ref v), some (.ref c), x3, x4] ∧ Same H2 H' ∧ H' c = some (.lst (il (valsTo us cs i)))) ⟨none, none, rfl, s3, h3⟩ ?_ ?_ ?_
  · rintro i σ' H' ⟨x3, x4, rfl, sm, _⟩
    exact sm _ _ hu2
  · rintro i σ' H' x hix ⟨x3, x4, rfl, sm, hcc⟩ H4 s4
    obtain ⟨hi, rfl⟩ := nl_at hix
    have hk := ok i hi
    have hu4 := s4 _ _ (sm _ _ hu2)
    have hv4 := s4 _ _ (sm _ _ hv2)
    have hc4 := s4 _ _ hcc
    walk_at "e"
    refine if_dec (fun hlt => ?_) (fun hlt => ?_)
    · have et : ((us.getD i 0 : Nat) : Int) - 1 = ((us.getD i 0 - 1 : Nat) : Int) := by omega
      walk_at "e"
      rw [et]
      refine ⟨_, _, hc4, by omega, (by rw [Int.toNat_natCast]; exact il_get (by rw [valsTo_length]; omega)), ?_⟩
      walk_at "e"
      refine ⟨_, hc4, by rw [il_length, valsTo_length]; omega, ?_⟩
      rw [Int.toNat_natCast, Int.toNat_natCast, il_set]
      refine ⟨_, _, rfl, same_mut (sm.trans s4) hc, ?_⟩
      rw [upd_same, valsTo_succ, if_pos (by omega)]; rfl
    · walk_at "e"
      refine ⟨_, _, rfl, sm.trans s4, ?_⟩
      rw [hc4, valsTo_succ, if_neg (by omega)]
  · rintro σ' H' ⟨x3, x4, rfl, sm, hcc⟩
    walk_at "e"
    rw [nl_length] at hcc
    exact q c H' ((s1.trans s2).free hc) ((s1.trans s2).trans sm) hcc
/-- sum([cells[s - 1] for s in walk]) -/
theorem tot_comp {c : Cn} {n m : Nat} {σ : L2.St} {te : TE} {a b d : Addr} {ws : List Nat} {cs : List Int} (ha : H a = some (.lst (nl ws))) (hw : ws.length ≤ 16) (hm : ∀ x, x ∈ ws → 1 ≤ x ∧ x ≤ cs.length) (hb : H b = some (.lst (il cs))) (hd : H d = none)
    (turn : ∀ (x : Nat) H' (P : VK), 1 ≤ x ∧ x ≤ cs.length → H' b = some (.lst (il cs)) → P (.int (cs.getD (x - 1) 0)) H' → te (σ.set n (some (.int (x : Nat)))) H' P)
    (done : ∀ H', Same H H' → H' d = some (.lst (il (ws.map fun s => cs.getD (s - 1) 0))) → Q (.ref d) H') : lcW K (.lst a (nl ws)) (.name n) (wpTs c .no) te σ d Q (upd H d (.lst [])) := by
  refine cl_lst (fun i => V.int (cs.getD (ws.getD i 0 - 1) 0)) (by simp; omega) hd ha ?_ ?_
  · intro i x H' P hx s q
    obtain ⟨hi, rfl⟩ := nl_at hx
    have hmem : ws.getD i 0 ∈ ws := by rw [List.getD_eq_getElem?_getD, List.getElem?_eq_getElem hi, Option.getD_some]; exact List.getElem_mem hi
    exact turn _ H' P (hm _ hmem) (s _ _ hb) (q H' (Same.refl _))
  · intro H' s h
    rw [nl_length, map_il (α := Nat) (fun s => cs.getD (s - 1) 0)] at h
    exact done H' s h
theorem wD_ge {ds : List Nat} (ok : DnOk ds) {x : Nat} : ∀ (n p : Nat), p ≤ n → p ≤ ds.length → x ∈ wD ds p → 1 ≤ x
  | 0, p, h, _, hm => by
    have : p = 0 := by omega
    subst this
    rw [wD_zero] at hm; cases hm
  | n + 1, p, h, hp, hm => by
    by_cases h0 : p = 0
    · subst h0; rw [wD_zero] at hm; cases hm
    · have := ok (p - 1) (by omega)
      rw [wD_pos ok (by omega) hp] at hm
      rcases List.mem_cons.mp hm with e | hm
      · omega
      · exact wD_ge ok n _ (by omega) (by omega) hm
theorem total_ok (w : HasV T) {d v : Addr} {ds : List Nat} {cs : List Int} {p : Nat} (hd : H d = some (.lst (nl ds))) (hv : H v = some (.lst (il cs))) (hn : 1 ≤ ds.length ∧ ds.length ≤ 16) (hl : ds.length = cs.length) (ok : DnOk ds) (hp : 1 ≤ p ∧ p ≤ ds.length)
    (q : ∀ H1, Same H H1 → Q (.int (totF ds cs p)) H1) : SPn T K (k + 3) "total" [.ref d, .ref v, .int (p : Nat)] H Q E := by
  refine SPn_of w.to rfl ?_
  dsimp only [f_total]
  walk_at "e"
  refine ⟨rfl, check_down_ok w.cd w.iw w.mp hd hn ok fun H1 s1 => ?_⟩
  have hd1 := s1 _ _ hd
  have hv1 := s1 _ _ hv
  walk_at "e"
  refine ⟨rfl, check_values_ok w.cv w.iw hv1 (by omega) fun H2 s2 => ?_⟩
  have hd2 := s2 _ _ hd1
  have hv2 := s2 _ _ hv1
  walk_at "e"
  refine ⟨rfl, check_place_ok w.pl w.iw (by omega) ?_⟩
  walk_at "e"
  refine ⟨rfl, steps_down_gen w.sd rfl rfl rfl hd2 hn.2 ok hp.2 fun t H3 ht s3 e3 => ?_⟩
  walk_at "e"
  intro c hc
  have wl := wD_len ok p p (Nat.le_refl _) hp.2
  refine tot_comp (m := 0) e3 (by omega) (fun x hx => ⟨wD_ge ok p p (Nat.le_refl _) hp.2 hx, by have := wD_mem ok p p (Nat.le_refl _) hp.2 hx; omega⟩) (s3 _ _ hv2) hc ?_ ?_
  · intro x H' P hx hb' q'
    walk_at "e"
    rw [show ((x : Int) - 1).toNat = x - 1 by omega]
    exact q'
  · intro H4 s4 h4
    walk_at "e"
    refine b_sum h4 ?_
    exact q H4 (((s1.trans s2).trans s3).trans s4)
theorem at4g {v0 v1 v2 v3 : V} {j : Int} (h0 : 0 ≤ j) (h4 : j < 4) : ∃ z, atI [v0, v1, v2, v3] j = some z ∧ (z = v0 ∨ z = v1 ∨ z = v2 ∨ z = v3) := by
  have : j = 0 ∨ j = 1 ∨ j = 2 ∨ j = 3 := by omega
  rcases this with rfl | rfl | rfl | rfl
  · exact ⟨v0, rfl, .inl rfl⟩
  · exact ⟨v1, rfl, .inr (.inl rfl)⟩
  · exact ⟨v2, rfl, .inr (.inr (.inl rfl))⟩
  · exact ⟨v3, rfl, .inr (.inr (.inr rfl))⟩
theorem p13 : ((10 : Int) ^ (13 : Int).toNat) = 10000000000000 := by decide +kernel
theorem law_values_ok (hx : T.has "_law_values" f_law_values) (hy : T.has "_law_next" f_law_next) {r : Addr} {n m : Nat} (hr : DrawAt H r n) (hn : n ≤ 800000) (hm : m ≤ 16)
    (q : ∀ v vs H1, H v = none → Frm r H H1 → DrawAt H1 r (n + 1 + m) → H1 v = some (.lst (il vs)) → vs.length = m → Bd 10000000000000000000 vs → Q (.ref v) H1) : SPn T K (k + 2) "_law_values" [.ref r, .int (m : Nat)] H Q E := by
  refine SPn_of hx rfl ?_
  dsimp only [f_law_values]
  walk_at "e"
  refine ⟨rfl, law_next_ok hy hr (by omega) fun v H1 f1 g1 r1 => ?_⟩
  walk_at "e"
  refine o_pow (by decide +kernel) ?_
  rw [p13]
  walk_at "e"
  refine ⟨fit (by simp), fun l1 H2 hl1 s2 h2 => ?_⟩
  walk_at "e"
  obtain ⟨z, ez, hz⟩ := at4g (v0 := .int 1) (v1 := .int 1) (v2 := .int 1) (v3 := .int 10000000000000) (j := (v : Int) % 4) (by omega) (by omega)
  obtain ⟨far, rfl, hfar⟩ : ∃ far : Int, z = .int far ∧ 1 ≤ far ∧ far ≤ 10000000000000 := by
    rcases hz with e | e | e | e
    · exact ⟨_, e, by omega, by omega⟩
    · exact ⟨_, e, by omega, by omega⟩
    · exact ⟨_, e, by omega, by omega⟩
    · exact ⟨_, e, by omega, by omega⟩
  refine i_l h2 ez ?_
  have r2 := r1.same s2
  have f2 := f1.trans (Frm.same s2)
  walk_at "e"
  refine r_1 (by omega) (by omega) ?_
  rw [show ((m : Int)).toNat = m by omega]
  intro d hd
  have hdr := ne_dr r2 hd
  have gd : H d = none := f2.gone r2 hd
  refine l_rng (fun i H' => ∃ vs, H' d = some (.lst (il vs)) ∧ vs.length = i ∧ Bd 10000000000000000000 vs ∧ Frm r H H' ∧ DrawAt H' r (n + 1 + i)) ⟨[], upd_same, rfl, (fun i hi => by simp at hi), f2.new gd, r2.upd_ (Ne.symm hdr)⟩ ?_ ?_
  · rintro i H' hi ⟨vs, h3, e3, bd, f3, r3⟩
    walk_at "e"
    refine ⟨rfl, law_next_ok hy r3 (by omega) fun w H4 f4 g4 r4 => ?_⟩
    walk_at "e"
    refine o_pow (by decide +kernel) ?_
    rw [p6]
    walk_at "e"
    refine o_pow (by decide +kernel) ?_
    rw [p6]
    walk_at "e"
    refine ⟨fit (by simp), fun l2 H5 hl2 s5 h5 => ?_⟩
    walk_at "e"
    obtain ⟨z, ez, hz⟩ := at4g (v0 := .int 3) (v1 := .int 20) (v2 := .int 1000000) (v3 := .int 1000000) (j := (v : Int) / 4 % 4) (by omega) (by omega)
    obtain ⟨md, rfl, hmd⟩ : ∃ md : Int, z = .int md ∧ 3 ≤ md ∧ md ≤ 1000000 := by
      rcases hz with e | e | e | e
      · exact ⟨_, e, by omega, by omega⟩
      · exact ⟨_, e, by omega, by omega⟩
      · exact ⟨_, e, by omega, by omega⟩
      · exact ⟨_, e, by omega, by omega⟩
    refine i_l h5 ez ?_
    have m1 := Int.emod_nonneg (w : Int) (show md ≠ 0 by omega)
    have m2 := Int.emod_lt_of_pos (w : Int) (show 0 < md by omega)
    walk_at "e"
    have pb : -10000000000000000000 ≤ ((w : Int) % md - 1) * far ∧ ((w : Int) % md - 1) * far ≤ 10000000000000000000 := by
      have h6 := mul_bd (a := (w : Int) % md) (A := 1000000) (b := far) (B := 10000000000000) m1 (by omega) (by omega) (by omega)
      rw [Int.sub_mul, Int.one_mul]
      omega
    have h35 := s5 _ _ (f4 _ _ hdr h3)
    refine ⟨_, h35, fit1 (by simp; omega), vs ++ [((w : Int) % md - 1) * far], ?_, by simp [e3], ?_, ((f3.trans f4).trans (Frm.same s5)).new gd, ((r4.same s5).upd_ (Ne.symm hdr))⟩
    · rw [upd_same, il_append]; rfl
    · intro j hj
      rw [List.length_append, List.length_singleton] at hj
      by_cases e : j < vs.length
      · rw [List.getD_eq_getElem?_getD, List.getElem?_append_left e, ← List.getD_eq_getElem?_getD]
        exact bd j e
      · rw [List.getD_eq_getElem?_getD, List.getElem?_append_right (by omega), show j - vs.length = 0 by omega]
        exact pb
  · rintro H3 ⟨vs, h3, e3, bd, f3, r3⟩
    exact q d vs H3 gd f3 r3 h3 e3 bd
end

/-! ### right pairs, plainly -/
/-- the up link of index o by the down links of the first i places -/
def upTo (ds : List Nat) : Nat → Nat → Nat
  | 0, _ => ds.length + 1
  | i + 1, o => if o < i ∧ ds.getD i 0 ≤ o ∧ ds.length < upTo ds i o then i + 1 else upTo ds i o
def upsL (ds : List Nat) (i : Nat) : List Nat := (List.range ds.length).map (upTo ds i)
def nestAt (ds : List Nat) (i : Nat) : Prop := ∀ q, ds.getD i 0 ≤ q → q < i → ds.getD i 0 ≤ ds.getD q 0
def Nest (ds : List Nat) : Prop := ∀ i, i < ds.length → nestAt ds i
/-- all counts are as in a right pair -/
def Right (ds us : List Nat) : Prop := ∀ i j, 1 ≤ j → j ≤ i → i ≤ ds.length → cD ds us i j = 1
/-- what upTo is -/
theorem upTo_spec {ds : List Nat} {o : Nat} : ∀ i, i ≤ ds.length →
    (upTo ds i o = ds.length + 1 ∧ ∀ p, o < p → p < i → o < ds.getD p 0) ∨
    (∃ p, upTo ds i o = p + 1 ∧ o < p ∧ p < i ∧ ds.getD p 0 ≤ o ∧ ∀ q, o < q → q < p → o < ds.getD q 0)
  | 0, _ => .inl ⟨rfl, fun p _ h => by omega⟩
  | i + 1, hi => by
    unfold upTo
    rcases upTo_spec (ds := ds) (o := o) i (by omega) with ⟨e, h⟩ | ⟨p, e, h1, h2, h3, h4⟩
    · by_cases c : o < i ∧ ds.getD i 0 ≤ o ∧ ds.length < upTo ds i o
      · rw [if_pos c]
        exact .inr ⟨i, rfl, c.1, by omega, c.2.1, fun q hq hq2 => h q hq hq2⟩
      · rw [if_neg c]
        refine .inl ⟨e, fun p hp hp2 => ?_⟩
        by_cases ep : p = i
        · subst ep
          omega
        · exact h p hp (by omega)
    · rw [if_neg (by omega)]
      exact .inr ⟨p, e, h1, by omega, h3, h4⟩
theorem wU_mem_step {us : List Nat} (ok : UpOk us) {i j : Nat} (h0 : 0 < j) (hj : j ≤ us.length) : i ∈ wU us j ↔ i = j ∨ i ∈ wU us (us.getD (j - 1) 0) := by
  rw [wU_in ok h0 hj, List.mem_cons]
/-- the walks up of a right pair -/
def Star (ds us : List Nat) : Prop := ∀ i j, 1 ≤ j → j ≤ i → i ≤ ds.length → (i ∈ wU us j ↔ ds.getD (i - 1) 0 < j)
theorem star_right {ds us : List Nat} (od : DnOk ds) (ou : UpOk us) (h : Star ds us) : Right ds us := by
  have main : ∀ n i j, i ≤ n → 1 ≤ j → j ≤ i → i ≤ ds.length → cD ds us i j = 1 := by
    intro n
    induction n with
    | zero => intro i j h1 h2 h3 _; omega
    | succ n ih =>
      intro i j h1 h2 h3 h4
      have hl := od (i - 1) (by omega)
      rw [cD_pos od j (by omega) h4]
      unfold hit
      by_cases c : ds.getD (i - 1) 0 < j
      · rw [if_pos ((h i j h2 h3 h4).mpr c)]
        have := cD_le (us := us) od ou (j := j) (by omega) (ds.getD (i - 1) 0) (ds.getD (i - 1) 0) (Nat.le_refl _) (by omega)
        omega
      · rw [if_neg (fun z => c ((h i j h2 h3 h4).mp z)), ih (ds.getD (i - 1) 0) j (by omega) h2 (by omega) (by omega)]
  intro i j h1 h2 h3
  exact main i i j (Nat.le_refl _) h1 h2 h3
theorem right_star {ds us : List Nat} (od : DnOk ds) (ou : UpOk us) (h : Right ds us) : Star ds us := by
  intro i j h1 h2 h3
  have hl := od (i - 1) (by omega)
  have e := h i j h1 h2 h3
  rw [cD_pos od j (by omega) h3] at e
  unfold hit at e
  by_cases c : ds.getD (i - 1) 0 < j
  · have := cD_le (us := us) od ou (j := j) (by omega) (ds.getD (i - 1) 0) (ds.getD (i - 1) 0) (Nat.le_refl _) (by omega)
    refine ⟨fun _ => c, fun _ => ?_⟩
    by_cases hm : i ∈ wU us j
    · exact hm
    · rw [if_neg hm] at e; omega
  · have e2 := h (ds.getD (i - 1) 0) j h1 (by omega) (by omega)
    refine ⟨fun hm => ?_, fun z => absurd z c⟩
    rw [if_pos hm] at e; omega
theorem ups_star {ds us : List Nat} (od : DnOk ds) (ou : UpOk us) (hl : us.length = ds.length) (hn : Nest ds) (hu : us = upsL ds ds.length) : Star ds us := by
  have eu : ∀ o, o < ds.length → us.getD o 0 = upTo ds ds.length o := fun o ho => by
    rw [hu, upsL, List.getD_eq_getElem?_getD, List.getElem?_map, List.getElem?_range ho]; rfl
  have main : ∀ n j, ds.length < j + n → ∀ i, 1 ≤ j → j ≤ i → i ≤ ds.length → (i ∈ wU us j ↔ ds.getD (i - 1) 0 < j) := by
    intro n
    induction n with
    | zero => intro j h i _ h2 h3; omega
    | succ n ih =>
      intro j h i h1 h2 h3
      have hd := od (i - 1) (by omega)
      have hk := ou (j - 1) (by omega)
      rw [wU_mem_step ou (by omega) (by omega)]
      by_cases e : i = j
      · exact ⟨fun _ => by omega, fun _ => .inl e⟩
      · have ej := eu (j - 1) (by omega)
        rcases upTo_spec (ds := ds) (o := j - 1) ds.length (Nat.le_refl _) with ⟨e1, h5⟩ | ⟨p, e1, p1, p2, p3, p4⟩
        · rw [ej, e1]
          have := h5 (i - 1) (by omega) (by omega)
          rw [wU_out (by omega)]
          refine ⟨fun z => ?_, fun z => by omega⟩
          rcases z with z | z
          · exact absurd z e
          · cases z
        · rw [ej, e1]
          refine ⟨fun z => ?_, fun z => .inr ?_⟩
          · rcases z with z | z
            · exact absurd z e
            · have hpi : p + 1 ≤ i := wU_ge ou us.length (p + 1) (by omega) (by omega) z
              have := (ih (p + 1) (by omega) i (by omega) hpi h3).mp z
              by_cases ep : p + 1 = i
              · have : i - 1 = p := by omega
                rw [this]; omega
              · have hn' := hn (i - 1) (by omega) p (by omega) (by omega)
                omega
          · have hpi : p + 1 ≤ i := by
              by_cases hc : i < p + 1
              · have := p4 (i - 1) (by omega) (by omega)
                omega
              · omega
            exact (ih (p + 1) (by omega) i (by omega) hpi h3).mpr (by omega)
  intro i j h1 h2 h3
  exact main ds.length j (by omega) i h1 h2 h3
theorem star_ups {ds us : List Nat} (od : DnOk ds) (ou : UpOk us) (hl : us.length = ds.length) (h : Star ds us) : Nest ds ∧ us = upsL ds ds.length := by
  have sub : ∀ n j, ds.length < j + n → ∀ q p, 1 ≤ j → q ∈ wU us j → p ∈ wU us q → p ∈ wU us j := by
    intro n
    induction n with
    | zero => intro j h q p h1 hq _; rw [wU_out (by omega)] at hq; cases hq
    | succ n ih =>
      intro j h q p h1 hq hp
      by_cases hj : j ≤ us.length
      · have hk := ou (j - 1) (by omega)
        rcases (wU_mem_step ou h1 hj).mp hq with e | e
        · rw [← e]; exact hp
        · exact (wU_mem_step ou h1 hj).mpr (.inr (ih _ (by omega) q p (by omega) e hp))
      · rw [wU_out (by omega)] at hq; cases hq
  constructor
  · intro i hi q h1 h2
    by_cases hc : ds.getD i 0 ≤ ds.getD q 0
    · exact hc
    · exfalso
      have hdq := od q (by omega)
      have a1 : q + 1 ∈ wU us (ds.getD i 0) := (h (q + 1) (ds.getD i 0) (by omega) (by omega) (by omega)).mpr (by rw [Nat.add_sub_cancel]; omega)
      have a2 : i + 1 ∈ wU us (q + 1) := (h (i + 1) (q + 1) (by omega) (by omega) (by omega)).mpr (by rw [Nat.add_sub_cancel]; omega)
      have a3 := sub ds.length (ds.getD i 0) (by omega) (q + 1) (i + 1) (by omega) a1 a2
      have a4 := (h (i + 1) (ds.getD i 0) (by omega) (by omega) (by omega)).mp a3
      rw [Nat.add_sub_cancel] at a4
      omega
  · refine List.ext_getElem (by simp [upsL, hl]) fun o h1 h2 => ?_
    have ho : o < ds.length := by omega
    have hk := ou o (by omega)
    have e1 : us[o] = us.getD o 0 := by rw [List.getD_eq_getElem?_getD, List.getElem?_eq_getElem h1]; rfl
    have e2 : (upsL ds ds.length)[o] = upTo ds ds.length o := by simp [upsL]
    rw [e1, e2]
    have gap : ∀ q, o + 1 < q → q < us.getD o 0 → q ≤ ds.length → q ∉ wU us (o + 1) := fun q q1 q2 q3 hm => by
      rcases (wU_mem_step ou (by omega) (by omega)).mp hm with e | e
      · omega
      · rw [Nat.add_sub_cancel] at e
        have := wU_ge ou us.length _ (by omega) (by omega) e
        omega
    rcases upTo_spec (ds := ds) (o := o) ds.length (Nat.le_refl _) with ⟨e3, h5⟩ | ⟨p, e3, p1, p2, p3, p4⟩
    · rw [e3]
      by_cases hc : us.getD o 0 ≤ ds.length
      · exfalso
        have hm : us.getD o 0 ∈ wU us (o + 1) := (wU_mem_step ou (by omega) (by omega)).mpr (.inr (by rw [Nat.add_sub_cancel, wU_in ou (by omega) (by omega)]; simp))
        have := (h (us.getD o 0) (o + 1) (by omega) (by omega) hc).mp hm
        have := h5 (us.getD o 0 - 1) (by omega) (by omega)
        omega
      · omega
    · rw [e3]
      have hm : p + 1 ∈ wU us (o + 1) := (h (p + 1) (o + 1) (by omega) (by omega) (by omega)).mpr (by rw [Nat.add_sub_cancel]; omega)
      have hle : us.getD o 0 ≤ p + 1 := by
        by_cases hc : p + 1 < us.getD o 0
        · exact absurd hm (gap (p + 1) (by omega) hc (by omega))
        · omega
      have hge : p + 1 ≤ us.getD o 0 := by
        by_cases hc : us.getD o 0 < p + 1
        · exfalso
          have hm2 : us.getD o 0 ∈ wU us (o + 1) := (wU_mem_step ou (by omega) (by omega)).mpr (.inr (by rw [Nat.add_sub_cancel, wU_in ou (by omega) (by omega)]; simp))
          have := (h (us.getD o 0) (o + 1) (by omega) (by omega) (by omega)).mp hm2
          have := p4 (us.getD o 0 - 1) (by omega) (by omega)
          omega
        · omega
      omega
theorem right_iff {m : Nat} {ds us : List Nat} (ok : PrOk m ds us) : (Nest ds ∧ us = upsL ds ds.length) ↔ Right ds us :=
  ⟨fun h => star_right ok.dn ok.up (ups_star ok.dn ok.up ok.len h.1 h.2), fun h => star_ups ok.dn ok.up ok.len (right_star ok.dn ok.up h)⟩
/-! totals by counts -/
theorem sum_range_sumN (f : Nat → Int) : ∀ n, ((List.range n).map f).sum = sumN n f
  | 0 => rfl
  | n + 1 => by rw [map_range_succ, List.sum_append, sum_range_sumN f n, sumN]; simp
theorem sum_take (vs : List Int) : ∀ k, k ≤ vs.length → (vs.take k).sum = sumN k fun j => vs.getD j 0
  | 0, _ => by simp [sumN]
  | k + 1, h => by
    rw [List.take_succ_eq_append_getElem (by omega), List.sum_append, sum_take vs k (by omega), sumN, List.getD_eq_getElem?_getD, List.getElem?_eq_getElem (show k < vs.length by omega)]
    simp
theorem filter_len_sum (p : Nat → Prop) [DecidablePred p] (x : Int) : ∀ l : List Nat, (l.map fun s => ind (p s) * x).sum = ((l.filter fun s => decide (p s)).length : Int) * x
  | [] => by simp
  | s :: l => by
    rw [List.map_cons, List.sum_cons, filter_len_sum p x l]
    by_cases h : p s
    · rw [List.filter_cons_of_pos (by simp [h]), ind_t h, List.length_cons, Int.natCast_add, Int.add_mul]
      simp; omega
    · rw [List.filter_cons_of_neg (by simp [h]), ind_f h]; simp
theorem sum_map_sumN (f : Nat → Nat → Int) (n : Nat) : ∀ l : List Nat, (l.map fun s => sumN n (f s)).sum = sumN n fun j => (l.map fun s => f s j).sum
  | [] => by
    show (0 : Int) = sumN n fun _ => 0
    rw [sumN_zero]
  | s :: l => by
    rw [List.map_cons, List.sum_cons, sum_map_sumN f n l, ← sumN_add]
    exact sumN_congr fun j _ => by rw [List.map_cons, List.sum_cons]
theorem tot_counts {ds us : List Nat} {vs : List Int} (od : DnOk ds) (ou : UpOk us) (hl : us.length = vs.length) (hd : us.length = ds.length) {p : Nat} (hp : p ≤ ds.length) : totF ds (cellsF us vs) p = sumN vs.length fun j => (cD ds us p (j + 1) : Int) * vs.getD j 0 := by
  unfold totF
  have e : (wD ds p).map (fun s => (cellsF us vs).getD (s - 1) 0) = (wD ds p).map fun s => sumN vs.length fun j => ind (s ∈ wU us (j + 1)) * vs.getD j 0 := by
    refine List.map_congr_left fun s hs => ?_
    have h1 := wD_ge od p p (Nat.le_refl _) hp hs
    rw [show (cellsF us vs).getD (s - 1) 0 = _ from fillTo_get ou hl (s - 1) _]
    unfold cellAt
    rw [show s - 1 + 1 = s by omega]
  rw [e, sum_map_sumN (fun s j => ind (s ∈ wU us (j + 1)) * vs.getD j 0)]
  refine sumN_congr fun j _ => ?_
  rw [filter_len_sum (fun s => s ∈ wU us (j + 1))]
  rfl
theorem tot_right {ds us : List Nat} {vs : List Int} (od : DnOk ds) (ou : UpOk us) (hl : us.length = vs.length) (hd : us.length = ds.length) (h : Right ds us) {p : Nat} (h0 : 1 ≤ p) (hp : p ≤ ds.length) : totF ds (cellsF us vs) p = (vs.take p).sum := by
  rw [tot_counts od ou hl hd hp, sum_take vs p (by omega)]
  have split : ∀ (f g : Nat → Int) (a b : Nat), (∀ j, j < a → f j = g j) → (∀ j, a ≤ j → f j = 0) → a ≤ b → sumN b f = sumN a g := by
    intro f g a b h1 h2
    induction b with
    | zero =>
      intro h3
      have : a = 0 := by omega
      subst this; rfl
    | succ b ih =>
      intro h3
      by_cases e : a = b + 1
      · subst e
        exact sumN_congr h1
      · rw [sumN, ih (by omega), h2 b (by omega)]; omega
  refine split _ _ p vs.length (fun j hj => ?_) (fun j hj => ?_) (by omega)
  · rw [h p (j + 1) (by omega) (by omega) hp]; simp
  · have := cD_le (us := us) od ou (j := j + 1) (by omega) p p (Nat.le_refl _) hp
    rw [show cD ds us p (j + 1) = 0 by omega]; simp

/-! ### is_right -/
theorem set_range {α : Type} (f : Nat → α) (n o : Nat) (v : α) : ((List.range n).map f).set o v = (List.range n).map fun x => if x = o then v else f x := by
  refine List.ext_getElem? fun j => ?_
  rw [List.getElem?_set, List.getElem?_map, List.getElem?_map]
  by_cases h : j < n
  · rw [List.getElem?_range h]
    by_cases e : o = j
    · subst e; simp [h]
    · rw [if_neg e, Option.map_some, Option.map_some, if_neg (fun z => e z.symm)]
  · rw [List.getElem?_eq_none (by simp; omega)]
    by_cases e : o = j
    · subst e; simp [h]
    · rw [if_neg e]; rfl
theorem getD_range (f : Nat → Nat) {n i : Nat} (h : i < n) : ((List.range n).map f).getD i 0 = f i := by
  rw [List.getD_eq_getElem?_getD, List.getElem?_map, List.getElem?_range h]; rfl
theorem cut_nl (ns : List Nat) {a b : Nat} (ha : a ≤ ns.length) (hb : b ≤ ns.length) : cutV (nl ns) (some (a : Int)) (some (b : Int)) = nl ((ns.drop a).take (b - a)) := by
  unfold cutV
  rw [HT.sIx_nat, HT.sIx_nat, nl_length, Nat.min_eq_left ha, Nat.min_eq_left hb]
  simp [nl, List.map_drop, List.map_take]
theorem mem_cut {ns : List Nat} {a b x : Nat} (hb : b ≤ ns.length) : x ∈ (ns.drop a).take (b - a) ↔ ∃ q, a ≤ q ∧ q < b ∧ ns.getD q 0 = x := by
  constructor
  · intro h
    obtain ⟨i, hi, e⟩ := List.getElem_of_mem h
    rw [List.getElem_take, List.getElem_drop] at e
    rw [List.length_take, List.length_drop] at hi
    refine ⟨a + i, by omega, by omega, ?_⟩
    rw [List.getD_eq_getElem?_getD, List.getElem?_eq_getElem (show a + i < ns.length by omega)]
    exact e
  · rintro ⟨q, h1, h2, e⟩
    refine List.mem_iff_getElem?.mpr ⟨q - a, ?_⟩
    rw [List.getElem?_take, if_pos (by omega), List.getElem?_drop, show a + (q - a) = q by omega, List.getElem?_eq_getElem (show q < ns.length by omega)]
    rw [List.getD_eq_getElem?_getD, List.getElem?_eq_getElem (show q < ns.length by omega)] at e
    exact congrArg some e
def mixU (ds : List Nat) (i o : Nat) : List Nat := (List.range ds.length).map fun x => if x < o then upTo ds (i + 1) x else upTo ds i x
theorem mixU_zero (ds : List Nat) (i : Nat) : mixU ds i 0 = upsL ds i := by
  unfold mixU upsL
  exact List.map_congr_left fun x _ => if_neg (by omega)
theorem mixU_all (ds : List Nat) (i : Nat) : mixU ds i i = upsL ds (i + 1) := by
  unfold mixU upsL
  refine List.map_congr_left fun x _ => ?_
  by_cases h : x < i
  · rw [if_pos h]
  · rw [if_neg h]
    show upTo ds i x = if _ then _ else _
    rw [if_neg (by omega)]
theorem mixU_yes {ds : List Nat} {i o : Nat} (h : o < i) (h1 : ds.getD i 0 ≤ o) (h2 : ds.length < upTo ds i o) : (mixU ds i o).set o (i + 1) = mixU ds i (o + 1) := by
  unfold mixU
  rw [set_range]
  refine List.map_congr_left fun x _ => ?_
  by_cases e : x = o
  · subst e
    rw [if_pos rfl, if_pos (by omega)]
    show i + 1 = if _ then _ else _
    rw [if_pos ⟨h, h1, h2⟩]
  · rw [if_neg e]
    by_cases hx : x < o
    · rw [if_pos hx, if_pos (by omega)]
    · rw [if_neg hx, if_neg (by omega)]
theorem mixU_no {ds : List Nat} {i o : Nat} (h : ¬ (ds.getD i 0 ≤ o ∧ ds.length < upTo ds i o)) : mixU ds i o = mixU ds i (o + 1) := by
  unfold mixU
  refine List.map_congr_left fun x _ => ?_
  by_cases e : x = o
  · subst e
    rw [if_neg (by omega), if_pos (by omega)]
    show upTo ds i x = if _ then _ else _
    rw [if_neg (fun z => h z.2)]
  · by_cases hx : x < o
    · rw [if_pos hx, if_pos (by omega)]
    · rw [if_neg hx, if_neg (by omega)]
section
variable {T : Tab} {K : PySem.W.Frag} {k : Nat} {H : Hp} {Q : VK} {E : XK}
theorem ups_of_ok (hx : T.has "ups_of" f_ups_of) {d : Addr} {ds : List Nat} (hd : H d = some (.lst (nl ds))) (hn : ds.length ≤ 16) (ok : DnOk ds)
    (q1 : Nest ds → ∀ t H1, H t = none → Same H H1 → H1 t = some (.lst (nl (upsL ds ds.length))) → Q (.ref t) H1) (q2 : ¬ Nest ds → ∀ H1, Same H H1 → Q .non H1) : SPn T K (k + 1) "ups_of" [.ref d] H Q E := by
  refine SPn_of hx rfl ?_
  dsimp only [f_ups_of]
  walk_at "e"
  intro t ht
  refine cl_lst (fun _ => V.int ((ds.length + 1 : Nat) : Int)) (by simp; omega) ht hd ?_ ?_
  · intro i x H' P _ s' q'
    have hd' := s' _ _ hd
    walk_at "e"
    exact q' H' (Same.refl _)
  · intro H1 s1 h1
    have hd1 := s1 _ _ hd
    have h1' : H1 t = some (.lst (nl (upsL ds 0))) := by
      rw [h1, nl_length, map_nl (f := fun _ => ds.length + 1)]; rfl
    walk_at "e"
    refine f_enm (fun i σ H' => ∃ x2 x3 x4, σ = [some (.ref d), some (.ref t), x2, x3, x4] ∧ Same H H' ∧ H' t = some (.lst (nl (upsL ds i))) ∧ ∀ j, j < i → nestAt ds j) ⟨none, none, none, rfl, s1, h1', fun j hj => by omega⟩ ?_ ?_ ?_
    · rintro i σ' H' ⟨x2, x3, x4, rfl, sm, _⟩
      exact sm _ _ hd
    · rintro i σ' H' x hix ⟨x2, x3, x4, rfl, sm, htt, hne⟩ H2 s2
      obtain ⟨hi, rfl⟩ := nl_at hix
      have hl := ok i hi
      have hd2 := s2 _ _ (sm _ _ hd)
      have ht2 := s2 _ _ htt
      walk_at "e"
      refine e_sl2 ?_
      walk_at "e"
      refine on_l hd2 ?_
      rw [cut_nl ds (by omega) (by omega)]
      intro c H3 hc s3 e3
      walk_at "e"
      intro g hg
      refine cf_nl (fun x => decide (x < ds.getD i 0)) id (by simp; omega) hg e3 ?_ ?_ ?_
      · intro x H' P hx s q
        walk_at "e"
        have := q H' (Same.refl _)
        have e : decide ((x : Int) < (ds.getD i 0 : Nat)) = decide (x < ds.getD i 0) := by
          by_cases h : x < ds.getD i 0
          · rw [decide_eq_true h, decide_eq_true (by omega)]
          · rw [decide_eq_false h, decide_eq_false (by omega)]
        rw [e]
        exact this
      · intro x H' P hx hpx s q
        walk_at "e"
        exact q H' (Same.refl _)
      · intro H4 s4 h4
        rw [List.map_id] at h4
        walk_at "e"
        refine ⟨fit (by simp), fun z H5 hz s5 h5 => ?_⟩
        have lf : (((ds.drop (ds.getD i 0)).take (i - ds.getD i 0)).filter fun x => decide (x < ds.getD i 0)).length ≤ 16 := by
          refine Nat.le_trans (List.length_filter_le _ _) ?_
          rw [List.length_take, List.length_drop]; omega
        have fok : DOk (dN (((ds.drop (ds.getD i 0)).take (i - ds.getD i 0)).filter fun x => decide (x < ds.getD i 0))) 1 1000 := (dOk_dN fun n hn => by
          have := of_decide_eq_true (List.mem_filter.mp hn).2
          omega).mono (Nat.le_refl _) (by omega)
        refine c_neR (dp_nl (s5 _ _ h4)) (dp_nl (ns := []) h5) fok (dOk_dN (by simp)) (by omega) (by omega) ?_
        rw [eqv_dN]
        have s25 := (s3.trans s4).trans s5
        refine if_ndec (fun hf => ?_) (fun hf => ?_)
        · walk_at "e"
          refine q2 (fun hN => hf ?_) _ ((sm.trans s2).trans s25)
          rw [List.filter_eq_nil_iff]
          intro x hx
          obtain ⟨q, h6, h7, e⟩ := (mem_cut (by omega)).mp hx
          have := hN i hi q h6 h7
          rw [decide_eq_true_eq]
          omega
        · have hnest : nestAt ds i := fun q h6 h7 => by
            have := List.filter_eq_nil_iff.mp hf (ds.getD q 0) ((mem_cut (by omega)).mpr ⟨q, h6, h7, rfl⟩)
            simp only [decide_eq_true_eq] at this
            omega
          have ht5 := s25 _ _ ht2
          walk_at "e"
          refine r_1 (by omega) (by omega) ?_
          rw [Int.toNat_natCast]
          refine f_rng (fun o σ H' => ∃ x4, σ = [some (.ref d), some (.ref t), some (.int (i : Nat)), some (.int (ds.getD i 0 : Nat)), x4] ∧ Same H H' ∧ H' t = some (.lst (nl (mixU ds i o)))) ⟨_, rfl, (sm.trans s2).trans s25, by rw [mixU_zero]; exact ht5⟩ ?_ ?_
          · rintro o σ' H6 ho ⟨x4, rfl, s6, h6⟩
            have hd6 := s6 _ _ hd
            have lm : (mixU ds i o).length = ds.length := by simp [mixU]
            have gm : (mixU ds i o).getD o 0 = upTo ds i o := by
              unfold mixU
              rw [getD_range _ (by omega), if_neg (by omega)]
            rw [Int.zero_add]
            walk_at "e"
            refine if_dec (fun c1 => ?_) (fun c1 => ?_)
            · walk_at "e"
              rw [Int.toNat_natCast, gm]
              refine if_dec (fun c2 => ?_) (fun c2 => ?_)
              · walk_at "e"
                refine ⟨_, _, h6, ixN_of (by omega) (by rw [nl_length]; omega), ?_⟩
                rw [Int.toNat_natCast, show ((i : Int) + 1) = ((i + 1 : Nat) : Int) by omega, nl_set, mixU_yes ho (by omega) (by omega)]
                walk_at "e"
                exact ⟨_, rfl, same_mut s6 ht, upd_same⟩
              · walk_at "e"
                exact ⟨_, rfl, s6, by rw [← mixU_no (by omega)]; exact h6⟩
            · walk_at "e"
              exact ⟨_, rfl, s6, by rw [← mixU_no (by omega)]; exact h6⟩
          · rintro σ' H6 ⟨x4, rfl, s6, h6⟩
            walk_at "e"
            refine ⟨_, _, _, rfl, s6, by rw [← mixU_all]; exact h6, fun j hj => ?_⟩
            by_cases e : j = i
            · rw [e]; exact hnest
            · exact hne j (by omega)
    · rintro σ' H' ⟨x2, x3, x4, rfl, sm, htt, hne⟩
      walk_at "e"
      rw [nl_length] at htt hne
      exact q1 hne t H' ht sm htt
theorem upTo_le (ds : List Nat) (o : Nat) : ∀ i, i ≤ ds.length → upTo ds i o ≤ ds.length + 1 := by
  intro i hi
  rcases upTo_spec (ds := ds) (o := o) i hi with ⟨e, _⟩ | ⟨p, e, _⟩ <;> omega
theorem dOk_ups {ds : List Nat} (hn : ds.length ≤ 16) : DOk (dN (upsL ds ds.length)) 1 5000 := (dOk_dN fun n hn => by
  obtain ⟨o, _, rfl⟩ := List.mem_map.mp hn
  have := upTo_le ds o ds.length (Nat.le_refl _)
  omega).mono (Nat.le_refl _) (by simp [upsL]; omega)
theorem dOk_us {m : Nat} {ds us : List Nat} (ok : PrOk m ds us) (hm : m ≤ 16) : DOk (dN us) 1 5000 := by
  have t := ok.top
  have l := ok.len
  refine (dOk_dN (ns := us) fun n hn => ?_).mono (Nat.le_refl _) (by omega)
  obtain ⟨i, hi, e⟩ := List.getElem_of_mem hn
  have := ok.up i hi
  rw [List.getD_eq_getElem?_getD, List.getElem?_eq_getElem hi, Option.getD_some, e] at this; omega
theorem dOk_ds {m : Nat} {ds us : List Nat} (ok : PrOk m ds us) (hm : m ≤ 16) : DOk (dN ds) 1 5000 := by
  have t := ok.top
  refine (dOk_dN (ns := ds) fun n hn => ?_).mono (Nat.le_refl _) (by omega)
  obtain ⟨i, hi, e⟩ := List.getElem_of_mem hn
  have := ok.dn i hi
  rw [List.getD_eq_getElem?_getD, List.getElem?_eq_getElem hi, Option.getD_some, e] at this; omega
theorem is_right_pair_ok (hx : T.has "is_right_pair" f_is_right_pair) (hy : T.has "ups_of" f_ups_of) {p d u : Addr} {ds us : List Nat} (hp : PairAt H p d u ds us) (ok : PrOk 16 ds us)
    (q : ∀ b H1, Same H H1 → (b = true ↔ Right ds us) → Q (.bl b) H1) : SPn T K (k + 2) "is_right_pair" [.ref p] H Q E := by
  have okt := ok.top
  obtain ⟨kp, kd, ku, kne⟩ := id hp
  refine SPn_of hx rfl ?_
  dsimp only [f_is_right_pair]
  walk_at "e"
  refine ⟨rfl, ups_of_ok hy kd okt ok.dn (fun hN t H1 ht s1 h1 => ?_) (fun hN H1 s1 => ?_)⟩
  · refine c_eqR (dp_nl (s1 _ _ ku)) (dp_nl h1) (dOk_us ok (Nat.le_refl _)) (dOk_ups okt) (by omega) (by omega) ?_
    rw [eqv_dN]
    refine q _ H1 s1 ?_
    rw [decide_eq_true_iff, ← right_iff ok]
    exact ⟨fun h => ⟨hN, h⟩, fun h => h.2⟩
  · show ∃ d e, Dp _ H1 (.ref u) d ∧ Dp _ H1 .non e ∧ _ ∧ _ ∧ _
    refine ⟨_, _, dp_nl (s1 _ _ ku), Dp.non, (dOk_us ok (Nat.le_refl _)).shaped (by omega), rfl, ?_⟩
    refine q _ H1 s1 ⟨fun h => ?_, fun h => absurd ((right_iff ok).mpr h).1 hN⟩
    simp [dN, PyData.eqv] at h
structure HasR (T : Tab) : Prop where
  ir : T.has "is_right" f_is_right
  rp : T.has "is_right_pair" f_is_right_pair
  uo : T.has "ups_of" f_ups_of
  cp : T.has "check_pair" f_check_pair
  cd : T.has "check_down" f_check_down
  cu : T.has "check_up" f_check_up
  iw : T.has "is_whole" f_is_whole
  mp : T.cons.lookup ("MOST_PLACES" : Str) = some (.int 16)
theorem is_right_ok (w : HasR T) {p d u : Addr} {ds us : List Nat} (hp : PairAt H p d u ds us) (ok : PrOk 16 ds us)
    (q : ∀ b H1, Same H H1 → (b = true ↔ Right ds us) → Q (.bl b) H1) : SPn T K (k + 4) "is_right" [.ref p] H Q E := by
  refine SPn_of w.ir rfl ?_
  dsimp only [f_is_right]
  walk_at "e"
  refine ⟨rfl, check_pair_ok w.cp w.cd w.cu w.iw w.mp hp ok fun H1 s1 => ?_⟩
  walk_at "e"
  exact ⟨rfl, is_right_pair_ok w.rp w.uo (hp.same s1) ok fun b H2 s2 hb => q b H2 (s1.trans s2) hb⟩
/-- the totals -/
def totsF (ds us : List Nat) (vs : List Int) : List Int := (List.range ds.length).map fun i => totF ds (cellsF us vs) (i + 1)
theorem law_totals_ok (hx : T.has "_law_totals" f_law_totals) (w : HasV T) {p d u v : Addr} {ds us : List Nat} {vs : List Int} (hp : PairAt H p d u ds us) (ok : PrOk 16 ds us) (hv : H v = some (.lst (il vs))) (hl : us.length = vs.length)
    (q : ∀ t H1, H t = none → Same H H1 → H1 t = some (.lst (il (totsF ds us vs))) → Q (.ref t) H1) : SPn T K (k + 4) "_law_totals" [.ref p, .ref v] H Q E := by
  have okt := ok.top
  have okp := ok.pos
  have okl := ok.len
  obtain ⟨kp, kd, ku, kne⟩ := id hp
  refine SPn_of hx rfl ?_
  dsimp only [f_law_totals]
  walk_at "e"
  refine ⟨rfl, cells_of_ok w ku hv (by omega) hl ok.up fun c H1 hc s1 e1 => ?_⟩
  have hv1 := s1 _ _ hv
  have lc : (cellsF us vs).length = vs.length := fillTo_length us vs _
  walk_at "e"
  refine r_2 (by omega) (by omega) ?_
  rw [show ((vs.length : Int) + 1 - 1).toNat = ds.length by omega]
  intro t ht
  refine cl_rng (fun i => V.int (totF ds (cellsF us vs) (i + 1))) (by omega) ht ?_ ?_
  · intro i H' P hi s' q'
    have kp' := s' _ _ (s1 _ _ kp)
    walk_at "e"
    rw [show (1 : Int) + (i : Int) = ((i + 1 : Nat) : Int) by omega]
    exact ⟨rfl, total_ok w (s' _ _ (s1 _ _ kd)) (s' _ _ e1) ⟨okp, okt⟩ (by omega) ok.dn (by omega) fun H2 s2 => q' H2 s2⟩
  · intro H2 s2 h2
    have e : (List.range ds.length).map (fun i => V.int (totF ds (cellsF us vs) (i + 1))) = il (totsF ds us vs) := by simp [il, totsF]
    rw [e] at h2
    exact q t H2 (s1.free ht) (s1.trans s2) h2
end

/-! ### covers -/
def cvP (ds us : List Nat) (i j t : Nat) : Bool := decide (ds.getD (j - 1 + t) 0 < j ∧ i < us.getD (j - 1 + t) 0)
def cvF (ds us : List Nat) (i j : Nat) : Nat := ((List.range (i + 1 - j)).filter (cvP ds us i j)).length
theorem cvF_le (ds us : List Nat) (i j : Nat) : cvF ds us i j ≤ i + 1 - j := by
  have := List.length_filter_le (cvP ds us i j) (List.range (i + 1 - j))
  rw [List.length_range] at this
  exact this
def cvrow (ds us : List Nat) (i : Nat) : List Nat := (List.range ds.length).map fun j => cvF ds us i (j + 1)
def cvmat (ds us : List Nat) : List (List Nat) := (List.range ds.length).map fun i => cvrow ds us (i + 1)
theorem filter_range_succ (p : Nat → Bool) (n : Nat) : ((List.range (n + 1)).filter p).length = ((List.range n).filter p).length + if p n = true then 1 else 0 := by
  rw [List.range_succ, List.filter_append, List.length_append]
  by_cases h : p n = true
  · rw [List.filter_cons_of_pos h, if_pos h]; rfl
  · rw [List.filter_cons_of_neg h, if_neg h]; rfl
theorem dOk_cvmat {m : Nat} {ds us : List Nat} (ok : PrOk m ds us) (hm : m ≤ 16) : DOk (dNN (cvmat ds us)) 2 20000 := by
  have t := ok.top
  refine (dOk_dNN (m := 16) ?_).mono (Nat.le_refl _) ?_
  · intro ns hn
    obtain ⟨i, hi, rfl⟩ := List.mem_map.mp hn
    have hi := List.mem_range.mp hi
    refine ⟨by simp [cvrow]; omega, fun n hn => ?_⟩
    obtain ⟨j, hj, rfl⟩ := List.mem_map.mp hn
    have := cvF_le ds us (i + 1) (j + 1)
    omega
  · simp [cvmat]; omega
section
variable {K : PySem.W.Frag} {σ : L2.St} {H : Hp} {tt : TT} {te : TE} {Q : VK} {a d : Addr} {xs : List V} {js : List Nat}
/-- a comprehension over a list of tuples -/
theorem l_lstT (W : Nat → Hp → Prop) (h0 : W 0 H) (ok : ∀ i H', W i H' → H' a = some (.lst xs))
    (turn : ∀ i H' x, xs[i]? = some x → W i H' → ∃ p ys, x = .ref p ∧ H' p = some (.tup ys) ∧ ys.length = js.length ∧ tt (setAll σ js ys) H' fun b H3 => if b = true then te (setAll σ js ys) H3 fun y H4 => ∃ acc, H4 d = some (.lst acc) ∧ acc.length < sizeLine ∧ W (i + 1) (upd H4 d (.lst (acc ++ [y]))) else W (i + 1) H3)
    (done : ∀ H', W xs.length H' → Q (.ref d) H') : lcW K (.lst a xs) (.tup js) tt te σ d Q H := by
  refine ⟨W, h0, ?_, fun H' w => ⟨.inl (.inl (ok _ H' w)), done H' w⟩⟩
  intro i H' hi w
  obtain ⟨p, ys, e, hp, hl, q⟩ := turn i H' _ (List.getElem?_eq_getElem hi) w
  refine ⟨.inl (.inl (ok i H' w)), p, ?_, ?_⟩
  · rw [List.getElem?_eq_getElem hi, e]
  · exact on_t hp ⟨hl, q⟩
end
section
variable {T : Tab} {K : PySem.W.Frag} {k : Nat} {H : Hp} {Q : VK} {E : XK}
theorem cut_ref (ts : List Addr) {a b : Nat} (ha : a ≤ ts.length) (hb : b ≤ ts.length) : cutV (ts.map V.ref) (some (a : Int)) (some (b : Int)) = ((ts.drop a).take (b - a)).map V.ref := by
  unfold cutV
  rw [HT.sIx_nat, HT.sIx_nat, List.length_map, Nat.min_eq_left ha, Nat.min_eq_left hb]
  simp [List.map_drop, List.map_take]
theorem cover_of_ok (hx : T.has "cover_of" f_cover_of) {p d u : Addr} {ds us : List Nat} (hp : PairAt H p d u ds us) (ok : PrOk 16 ds us) {i j : Nat} (hi : 1 ≤ i ∧ i ≤ ds.length) (hj : 1 ≤ j ∧ j ≤ ds.length)
    (q : ∀ H1, Same H H1 → Q (.int (cvF ds us i j : Nat)) H1) : SPn T K (k + 1) "cover_of" [.ref p, .int (i : Nat), .int (j : Nat)] H Q E := by
  have okt := ok.top
  have okl := ok.len
  obtain ⟨kp, kd, ku, kne⟩ := id hp
  refine SPn_of hx rfl ?_
  dsimp only [f_cover_of]
  walk_at "e"
  refine e_sl2 ?_
  walk_at "e"
  intro r ts H1 hr s1 lt nd nr nt e1 e2
  have lts : ts.length = ds.length := by rw [lt, nl_length, nl_length]; omega
  walk_at "e"
  refine on_l e1 ?_
  rw [show ((j : Int) - 1) = ((j - 1 : Nat) : Int) by omega, cut_ref ts (by omega) (by omega)]
  intro c H2 hc s2 e3
  walk_at "e"
  intro g hg
  have lcut : (((ts.drop (j - 1)).take (i - (j - 1))).map V.ref).length = i + 1 - j := by
    rw [List.length_map, List.length_take, List.length_drop]; omega
  refine l_lstT (fun t H' => Same H2 H' ∧ ∃ acc, H' g = some (.lst acc) ∧ acc.length = ((List.range t).filter (cvP ds us i j)).length) ⟨same_new hg, [], upd_same, rfl⟩ (fun t H' h => h.1 _ _ e3) ?_ ?_
  · rintro t H' x hx ⟨s, acc, h1, h2⟩
    have ht : t < i + 1 - j := by
      have := (List.getElem?_eq_some_iff.mp hx).1
      omega
    have hmt : j - 1 + t < ts.length := by omega
    have hx2 : x = .ref (ts[j - 1 + t]'hmt) := by
      rw [List.getElem?_map, List.getElem?_take, if_pos (by omega), List.getElem?_drop, List.getElem?_eq_getElem hmt] at hx
      exact (Option.some.inj hx).symm
    have et := e2 (j - 1 + t) (ts[j - 1 + t]'hmt) _ _ (List.getElem?_eq_getElem hmt) (nl_get (ns := ds) (by omega)) (nl_get (ns := us) (by omega))
    refine ⟨_, _, hx2, s _ _ (s2 _ _ et), rfl, ?_⟩
    have hle := List.length_filter_le (cvP ds us i j) (List.range t)
    rw [List.length_range] at hle
    have stepY : cvP ds us i j t = true → ∀ y : V, ∃ acc, H' g = some (.lst acc) ∧ acc.length < sizeLine ∧ (Same H2 (upd H' g (.lst (acc ++ [y]))) ∧ ∃ acc', upd H' g (.lst (acc ++ [y])) g = some (.lst acc') ∧ acc'.length = ((List.range (t + 1)).filter (cvP ds us i j)).length) := fun hv y =>
      ⟨acc, h1, fit1 (by omega), same_mut s hg, _, upd_same, by rw [filter_range_succ, if_pos hv, List.length_append, h2]; rfl⟩
    have stepN : cvP ds us i j t = false → (Same H2 H' ∧ ∃ acc', H' g = some (.lst acc') ∧ acc'.length = ((List.range (t + 1)).filter (cvP ds us i j)).length) := fun hv =>
      ⟨s, acc, h1, by rw [filter_range_succ, if_neg (by rw [hv]; decide), h2]; rfl⟩
    walk_at "e"
    refine if_dec (fun c1 => ?_) (fun c1 => ?_)
    · walk_at "e"
      refine if_dec (fun c2 => ?_) (fun c2 => ?_)
      · walk_at "e"
        exact stepY (decide_eq_true ⟨by omega, by omega⟩) _
      · exact stepN (decide_eq_false (by omega))
    · walk_at "e"
      exact stepN (decide_eq_false (by omega))
  · rintro H3 ⟨s3, acc, h3, h4⟩
    rw [lcut] at h4
    walk_at "e"
    rw [h4]
    exact q H3 ((s1.trans s2).trans s3)
theorem rg1 (n : Nat) : rgV 1 ((n : Int) + 1) = nl ((List.range n).map (· + 1)) := by
  unfold rgV nl
  rw [show ((n : Int) + 1 - 1).toNat = n by omega, List.map_map]
  refine List.map_congr_left fun i _ => ?_
  show V.int (1 + (i : Nat)) = V.int ((i + 1 : Nat) : Int)
  congr 1
  omega
theorem covers_of_ok (hx : T.has "covers_of" f_covers_of) (hy : T.has "cover_of" f_cover_of) {p d u : Addr} {ds us : List Nat} (hp : PairAt H p d u ds us) (ok : PrOk 16 ds us)
    (q : ∀ a as H1, Same H H1 → (∀ x, x ∈ a :: as → H x = none) → RowsAt H1 a as ((cvmat ds us).map nl) → Q (.ref a) H1) : SPn T K (k + 2) "covers_of" [.ref p] H Q E := by
  have okt := ok.top
  have okl := ok.len
  have okp := ok.pos
  obtain ⟨kp, kd, ku, kne⟩ := id hp
  refine SPn_of hx rfl ?_
  dsimp only [f_covers_of]
  walk_at "e"
  refine e_lrg ?_
  walk_at "e"
  refine ⟨RgOk.of_le (by omega) (by omega) (by omega) (by omega), ?_⟩
  rw [rg1]
  intro pl H1 hpl s1 e1
  walk_at "e"
  intro a ha
  refine cr_lst (fun i => nl (cvrow ds us (i + 1))) (by simp; omega) ha e1 ?_ ?_
  · intro i x H' P hix s' q'
    obtain ⟨hi, rfl⟩ := nl_at hix
    have hi2 : i < ds.length := by simpa using hi
    have e1' := s' _ _ e1
    rw [getD_range _ hi2]
    walk_at "e"
    intro g hg
    refine cl_lst (fun j => V.int (cvF ds us (i + 1) (j + 1) : Nat)) (by simp; omega) hg e1' ?_ ?_
    · intro j y H'' P' hjy s'' q''
      obtain ⟨hj, rfl⟩ := nl_at hjy
      have hj2 : j < ds.length := by simpa using hj
      rw [getD_range _ hj2]
      walk_at "e"
      exact ⟨rfl, cover_of_ok hy (hp.same ((s1.trans s').trans s'')) ok (by omega) (by omega) fun H3 s3 => q'' H3 s3⟩
    · intro H'' s'' h''
      rw [nl_length, List.length_map, List.length_range, map_nl] at h''
      exact q' g H'' hg s'' h''
  · intro as H2 s2 h2 fr
    rw [nl_length, List.length_map, List.length_range] at h2
    refine q a as H2 (s1.trans s2) ?_ ?_
    · intro x hx
      rcases List.mem_cons.mp hx with e | hx
      · rw [e]; exact s1.free ha
      · exact s1.free (fr x hx)
    · rw [cvmat, List.map_map]
      exact h2
structure HasO (T : Tab) : Prop where
  co : T.has "covers" f_covers
  cf : T.has "covers_of" f_covers_of
  c1 : T.has "cover_of" f_cover_of
  cp : T.has "check_pair" f_check_pair
  cd : T.has "check_down" f_check_down
  cu : T.has "check_up" f_check_up
  iw : T.has "is_whole" f_is_whole
  mp : T.cons.lookup ("MOST_PLACES" : Str) = some (.int 16)
theorem covers_ok (w : HasO T) {p d u : Addr} {ds us : List Nat} (hp : PairAt H p d u ds us) (ok : PrOk 16 ds us)
    (q : ∀ a as H1, Same H H1 → (∀ x, x ∈ a :: as → H x = none) → RowsAt H1 a as ((cvmat ds us).map nl) → Q (.ref a) H1) : SPn T K (k + 4) "covers" [.ref p] H Q E := by
  refine SPn_of w.co rfl ?_
  dsimp only [f_covers]
  walk_at "e"
  refine ⟨rfl, check_pair_ok w.cp w.cd w.cu w.iw w.mp hp ok fun H1 s1 => ?_⟩
  walk_at "e"
  refine ⟨rfl, covers_of_ok w.cf w.c1 (hp.same s1) ok fun a as H2 s2 fr h => ?_⟩
  exact q a as H2 (s1.trans s2) (fun x hx => s1.free (fr x hx)) h
end

/-! ### k16 -/
section
variable {T : Tab} {K : PySem.W.Frag} {k : Nat} {H : Hp} {Q : VK} {E : XK}
theorem RowsAt.nat {H : Hp} {a : Addr} {as : List Addr} {nss : List (List Nat)} (h : RowsAt H a as (nss.map nl)) {i : Nat} {x : V} (e : (as.map V.ref)[i]? = some x) : ∃ p, i < nss.length ∧ x = .ref p ∧ p ∈ as ∧ H p = some (.lst (nl (nss.getD i []))) := by
  obtain ⟨p, hi, rfl, _, hm, hp⟩ := h.at_ e
  rw [List.length_map] at hi
  rw [List.getElem_map] at hp
  refine ⟨p, hi, rfl, hm, ?_⟩
  rw [List.getD_eq_getElem?_getD, List.getElem?_eq_getElem hi, Option.getD_some]
  exact hp
/-- rows with a None behind each -/
def dNo (ns : List Nat) : PyData := .list ((ns.map fun (n : Nat) => PyData.int (n : Int)) ++ [.none])
def dNNo (nss : List (List Nat)) : PyData := .list (nss.map dNo)
theorem dpAll_app {xs ys : List V} {ds es : List PyData} (h : DpAll K H xs ds) (g : DpAll K H ys es) : DpAll K H (xs ++ ys) (ds ++ es) := by
  induction xs generalizing ds with
  | nil => cases h; exact g
  | cons x xs ih =>
    cases h with
    | cons h1 h2 => exact DpAll.cons h1 (ih h2)
theorem RowsAt.dpO {H : Hp} {a : Addr} {as : List Addr} {nss : List (List Nat)} (h : RowsAt H a as (nss.map fun ns => nl ns ++ [.non])) : Dp K H (.ref a) (dNNo nss) := by
  refine h.dp (by simp) ?_
  intro i xs d h1 h2
  rw [List.getElem?_map] at h1 h2
  cases e : nss[i]? with
  | none => rw [e] at h1; cases h1
  | some ns =>
    rw [e] at h1 h2
    cases h1; cases h2
    exact ⟨_, rfl, dpAll_app (dpAll_nl ns) (DpAll.cons Dp.non DpAll.nil)⟩
theorem okAll_app : ∀ {xs ys : List PyData} {n w u : Nat}, DsOk xs n w → DsOk ys n u → DsOk (xs ++ ys) n (w + u)
  | [], ys, n, w, u, _, g => ⟨g.ok, g.dp, Nat.le_trans g.wt (by omega)⟩
  | x :: xs, ys, n, w, u, h, g => by
    have h1 : okD x = true ∧ okAll xs = true := by have := h.ok; simpa [okAll] using this
    have h2 := h.dp
    have h3 := h.wt
    rw [PyData.depthAll] at h2
    rw [PyData.weightAll] at h3
    have ih := okAll_app (n := n) (w := w - (x.weight + 1)) (⟨h1.2, by omega, by omega⟩ : DsOk xs n (w - (x.weight + 1))) g
    refine ⟨?_, ?_, ?_⟩
    · rw [List.cons_append, okAll, h1.1, ih.ok]; rfl
    · rw [List.cons_append, PyData.depthAll]; have := ih.dp; omega
    · rw [List.cons_append, PyData.weightAll]; have := ih.wt; omega
theorem dOk_dNo {ns : List Nat} (h : ∀ n, n ∈ ns → n < 1000000000000) : DOk (dNo ns) 1 (42 * ns.length + 1) := by
  have := (DsOk.of_all (n := 0) (w := 41) (ds := ns.map fun (n : Nat) => PyData.int (n : Int)) (fun d hd => by
    obtain ⟨n, hn, rfl⟩ := List.mem_map.mp hd
    have := h n hn
    exact dOk_int (by omega)))
  rw [List.length_map] at this
  exact (okAll_app this (ys := [.none]) (u := 1) ⟨rfl, Nat.le_refl _, Nat.le_refl _⟩).list
theorem dOk_cvO {m : Nat} {ds us : List Nat} (ok : PrOk m ds us) (hm : m ≤ 16) : DOk (dNNo (cvmat ds us)) 2 20000 := by
  have t := ok.top
  have := (DsOk.of_all (n := 1) (w := 42 * 16 + 1) (ds := (cvmat ds us).map dNo) (fun d hd => by
    obtain ⟨ns, hn, rfl⟩ := List.mem_map.mp hd
    obtain ⟨i, hi, rfl⟩ := List.mem_map.mp hn
    have hi := List.mem_range.mp hi
    refine (dOk_dNo fun n hn => ?_).mono (Nat.le_refl _) (by simp [cvrow]; omega)
    obtain ⟨j, hj, rfl⟩ := List.mem_map.mp hn
    have := cvF_le ds us (i + 1) (j + 1)
    omega)).list
  refine this.mono (Nat.le_refl _) ?_
  simp [cvmat]; omega
theorem law_covers_ok (hx : T.has "_law_covers" f_k16_law_covers) {p d u : Addr} {ds us : List Nat} (hp : PairAt H p d u ds us) (ok : PrOk 16 ds us)
    (q : ∀ a as H1, Same H H1 → (∀ x, x ∈ a :: as → H x = none) → RowsAt H1 a as ((cvmat ds us).map nl) → Q (.ref a) H1) : SPn T K (k + 1) "_law_covers" [.ref p] H Q E := by
  have okt := ok.top
  have okl := ok.len
  have okp := ok.pos
  obtain ⟨kp, kd, ku, kne⟩ := id hp
  refine SPn_of hx rfl ?_
  dsimp only [f_k16_law_covers]
  walk_at "e"
  refine ⟨rfl, ?_⟩
  walk_at "e"
  refine ⟨fit (by simp), fun rs H1 hrs s1 e1 => ?_⟩
  have kd1 := s1 _ _ kd
  walk_at "e"
  refine r_2 (by omega) (by omega) ?_
  rw [show ((ds.length : Int) + 1 - 1).toNat = ds.length by omega]
  refine f_rng (fun i σ H' => ∃ x2 x5 x6 bs, σ = [some (.ref p), some (.ref rs), x2, some (.ref d), some (.ref u), x5, x6, none] ∧ Same H H' ∧ (∀ x, x ∈ bs → H x = none) ∧ RowsAt H' rs bs ((List.range i).map fun k => nl (cvrow ds us (k + 1)))) ⟨none, none, none, [], rfl, s1, (fun x hx => by cases hx), RowsAt.nil e1⟩ ?_ ?_
  · rintro i σ' H2 hi ⟨x2, x5, x6, bs, rfl, s2, fr, h⟩
    rw [show (1 : Int) + (i : Int) = ((i + 1 : Nat) : Int) by omega]
    have lb : bs.length = i := by have := h.len; simpa using this
    walk_at "e"
    refine ⟨fit (by simp), fun row H3 hrow s3 e3 => ?_⟩
    have kd3 := s3 _ _ (s2 _ _ kd)
    have hout := h.out hrow
    walk_at "e"
    refine r_2 (by omega) (by omega) ?_
    rw [show ((ds.length : Int) + 1 - 1).toNat = ds.length by omega]
    refine f_rng (fun j σ H' => ∃ x6, σ = [some (.ref p), some (.ref rs), some (.int ((i + 1 : Nat) : Int)), some (.ref d), some (.ref u), some (.ref row), x6, none] ∧ Same H2 H' ∧ H' row = some (.lst (nl ((List.range j).map fun t => cvF ds us (i + 1) (t + 1))))) ⟨_, rfl, s3, e3⟩ ?_ ?_
    · rintro j σ' H4 hj ⟨x6, rfl, s4, e4⟩
      rw [show (1 : Int) + (j : Int) = ((j + 1 : Nat) : Int) by omega]
      walk_at "e"
      simp only [e4]
      walk_at "e"
      refine r_2 (by omega) (by omega) ?_
      intro g hg
      have hgr : row ≠ g := ne_of_none e4 hg
      have s24 := s2.trans s4
      refine l_rng (fun t H' => Same H4 H' ∧ ∃ acc, H' g = some (.lst acc) ∧ acc.length = ((List.range t).filter (cvP ds us (i + 1) (j + 1))).length) ⟨same_new hg, [], upd_same, rfl⟩ ?_ ?_
      · rintro t H' ht ⟨s, acc, h1, h2⟩
        have ht2 : t < i + 1 + 1 - (j + 1) := by omega
        have kd' := s _ _ (s24 _ _ kd)
        have ku' := s _ _ (s24 _ _ ku)
        have hle := List.length_filter_le (cvP ds us (i + 1) (j + 1)) (List.range t)
        rw [List.length_range] at hle
        have ej : (((j + 1 : Nat) : Int) + (t : Int) - 1).toNat = j + 1 - 1 + t := by omega
        have stepY : cvP ds us (i + 1) (j + 1) t = true → ∀ y : V, ∃ acc, H' g = some (.lst acc) ∧ acc.length < sizeLine ∧ (Same H4 (upd H' g (.lst (acc ++ [y]))) ∧ ∃ acc', upd H' g (.lst (acc ++ [y])) g = some (.lst acc') ∧ acc'.length = ((List.range (t + 1)).filter (cvP ds us (i + 1) (j + 1))).length) := fun hv y =>
          ⟨acc, h1, fit1 (by omega), same_mut s hg, _, upd_same, by rw [filter_range_succ, if_pos hv, List.length_append, h2]; rfl⟩
        have stepN : cvP ds us (i + 1) (j + 1) t = false → (Same H4 H' ∧ ∃ acc', H' g = some (.lst acc') ∧ acc'.length = ((List.range (t + 1)).filter (cvP ds us (i + 1) (j + 1))).length) := fun hv =>
          ⟨s, acc, h1, by rw [filter_range_succ, if_neg (by rw [hv]; decide), h2]; rfl⟩
        walk_at "e"
        rw [ej]
        refine if_dec (fun c1 => ?_) (fun c1 => ?_)
        · walk_at "e"
          rw [ej]
          refine if_dec (fun c2 => ?_) (fun c2 => ?_)
          · walk_at "e"
            exact stepY (decide_eq_true ⟨by omega, by omega⟩) _
          · exact stepN (decide_eq_false (by omega))
        · walk_at "e"
          exact stepN (decide_eq_false (by omega))
      · rintro H5 ⟨s5, acc, h5, h6⟩
        have e45 := s5 _ _ e4
        have el : acc.length = cvF ds us (i + 1) (j + 1) := by
          rw [h6]
          unfold cvF
          rw [show (((i + 1 : Nat) : Int) + 1 - ((j + 1 : Nat) : Int)).toNat = i + 1 + 1 - (j + 1) by omega]
        walk_at "e"
        rw [el]
        refine m_append e45 (fit1 (by simp; omega)) ?_
        walk_at "e"
        refine ⟨_, rfl, same_mut (s4.trans s5) hrow, ?_⟩
        rw [upd_same, map_range_succ, nl_append]; rfl
    · rintro σ' H4 ⟨x6, rfl, s4, e4⟩
      have h4 := h.same s4
      have top4 := h4.top
      walk_at "e"
      simp only [top4]
      walk_at "e"
      refine m_append top4 (fit1 (by simp; omega)) ?_
      walk_at "e"
      refine ⟨_, _, _, bs ++ [row], rfl, same_mut (s2.trans s4) hrs, ?_, ?_⟩
      · intro x hx
        rcases List.mem_append.mp hx with hx | hx
        · exact fr x hx
        · rw [List.mem_singleton.mp hx]; exact s2.free hrow
      · rw [map_range_succ]
        exact h4.snoc hout e4
  · rintro σ' H2 ⟨x2, x5, x6, bs, rfl, s2, fr, h⟩
    walk_at "e"
    refine q rs bs H2 s2 ?_ ?_
    · intro x hx
      rcases List.mem_cons.mp hx with e | hx
      · rw [e]; exact hrs
      · exact fr x hx
    · rw [cvmat, List.map_map]
      exact h
theorem law_right_ok (hx : T.has "_law_right" f_k16_law_right) (w : HasO T) (hc : T.has "_law_covers" f_k16_law_covers) {p d u : Addr} {ds us : List Nat} (hp : PairAt H p d u ds us) (ok : PrOk 16 ds us) (q : ∀ H1, Same H H1 → Q (.bl true) H1) : SPn T K (k + 5) "_law_right" [.ref p] H Q E := by
  have okt := ok.top
  have okp := ok.pos
  have okl := ok.len
  have mok := dOk_cvmat ok (Nat.le_refl _)
  have pok := dOk_pr ok (Nat.le_refl _)
  refine SPn_of hx rfl ?_
  dsimp only [f_k16_law_right]
  walk_at "e"
  refine b_repr hp.dp pok (by omega) (by omega) ?_
  walk_at "e"
  refine ⟨rfl, law_covers_ok hc hp ok fun c cs H1 s1 fc hc1 => ?_⟩
  walk_at "e"
  refine ⟨rfl, covers_ok w (hp.same s1) ok fun a as H2 s2 fa ha2 => ?_⟩
  walk_at "e"
  refine e_callK w.co ?_
  walk_at "e"
  refine ⟨rfl, rfl, covers_ok w (hp.same (s1.trans s2)) ok fun b bs H3 s3 fb hb3 => ?_⟩
  walk_at "e"
  refine ⟨fit (by simp), fun t H4 ht s4 e4 => ?_⟩
  have hc4 := hc1.same ((s2.trans s3).trans s4)
  have ha4 := ha2.same (s3.trans s4)
  have hb4 := hb3.same s4
  have two : DOk (.list [dNN (cvmat ds us), dNN (cvmat ds us)]) 3 50000 := ((DsOk.cons mok (DsOk.cons mok (DsOk.nil (w := 0)))).list).mono (Nat.le_refl _) (by omega)
  walk_at "e"
  refine b_repr (dp_l e4 (dp2 ha4.dpN hb4.dpN)) two (by omega) (by omega) ?_
  walk_at "e"
  refine ⟨fit (by simp), fun t2 H5 ht2 s5 e5 => ?_⟩
  have hc5 := hc4.same s5
  walk_at "e"
  refine b_repr (dp_l e5 (dp2 hc5.dpN hc5.dpN)) two (by omega) (by omega) ?_
  walk_at "e"
  rw [decide_eq_true rfl]
  have s15 := (((s1.trans s2).trans s3).trans s4).trans s5
  walk_at "e"
  refine b_repr (hp.same s15).dp pok (by omega) (by omega) ?_
  walk_at "e"
  rw [decide_eq_true rfl]
  have e45 := s5 _ _ e4
  have ha5 := ha4.same s5
  walk_at "e"
  refine i_l e45 rfl ?_
  have top5 := ha5.top
  walk_at "e"
  have rl : ∀ ns, ns ∈ cvmat ds us → ns.length ≤ 1000 := fun ns hn => by
    obtain ⟨i, hi, rfl⟩ := List.mem_map.mp hn
    simp [cvrow]; omega
  refine none_loop (show (4 : Nat) < 5 by decide) rl ha5 fun x5 H7 ha7 fr7 => ?_
  have tas : t ∉ as := fun hm => (ha2.same s3).out ht (List.mem_cons_of_mem _ hm)
  have e47 := fr7 _ _ tas e45
  have s16 := (((s2.trans s3).trans s4).trans s5)
  have s17 : Same H1 H7 := fun y o ho => fr7 y o (fun hm => by
    have := fa y (List.mem_cons_of_mem _ hm)
    rw [ho] at this; cases this) (s16 y o ho)
  have hc7 := hc1.same s17
  have hp7 := hp.same (s1.trans s17)
  have cok := dOk_cvO ok (Nat.le_refl _)
  have ct7 := hc7.top
  walk_at "e"
  refine i_l e47 rfl ?_
  walk_at "e"
  refine b_repr ha7.dpO cok (by omega) (by omega) ?_
  walk_at "e"
  intro g hg
  have lcs : cs.length = (cvmat ds us).length := by have := hc1.len; simpa using this
  have lcm : (cvmat ds us).length = ds.length := by simp [cvmat]
  refine cr_lst (fun i => nl ((cvmat ds us).getD i []) ++ [.non]) (by simp; omega) hg ct7 ?_ ?_
  · intro i x H' P hix s' q'
    obtain ⟨p', hi, rfl, hm, e'⟩ := hc7.nat hix
    have hlen := rl _ (show (cvmat ds us).getD i [] ∈ cvmat ds us by rw [List.getD_eq_getElem?_getD, List.getElem?_eq_getElem hi, Option.getD_some]; exact List.getElem_mem hi)
    walk_at "e"
    refine ⟨fit (by simp), fun z H8 hz s8 e8 => ?_⟩
    refine o_cat (s8 _ _ (s' _ _ e')) e8 (fit (by rw [nl_length, List.length_cons, List.length_nil]; omega)) ?_
    intro y H9 hy s9 e9
    exact q' y H9 (s8.free hy) (s8.trans s9) e9
  · intro gs H8 s8 hg8 _
    have eg : ((List.range (cs.map V.ref).length).map fun i => nl ((cvmat ds us).getD i []) ++ [V.non]) = (cvmat ds us).map fun ns => nl ns ++ [V.non] := by
      rw [List.length_map, lcs, ← mixR_all]
      unfold mixR
      refine List.map_congr_left fun j hj => ?_
      rw [if_pos (List.mem_range.mp hj)]
    rw [eg] at hg8
    walk_at "e"
    refine b_repr hg8.dpO cok (by omega) (by omega) ?_
    walk_at "e"
    rw [decide_eq_true rfl]
    walk_at "e"
    refine ⟨rfl, covers_ok w (hp7.same s8) ok fun o os H9 s9 fo ho => ?_⟩
    walk_at "e"
    refine b_repr ho.dpN mok (by omega) (by omega) ?_
    walk_at "e"
    refine b_repr ((hc7.same s8).same s9).dpN mok (by omega) (by omega) ?_
    walk_at "e"
    rw [decide_eq_true rfl]
    walk_at "e"
    refine b_repr ((hp7.same s8).same s9).dp pok (by omega) (by omega) ?_
    walk_at "e"
    rw [decide_eq_true rfl]
    exact q H9 (((s1.trans s17).trans s8).trans s9)
theorem pr_of {ds us : List Nat} (h : (decide (1 ≤ ds.length ∧ ds.length ≤ 16 ∧ us.length = ds.length) && ((List.range ds.length).all fun i => decide (ds.getD i 0 ≤ i)) && ((List.range us.length).all fun i => decide (i + 2 ≤ us.getD i 0 ∧ us.getD i 0 ≤ us.length + 1))) = true) : PrOk 16 ds us := by
  simp only [Bool.and_eq_true] at h
  obtain ⟨⟨h1, h2⟩, h3⟩ := h
  have h1 := of_decide_eq_true h1
  exact ⟨h1.1, h1.2.1, h1.2.2, fun i hi => of_decide_eq_true (List.all_eq_true.mp h2 i (List.mem_range.mpr hi)), fun i hi => of_decide_eq_true (List.all_eq_true.mp h3 i (List.mem_range.mpr hi))⟩
theorem law_ok (hx : T.has "law" f_k16_law) (w : HasO T) (m : HasM T) (hr : T.has "_law_right" f_k16_law_right) (hcv : T.has "_law_covers" f_k16_law_covers) {a : Addr} {ns : List Int} (hS : Scr K H a (ns.map V.int))
    (q : ∀ H1, Q (.bl true) H1) : SPn T K (k + 6) "law" [.ref a] H Q E := by
  refine SPn_of hx rfl ?_
  dsimp only [f_k16_law]
  walk_at "e"
  refine e_sl0 ?_
  walk_at "e"
  refine hS.on ?_
  rw [show cutV (ns.map V.int) none (some 6) = il (ns.take 6) from cut_hi ns 6]
  intro b H1 hb1 s1 h1
  walk_at "e"
  refine ⟨fit (by simp), fun c H2 hc2 s2 h2 => ?_⟩
  refine o_cat (s2 _ _ h1) h2 (fit (by simp; omega)) ?_
  rw [show il (ns.take 6) ++ [V.int 0] = il (ns.take 6 ++ [0]) by simp [il]]
  intro d H3 hd3 s3 h3
  walk_at "e"
  intro e he
  refine draws_comp m.dr h3 (by simp; omega) (show (3 : Nat) < 5 by decide) he ?_
  intro rs H4 s4 lrs h4
  have hrs : rs.length ≤ 7 := by rw [lrs]; simp; omega
  have h40 := h4.1
  walk_at "e"
  refine f_lst (fun i σ H' => ∃ x1 x3, σ = [some (.ref a), x1, x3, none, none] ∧ DrawsAt H' e rs (180 * i)) ⟨none, none, rfl, h4⟩ ?_ ?_ ?_
  · rintro i σ' H' ⟨x1, x3, rfl, h⟩
    exact h.1
  · rintro i σ' H' x hix ⟨x1, x3, rfl, h⟩
    obtain ⟨r, hrr, rfl, hi⟩ := map_ref_at hix
    walk_at "e"
    refine r_1 (by omega) (by omega) ?_
    refine f_rng (fun j σ H' => ∃ x3, σ = [some (.ref a), some (.ref r), x3, none, none] ∧ DrawsAt H' e rs (180 * i + 60 * j)) ⟨_, rfl, h⟩ ?_ ?_
    · rintro j σ' H' hj ⟨x3, rfl, h⟩
      have hj3 : j < 3 := by omega
      walk_at "e"
      refine ⟨rfl, law_any_ok (m := 16) m.an m.nx m.pr m.tr m.bt (h.2 r hrr).2 (by omega) (by omega) fun p d u ds us H5 hp hd' hu' f5 r5 a5 b5 => ?_⟩
      walk_at "e"
      refine ⟨rfl, law_right_ok hr w hcv a5 b5 fun H6 s6 => ?_⟩
      walk_at "e"
      exact ⟨_, rfl, (h.step hrr f5 r5 (by omega)).same s6 |>.mono (by omega)⟩
    · rintro σ' H' ⟨x3, rfl, h⟩
      walk_at "e"
      exact ⟨_, _, rfl, h.mono (by have : (3 : Int).toNat = 3 := rfl
                                   omega)⟩
  · rintro σ' H' ⟨x1, x3, rfl, h⟩
    clear h h4 h40 hrs
    walk_at "e"
    refine ⟨fit (by simp), fun z1 H5 hz1 s5 h5 => ?_⟩
    walk_at "e"
    refine o_rep h5 (by omega) (by simp) ?_
    rw [show (List.replicate (16 : Int).toNat [V.int 0]).flatten = nl (List.replicate 16 0) from rfl]
    intro dA H6 hdA s6 h6
    walk_at "e"
    refine ⟨fit (by simp), fun z2 H7 hz2 s7 h7 => ?_⟩
    walk_at "e"
    refine o_rep h7 (by omega) (by simp) ?_
    rw [show (List.replicate (16 : Int).toNat [V.int 17]).flatten = nl (List.replicate 16 17) from rfl]
    intro uA H8 huA s8 h8
    walk_at "e"
    refine ⟨fit (by simp), fun pA H9 hpA s9 h9 => ?_⟩
    refine ⟨rfl, law_right_ok hr w hcv (ds := List.replicate 16 0) (us := List.replicate 16 17) ⟨h9, s9 _ _ (s8 _ _ (s7 _ _ h6)), s9 _ _ h8, ne_of_none (s7 _ _ h6) huA⟩ (pr_of (by decide)) fun H10 s10 => ?_⟩
    walk_at "e"
    refine r_1 (by omega) (by omega) ?_
    intro dB hdB
    refine cl_rng (fun k => V.int (k : Nat)) (by decide) hdB ?_ ?_
    · intro i H' P hi s' q'
      walk_at "e"
      rw [Int.zero_add]
      exact q' H' (Same.refl _)
    · intro H11 s11 h11
      have h11' : H11 dB = some (.lst (nl (List.range 16))) := h11
      walk_at "e"
      refine r_1 (by omega) (by omega) ?_
      intro uB huB
      refine cl_rng (fun k => V.int ((k + 2 : Nat) : Int)) (by decide) huB ?_ ?_
      · intro i H' P hi s' q'
        walk_at "e"
        rw [Int.zero_add]
        exact q' H' (Same.refl _)
      · intro H12 s12 h12
        have h12' : H12 uB = some (.lst (nl ((List.range 16).map fun k => k + 2))) := by rw [h12]; rfl
        walk_at "e"
        refine ⟨fit (by simp), fun pB H13 hpB s13 h13 => ?_⟩
        refine ⟨rfl, law_right_ok hr w hcv (ds := List.range 16) (us := (List.range 16).map fun k => k + 2) ⟨h13, s13 _ _ (s12 _ _ h11'), s13 _ _ h12', ne_of_none h11' huB⟩ (pr_of (by decide)) fun H14 s14 => ?_⟩
        walk_at "e"
        refine ⟨fit (by simp), fun d1 H15 hd1 s15 h15 => ?_⟩
        walk_at "e"
        refine ⟨fit (by simp), fun u1 H16 hu1 s16 h16 => ?_⟩
        walk_at "e"
        refine ⟨fit (by simp), fun p1 H17 hp1 s17 h17 => ?_⟩
        walk_at "e"
        refine ⟨rfl, covers_ok w (ds := [0, 1, 1]) (us := [3, 4, 4]) ⟨h17, s17 _ _ (s16 _ _ h15), s17 _ _ h16, ne_of_none h15 hu1⟩ (pr_of (by decide)) fun c1 cs1 H18 s18 _ hc1 => ?_⟩
        rw [show cvmat [0, 1, 1] [3, 4, 4] = [[1, 0, 0], [1, 1, 0], [0, 2, 1]] by decide +kernel] at hc1
        walk_at "e"
        refine ⟨fit (by simp), fun r1 H19 hr1 s19 h19 => ?_⟩
        walk_at "e"
        refine ⟨fit (by simp), fun r2 H20 hr2 s20 h20 => ?_⟩
        walk_at "e"
        refine ⟨fit (by simp), fun r3 H21 hr3 s21 h21 => ?_⟩
        walk_at "e"
        refine ⟨fit (by simp), fun r4 H22 hr4 s22 h22 => ?_⟩
        have ok3 : DOk (dNN [[1, 0, 0], [1, 1, 0], [0, 2, 1]]) 2 ((42 * 3 + 1) * 3) := dOk_dNN (m := 3) (by decide)
        refine c_eqR ((((hc1.same s19).same s20).same s21).same s22).dpN (dp_l (ds := [dN [1, 0, 0], dN [1, 1, 0], dN [0, 2, 1]]) h22 (DpAll.cons (dp_nl (s22 _ _ (s21 _ _ (s20 _ _ h19)))) (DpAll.cons (dp_nl (s22 _ _ (s21 _ _ h20))) (DpAll.cons (dp_nl (s22 _ _ h21)) DpAll.nil)))) ok3 ok3 (by omega) (by omega) ?_
        rw [show PyData.eqv (dNN [[1, 0, 0], [1, 1, 0], [0, 2, 1]]) (.list [dN [1, 0, 0], dN [1, 1, 0], dN [0, 2, 1]]) = true from ok3.eqv]
        walk_at "e"
        refine ⟨fit (by simp), fun d2 H23 hd2 s23 h23 => ?_⟩
        walk_at "e"
        refine ⟨fit (by simp), fun u2 H24 hu2 s24 h24 => ?_⟩
        walk_at "e"
        refine ⟨fit (by simp), fun p2 H25 hp2 s25 h25 => ?_⟩
        walk_at "e"
        refine ⟨rfl, covers_ok w (ds := [0]) (us := [2]) ⟨h25, s25 _ _ (s24 _ _ h23), s25 _ _ h24, ne_of_none h23 hu2⟩ (pr_of (by decide)) fun c2 cs2 H26 s26 _ hc2 => ?_⟩
        rw [show cvmat [0] [2] = [[1]] by decide +kernel] at hc2
        walk_at "e"
        refine ⟨fit (by simp), fun r5 H27 hr5 s27 h27 => ?_⟩
        walk_at "e"
        refine ⟨fit (by simp), fun r6 H28 hr6 s28 h28 => ?_⟩
        have ok1 : DOk (dNN [[1]]) 2 ((42 * 1 + 1) * 1) := dOk_dNN (m := 1) (by decide)
        refine c_eqR ((hc2.same s27).same s28).dpN (dp_l (ds := [dN [1]]) h28 (DpAll.cons (dp_nl (s28 _ _ h27)) DpAll.nil)) ok1 ok1 (by omega) (by omega) ?_
        rw [show PyData.eqv (dNN [[1]]) (.list [dN [1]]) = true from ok1.eqv]
        exact q _
end

end VC

namespace VC
open PySem PySem.Spec PyProof.Rows L2
def tp (i : Nat) : Stmt := PySem.Challenge.pw_linksums_k16_covers.main.body.getD i (.Pass ⟨0, 0, 0, 0⟩)
def T : Tab := ⟨[("is_whole", f_is_whole), ("check_down", f_check_down), ("check_up", f_check_up), ("check_pair", f_check_pair), ("cover_of", f_cover_of), ("covers_of", f_covers_of), ("covers", f_covers), ("_law_draws", f_law_draws), ("_law_next", f_law_next), ("_law_pair", f_law_pair), ("_law_tree", f_law_tree), ("_law_bent", f_law_bent), ("_law_any", f_law_any), ("_law_covers", f_k16_law_covers), ("_law_right", f_k16_law_right), ("law", f_k16_law)],
  [("MOST_PLACES", .int 16)],
  [("covers", 0, ["pair"])]⟩
def dd : List He.DefD := [⟨("is_whole", none), "is_whole", "is_whole", defArgs (tp 4), defBody (tp 4), defScope (tp 4), [], []⟩, ⟨("check_down", none), "check_down", "check_down", defArgs (tp 5), defBody (tp 5), defScope (tp 5), [], []⟩, ⟨("check_up", none), "check_up", "check_up", defArgs (tp 6), defBody (tp 6), defScope (tp 6), [], []⟩, ⟨("check_pair", none), "check_pair", "check_pair", defArgs (tp 7), defBody (tp 7), defScope (tp 7), [], []⟩, ⟨("cover_of", none), "cover_of", "cover_of", defArgs (tp 9), defBody (tp 9), defScope (tp 9), [], []⟩, ⟨("covers_of", none), "covers_of", "covers_of", defArgs (tp 10), defBody (tp 10), defScope (tp 10), [], []⟩, ⟨("covers", none), "covers", "covers", defArgs (tp 11), defBody (tp 11), defScope (tp 11), [], []⟩, ⟨("_law_draws", none), "_law_draws", "_law_draws", defArgs (tp 13), defBody (tp 13), defScope (tp 13), [], []⟩, ⟨("_law_next", none), "_law_next", "_law_next", defArgs (tp 14), defBody (tp 14), defScope (tp 14), [], []⟩, ⟨("_law_pair", none), "_law_pair", "_law_pair", defArgs (tp 15), defBody (tp 15), defScope (tp 15), [], []⟩, ⟨("_law_tree", none), "_law_tree", "_law_tree", defArgs (tp 16), defBody (tp 16), defScope (tp 16), [], []⟩, ⟨("_law_bent", none), "_law_bent", "_law_bent", defArgs (tp 17), defBody (tp 17), defScope (tp 17), [], []⟩, ⟨("_law_any", none), "_law_any", "_law_any", defArgs (tp 18), defBody (tp 18), defScope (tp 18), [], []⟩, ⟨("_law_covers", none), "_law_covers", "_law_covers", defArgs (tp 19), defBody (tp 19), defScope (tp 19), [], []⟩, ⟨("_law_right", none), "_law_right", "_law_right", defArgs (tp 20), defBody (tp 20), defScope (tp 20), [], []⟩, ⟨("law", none), "law", "law", defArgs (tp 21), defBody (tp 21), defScope (tp 21), [], []⟩]
def fa : List He.Fa := [.glo "is_whole", .glo "check_down", .glo "check_up", .glo "check_pair", .glo "cover_of", .glo "covers_of", .glo "covers", .glo "_law_draws", .glo "_law_next", .glo "_law_pair", .glo "_law_tree", .glo "_law_bent", .glo "_law_any", .glo "_law_covers", .glo "_law_right", .glo "law", .free "len", .free "int", .free "repr", .free "list", .free "sum", .free "max", .free "min", .free "all", .free "sorted", .free "range", .free "enumerate", .free "zip", .free "isinstance", .free "bool", .free "tuple", .free "str", .free "dict", .int "MOST_PLACES" 16]
abbrev R : PySem.W.OpenRow := PySem.W.OpenLaw.row PySem.Challenge.rw_linksums_k16_covers
abbrev hk : PySem.W.Hook := He.hookD 4 fa dd
def ob (s : PySem.W.SharedT) : He.AlD := He.obsDG 4 fa dd (HandSHeadRun.getT s)
theorem ob_eq (s : PySem.W.SharedT) : ob s = hk.obs s.abs := He.obsDG_eq (HandSHeadRun.getT_eq s)
def loose0 : List Str := ["InvalidPair", "is_whole", "check_down", "check_up", "check_pair", "cover_of", "covers_of", "covers", "_law_draws", "_law_next", "_law_pair", "_law_tree", "_law_bent", "_law_any", "_law_covers", "_law_right", "MOST_PLACES"]
def loose : List Str := loose0
theorem run (w : World) : HandSHeadRun.RunEq R (PySem.W.view R.prog [21]) hk ob 2000 loose w := by
  intro os
  kernel_rfl
theorem bn_f_is_whole : bindsB "is_whole" "is_whole" (defArgs (tp 4)) (defBody (tp 4)) (defScope (tp 4)) (f_is_whole).ps 1 [] := fun _ _ _ _ _ _ us ws hu hw => match us, hu, ws, hw with
  | [_], _, [], _ => rfl
theorem bn_f_check_down : bindsB "check_down" "check_down" (defArgs (tp 5)) (defBody (tp 5)) (defScope (tp 5)) (f_check_down).ps 1 [] := fun _ _ _ _ _ _ us ws hu hw => match us, hu, ws, hw with
  | [_], _, [], _ => rfl
theorem bn_f_check_up : bindsB "check_up" "check_up" (defArgs (tp 6)) (defBody (tp 6)) (defScope (tp 6)) (f_check_up).ps 1 [] := fun _ _ _ _ _ _ us ws hu hw => match us, hu, ws, hw with
  | [_], _, [], _ => rfl
theorem bn_f_check_pair : bindsB "check_pair" "check_pair" (defArgs (tp 7)) (defBody (tp 7)) (defScope (tp 7)) (f_check_pair).ps 1 [] := fun _ _ _ _ _ _ us ws hu hw => match us, hu, ws, hw with
  | [_], _, [], _ => rfl
theorem bn_f_cover_of : bindsB "cover_of" "cover_of" (defArgs (tp 9)) (defBody (tp 9)) (defScope (tp 9)) (f_cover_of).ps 3 [] := fun _ _ _ _ _ _ us ws hu hw => match us, hu, ws, hw with
  | [_, _, _], _, [], _ => rfl
theorem bn_f_covers_of : bindsB "covers_of" "covers_of" (defArgs (tp 10)) (defBody (tp 10)) (defScope (tp 10)) (f_covers_of).ps 1 [] := fun _ _ _ _ _ _ us ws hu hw => match us, hu, ws, hw with
  | [_], _, [], _ => rfl
theorem bn_f_covers : bindsB "covers" "covers" (defArgs (tp 11)) (defBody (tp 11)) (defScope (tp 11)) (f_covers).ps 1 [] := fun _ _ _ _ _ _ us ws hu hw => match us, hu, ws, hw with
  | [_], _, [], _ => rfl
theorem bk0_f_covers : bindsB "covers" "covers" (defArgs (tp 11)) (defBody (tp 11)) (defScope (tp 11)) (f_covers).ps 0 ["pair"] := fun _ _ _ _ _ _ us ws hu hw => match us, hu, ws, hw with
  | [], _, [_], _ => rfl
theorem bn_f_law_draws : bindsB "_law_draws" "_law_draws" (defArgs (tp 13)) (defBody (tp 13)) (defScope (tp 13)) (f_law_draws).ps 1 [] := fun _ _ _ _ _ _ us ws hu hw => match us, hu, ws, hw with
  | [_], _, [], _ => rfl
theorem bn_f_law_next : bindsB "_law_next" "_law_next" (defArgs (tp 14)) (defBody (tp 14)) (defScope (tp 14)) (f_law_next).ps 1 [] := fun _ _ _ _ _ _ us ws hu hw => match us, hu, ws, hw with
  | [_], _, [], _ => rfl
theorem bn_f_law_pair : bindsB "_law_pair" "_law_pair" (defArgs (tp 15)) (defBody (tp 15)) (defScope (tp 15)) (f_law_pair).ps 2 [] := fun _ _ _ _ _ _ us ws hu hw => match us, hu, ws, hw with
  | [_, _], _, [], _ => rfl
theorem bn_f_law_tree : bindsB "_law_tree" "_law_tree" (defArgs (tp 16)) (defBody (tp 16)) (defScope (tp 16)) (f_law_tree).ps 2 [] := fun _ _ _ _ _ _ us ws hu hw => match us, hu, ws, hw with
  | [_, _], _, [], _ => rfl
theorem bn_f_law_bent : bindsB "_law_bent" "_law_bent" (defArgs (tp 17)) (defBody (tp 17)) (defScope (tp 17)) (f_law_bent).ps 2 [] := fun _ _ _ _ _ _ us ws hu hw => match us, hu, ws, hw with
  | [_, _], _, [], _ => rfl
theorem bn_f_law_any : bindsB "_law_any" "_law_any" (defArgs (tp 18)) (defBody (tp 18)) (defScope (tp 18)) (f_law_any).ps 2 [] := fun _ _ _ _ _ _ us ws hu hw => match us, hu, ws, hw with
  | [_, _], _, [], _ => rfl
theorem bn_f_k16_law_covers : bindsB "_law_covers" "_law_covers" (defArgs (tp 19)) (defBody (tp 19)) (defScope (tp 19)) (f_k16_law_covers).ps 1 [] := fun _ _ _ _ _ _ us ws hu hw => match us, hu, ws, hw with
  | [_], _, [], _ => rfl
theorem bn_f_k16_law_right : bindsB "_law_right" "_law_right" (defArgs (tp 20)) (defBody (tp 20)) (defScope (tp 20)) (f_k16_law_right).ps 1 [] := fun _ _ _ _ _ _ us ws hu hw => match us, hu, ws, hw with
  | [_], _, [], _ => rfl
theorem bn_f_k16_law : bindsB "law" "law" (defArgs (tp 21)) (defBody (tp 21)) (defScope (tp 21)) (f_k16_law).ps 1 [] := fun _ _ _ _ _ _ us ws hu hw => match us, hu, ws, hw with
  | [_], _, [], _ => rfl
section
variable {K : PySem.W.Frag} {h : Heap} {mg : Str → Option Value}
theorem nk_f_is_whole : ∀ n ks, (("is_whole" : Str), n, ks) ∈ T.kp → bindsB "is_whole" "is_whole" (defArgs (tp 4)) (defBody (tp 4)) (defScope (tp 4)) (f_is_whole).ps n ks := by
  intro n ks hp
  have z : (("is_whole" : Str)) ∈ T.kp.map (·.1) := List.mem_map_of_mem (f := (·.1)) hp
  exact absurd z (by decide +kernel)
theorem df_f_is_whole (X : K.In h) (G : h.Ns mainGlobals mg) (c : He.SaysD fa dd K) : DefF T K mg "is_whole" f_is_whole := by
  obtain ⟨fd, D⟩ := c.def_ 0 (d := ⟨("is_whole", none), "is_whole", "is_whole", defArgs (tp 4), defBody (tp 4), defScope (tp 4), [], []⟩) rfl
  exact defF_of rfl (He.glo_ok X G (c.fact 0 (f := .glo "is_whole") rfl)) D (by decide +kernel) (by decide +kernel) bn_f_is_whole (fun n ks hp => nk_f_is_whole n ks hp)
theorem nk_f_check_down : ∀ n ks, (("check_down" : Str), n, ks) ∈ T.kp → bindsB "check_down" "check_down" (defArgs (tp 5)) (defBody (tp 5)) (defScope (tp 5)) (f_check_down).ps n ks := by
  intro n ks hp
  have z : (("check_down" : Str)) ∈ T.kp.map (·.1) := List.mem_map_of_mem (f := (·.1)) hp
  exact absurd z (by decide +kernel)
theorem df_f_check_down (X : K.In h) (G : h.Ns mainGlobals mg) (c : He.SaysD fa dd K) : DefF T K mg "check_down" f_check_down := by
  obtain ⟨fd, D⟩ := c.def_ 1 (d := ⟨("check_down", none), "check_down", "check_down", defArgs (tp 5), defBody (tp 5), defScope (tp 5), [], []⟩) rfl
  exact defF_of rfl (He.glo_ok X G (c.fact 1 (f := .glo "check_down") rfl)) D (by decide +kernel) (by decide +kernel) bn_f_check_down (fun n ks hp => nk_f_check_down n ks hp)
theorem nk_f_check_up : ∀ n ks, (("check_up" : Str), n, ks) ∈ T.kp → bindsB "check_up" "check_up" (defArgs (tp 6)) (defBody (tp 6)) (defScope (tp 6)) (f_check_up).ps n ks := by
  intro n ks hp
  have z : (("check_up" : Str)) ∈ T.kp.map (·.1) := List.mem_map_of_mem (f := (·.1)) hp
  exact absurd z (by decide +kernel)
theorem df_f_check_up (X : K.In h) (G : h.Ns mainGlobals mg) (c : He.SaysD fa dd K) : DefF T K mg "check_up" f_check_up := by
  obtain ⟨fd, D⟩ := c.def_ 2 (d := ⟨("check_up", none), "check_up", "check_up", defArgs (tp 6), defBody (tp 6), defScope (tp 6), [], []⟩) rfl
  exact defF_of rfl (He.glo_ok X G (c.fact 2 (f := .glo "check_up") rfl)) D (by decide +kernel) (by decide +kernel) bn_f_check_up (fun n ks hp => nk_f_check_up n ks hp)
theorem nk_f_check_pair : ∀ n ks, (("check_pair" : Str), n, ks) ∈ T.kp → bindsB "check_pair" "check_pair" (defArgs (tp 7)) (defBody (tp 7)) (defScope (tp 7)) (f_check_pair).ps n ks := by
  intro n ks hp
  have z : (("check_pair" : Str)) ∈ T.kp.map (·.1) := List.mem_map_of_mem (f := (·.1)) hp
  exact absurd z (by decide +kernel)
theorem df_f_check_pair (X : K.In h) (G : h.Ns mainGlobals mg) (c : He.SaysD fa dd K) : DefF T K mg "check_pair" f_check_pair := by
  obtain ⟨fd, D⟩ := c.def_ 3 (d := ⟨("check_pair", none), "check_pair", "check_pair", defArgs (tp 7), defBody (tp 7), defScope (tp 7), [], []⟩) rfl
  exact defF_of rfl (He.glo_ok X G (c.fact 3 (f := .glo "check_pair") rfl)) D (by decide +kernel) (by decide +kernel) bn_f_check_pair (fun n ks hp => nk_f_check_pair n ks hp)
theorem nk_f_cover_of : ∀ n ks, (("cover_of" : Str), n, ks) ∈ T.kp → bindsB "cover_of" "cover_of" (defArgs (tp 9)) (defBody (tp 9)) (defScope (tp 9)) (f_cover_of).ps n ks := by
  intro n ks hp
  have z : (("cover_of" : Str)) ∈ T.kp.map (·.1) := List.mem_map_of_mem (f := (·.1)) hp
  exact absurd z (by decide +kernel)
theorem df_f_cover_of (X : K.In h) (G : h.Ns mainGlobals mg) (c : He.SaysD fa dd K) : DefF T K mg "cover_of" f_cover_of := by
  obtain ⟨fd, D⟩ := c.def_ 4 (d := ⟨("cover_of", none), "cover_of", "cover_of", defArgs (tp 9), defBody (tp 9), defScope (tp 9), [], []⟩) rfl
  exact defF_of rfl (He.glo_ok X G (c.fact 4 (f := .glo "cover_of") rfl)) D (by decide +kernel) (by decide +kernel) bn_f_cover_of (fun n ks hp => nk_f_cover_of n ks hp)
theorem nk_f_covers_of : ∀ n ks, (("covers_of" : Str), n, ks) ∈ T.kp → bindsB "covers_of" "covers_of" (defArgs (tp 10)) (defBody (tp 10)) (defScope (tp 10)) (f_covers_of).ps n ks := by
  intro n ks hp
  have z : (("covers_of" : Str)) ∈ T.kp.map (·.1) := List.mem_map_of_mem (f := (·.1)) hp
  exact absurd z (by decide +kernel)
theorem df_f_covers_of (X : K.In h) (G : h.Ns mainGlobals mg) (c : He.SaysD fa dd K) : DefF T K mg "covers_of" f_covers_of := by
  obtain ⟨fd, D⟩ := c.def_ 5 (d := ⟨("covers_of", none), "covers_of", "covers_of", defArgs (tp 10), defBody (tp 10), defScope (tp 10), [], []⟩) rfl
  exact defF_of rfl (He.glo_ok X G (c.fact 5 (f := .glo "covers_of") rfl)) D (by decide +kernel) (by decide +kernel) bn_f_covers_of (fun n ks hp => nk_f_covers_of n ks hp)
theorem kw_f_covers : ∀ n ks, (("covers" : Str), n, ks) ∈ T.kp → bindsB "covers" "covers" (defArgs (tp 11)) (defBody (tp 11)) (defScope (tp 11)) (f_covers).ps n ks := by
  intro n ks hp
  simp only [T, List.mem_cons, List.not_mem_nil, or_false, Prod.mk.injEq] at hp
  rcases hp with ⟨e, rfl, rfl⟩
  · exact bk0_f_covers
theorem df_f_covers (X : K.In h) (G : h.Ns mainGlobals mg) (c : He.SaysD fa dd K) : DefF T K mg "covers" f_covers := by
  obtain ⟨fd, D⟩ := c.def_ 6 (d := ⟨("covers", none), "covers", "covers", defArgs (tp 11), defBody (tp 11), defScope (tp 11), [], []⟩) rfl
  exact defF_of rfl (He.glo_ok X G (c.fact 6 (f := .glo "covers") rfl)) D (by decide +kernel) (by decide +kernel) bn_f_covers (kw_f_covers)
theorem nk_f_law_draws : ∀ n ks, (("_law_draws" : Str), n, ks) ∈ T.kp → bindsB "_law_draws" "_law_draws" (defArgs (tp 13)) (defBody (tp 13)) (defScope (tp 13)) (f_law_draws).ps n ks := by
  intro n ks hp
  have z : (("_law_draws" : Str)) ∈ T.kp.map (·.1) := List.mem_map_of_mem (f := (·.1)) hp
  exact absurd z (by decide +kernel)
theorem df_f_law_draws (X : K.In h) (G : h.Ns mainGlobals mg) (c : He.SaysD fa dd K) : DefF T K mg "_law_draws" f_law_draws := by
  obtain ⟨fd, D⟩ := c.def_ 7 (d := ⟨("_law_draws", none), "_law_draws", "_law_draws", defArgs (tp 13), defBody (tp 13), defScope (tp 13), [], []⟩) rfl
  exact defF_of rfl (He.glo_ok X G (c.fact 7 (f := .glo "_law_draws") rfl)) D (by decide +kernel) (by decide +kernel) bn_f_law_draws (fun n ks hp => nk_f_law_draws n ks hp)
theorem nk_f_law_next : ∀ n ks, (("_law_next" : Str), n, ks) ∈ T.kp → bindsB "_law_next" "_law_next" (defArgs (tp 14)) (defBody (tp 14)) (defScope (tp 14)) (f_law_next).ps n ks := by
  intro n ks hp
  have z : (("_law_next" : Str)) ∈ T.kp.map (·.1) := List.mem_map_of_mem (f := (·.1)) hp
  exact absurd z (by decide +kernel)
theorem df_f_law_next (X : K.In h) (G : h.Ns mainGlobals mg) (c : He.SaysD fa dd K) : DefF T K mg "_law_next" f_law_next := by
  obtain ⟨fd, D⟩ := c.def_ 8 (d := ⟨("_law_next", none), "_law_next", "_law_next", defArgs (tp 14), defBody (tp 14), defScope (tp 14), [], []⟩) rfl
  exact defF_of rfl (He.glo_ok X G (c.fact 8 (f := .glo "_law_next") rfl)) D (by decide +kernel) (by decide +kernel) bn_f_law_next (fun n ks hp => nk_f_law_next n ks hp)
theorem nk_f_law_pair : ∀ n ks, (("_law_pair" : Str), n, ks) ∈ T.kp → bindsB "_law_pair" "_law_pair" (defArgs (tp 15)) (defBody (tp 15)) (defScope (tp 15)) (f_law_pair).ps n ks := by
  intro n ks hp
  have z : (("_law_pair" : Str)) ∈ T.kp.map (·.1) := List.mem_map_of_mem (f := (·.1)) hp
  exact absurd z (by decide +kernel)
theorem df_f_law_pair (X : K.In h) (G : h.Ns mainGlobals mg) (c : He.SaysD fa dd K) : DefF T K mg "_law_pair" f_law_pair := by
  obtain ⟨fd, D⟩ := c.def_ 9 (d := ⟨("_law_pair", none), "_law_pair", "_law_pair", defArgs (tp 15), defBody (tp 15), defScope (tp 15), [], []⟩) rfl
  exact defF_of rfl (He.glo_ok X G (c.fact 9 (f := .glo "_law_pair") rfl)) D (by decide +kernel) (by decide +kernel) bn_f_law_pair (fun n ks hp => nk_f_law_pair n ks hp)
theorem nk_f_law_tree : ∀ n ks, (("_law_tree" : Str), n, ks) ∈ T.kp → bindsB "_law_tree" "_law_tree" (defArgs (tp 16)) (defBody (tp 16)) (defScope (tp 16)) (f_law_tree).ps n ks := by
  intro n ks hp
  have z : (("_law_tree" : Str)) ∈ T.kp.map (·.1) := List.mem_map_of_mem (f := (·.1)) hp
  exact absurd z (by decide +kernel)
theorem df_f_law_tree (X : K.In h) (G : h.Ns mainGlobals mg) (c : He.SaysD fa dd K) : DefF T K mg "_law_tree" f_law_tree := by
  obtain ⟨fd, D⟩ := c.def_ 10 (d := ⟨("_law_tree", none), "_law_tree", "_law_tree", defArgs (tp 16), defBody (tp 16), defScope (tp 16), [], []⟩) rfl
  exact defF_of rfl (He.glo_ok X G (c.fact 10 (f := .glo "_law_tree") rfl)) D (by decide +kernel) (by decide +kernel) bn_f_law_tree (fun n ks hp => nk_f_law_tree n ks hp)
theorem nk_f_law_bent : ∀ n ks, (("_law_bent" : Str), n, ks) ∈ T.kp → bindsB "_law_bent" "_law_bent" (defArgs (tp 17)) (defBody (tp 17)) (defScope (tp 17)) (f_law_bent).ps n ks := by
  intro n ks hp
  have z : (("_law_bent" : Str)) ∈ T.kp.map (·.1) := List.mem_map_of_mem (f := (·.1)) hp
  exact absurd z (by decide +kernel)
theorem df_f_law_bent (X : K.In h) (G : h.Ns mainGlobals mg) (c : He.SaysD fa dd K) : DefF T K mg "_law_bent" f_law_bent := by
  obtain ⟨fd, D⟩ := c.def_ 11 (d := ⟨("_law_bent", none), "_law_bent", "_law_bent", defArgs (tp 17), defBody (tp 17), defScope (tp 17), [], []⟩) rfl
  exact defF_of rfl (He.glo_ok X G (c.fact 11 (f := .glo "_law_bent") rfl)) D (by decide +kernel) (by decide +kernel) bn_f_law_bent (fun n ks hp => nk_f_law_bent n ks hp)
theorem nk_f_law_any : ∀ n ks, (("_law_any" : Str), n, ks) ∈ T.kp → bindsB "_law_any" "_law_any" (defArgs (tp 18)) (defBody (tp 18)) (defScope (tp 18)) (f_law_any).ps n ks := by
  intro n ks hp
  have z : (("_law_any" : Str)) ∈ T.kp.map (·.1) := List.mem_map_of_mem (f := (·.1)) hp
  exact absurd z (by decide +kernel)
theorem df_f_law_any (X : K.In h) (G : h.Ns mainGlobals mg) (c : He.SaysD fa dd K) : DefF T K mg "_law_any" f_law_any := by
  obtain ⟨fd, D⟩ := c.def_ 12 (d := ⟨("_law_any", none), "_law_any", "_law_any", defArgs (tp 18), defBody (tp 18), defScope (tp 18), [], []⟩) rfl
  exact defF_of rfl (He.glo_ok X G (c.fact 12 (f := .glo "_law_any") rfl)) D (by decide +kernel) (by decide +kernel) bn_f_law_any (fun n ks hp => nk_f_law_any n ks hp)
theorem nk_f_k16_law_covers : ∀ n ks, (("_law_covers" : Str), n, ks) ∈ T.kp → bindsB "_law_covers" "_law_covers" (defArgs (tp 19)) (defBody (tp 19)) (defScope (tp 19)) (f_k16_law_covers).ps n ks := by
  intro n ks hp
  have z : (("_law_covers" : Str)) ∈ T.kp.map (·.1) := List.mem_map_of_mem (f := (·.1)) hp
  exact absurd z (by decide +kernel)
theorem df_f_k16_law_covers (X : K.In h) (G : h.Ns mainGlobals mg) (c : He.SaysD fa dd K) : DefF T K mg "_law_covers" f_k16_law_covers := by
  obtain ⟨fd, D⟩ := c.def_ 13 (d := ⟨("_law_covers", none), "_law_covers", "_law_covers", defArgs (tp 19), defBody (tp 19), defScope (tp 19), [], []⟩) rfl
  exact defF_of rfl (He.glo_ok X G (c.fact 13 (f := .glo "_law_covers") rfl)) D (by decide +kernel) (by decide +kernel) bn_f_k16_law_covers (fun n ks hp => nk_f_k16_law_covers n ks hp)
theorem nk_f_k16_law_right : ∀ n ks, (("_law_right" : Str), n, ks) ∈ T.kp → bindsB "_law_right" "_law_right" (defArgs (tp 20)) (defBody (tp 20)) (defScope (tp 20)) (f_k16_law_right).ps n ks := by
  intro n ks hp
  have z : (("_law_right" : Str)) ∈ T.kp.map (·.1) := List.mem_map_of_mem (f := (·.1)) hp
  exact absurd z (by decide +kernel)
theorem df_f_k16_law_right (X : K.In h) (G : h.Ns mainGlobals mg) (c : He.SaysD fa dd K) : DefF T K mg "_law_right" f_k16_law_right := by
  obtain ⟨fd, D⟩ := c.def_ 14 (d := ⟨("_law_right", none), "_law_right", "_law_right", defArgs (tp 20), defBody (tp 20), defScope (tp 20), [], []⟩) rfl
  exact defF_of rfl (He.glo_ok X G (c.fact 14 (f := .glo "_law_right") rfl)) D (by decide +kernel) (by decide +kernel) bn_f_k16_law_right (fun n ks hp => nk_f_k16_law_right n ks hp)
theorem nk_f_k16_law : ∀ n ks, (("law" : Str), n, ks) ∈ T.kp → bindsB "law" "law" (defArgs (tp 21)) (defBody (tp 21)) (defScope (tp 21)) (f_k16_law).ps n ks := by
  intro n ks hp
  have z : (("law" : Str)) ∈ T.kp.map (·.1) := List.mem_map_of_mem (f := (·.1)) hp
  exact absurd z (by decide +kernel)
theorem df_f_k16_law (X : K.In h) (G : h.Ns mainGlobals mg) (c : He.SaysD fa dd K) : DefF T K mg "law" f_k16_law := by
  obtain ⟨fd, D⟩ := c.def_ 15 (d := ⟨("law", none), "law", "law", defArgs (tp 21), defBody (tp 21), defScope (tp 21), [], []⟩) rfl
  exact defF_of rfl (He.glo_ok X G (c.fact 15 (f := .glo "law") rfl)) D (by decide +kernel) (by decide +kernel) bn_f_k16_law (fun n ks hp => nk_f_k16_law n ks hp)
theorem defs (X : K.In h) (G : h.Ns mainGlobals mg) (c : He.SaysD fa dd K) : ∀ x F, T.fns.lookup x = some F → DefF T K mg x F := by
  intro x F hx
  have hm := lookup_mem' hx
  simp only [T, List.mem_cons, List.not_mem_nil, or_false, Prod.mk.injEq] at hm
  rcases hm with ⟨rfl, rfl⟩ | ⟨rfl, rfl⟩ | ⟨rfl, rfl⟩ | ⟨rfl, rfl⟩ | ⟨rfl, rfl⟩ | ⟨rfl, rfl⟩ | ⟨rfl, rfl⟩ | ⟨rfl, rfl⟩ | ⟨rfl, rfl⟩ | ⟨rfl, rfl⟩ | ⟨rfl, rfl⟩ | ⟨rfl, rfl⟩ | ⟨rfl, rfl⟩ | ⟨rfl, rfl⟩ | ⟨rfl, rfl⟩ | ⟨rfl, rfl⟩
  · exact df_f_is_whole X G c
  · exact df_f_check_down X G c
  · exact df_f_check_up X G c
  · exact df_f_check_pair X G c
  · exact df_f_cover_of X G c
  · exact df_f_covers_of X G c
  · exact df_f_covers X G c
  · exact df_f_law_draws X G c
  · exact df_f_law_next X G c
  · exact df_f_law_pair X G c
  · exact df_f_law_tree X G c
  · exact df_f_law_bent X G c
  · exact df_f_law_any X G c
  · exact df_f_k16_law_covers X G c
  · exact df_f_k16_law_right X G c
  · exact df_f_k16_law X G c
theorem blts (X : K.In h) (G : h.Ns mainGlobals mg) (c : He.SaysD fa dd K) : ∀ x ∈ bltNames, mg x = none := by
  intro x hx
  simp only [bltNames, List.mem_cons, List.not_mem_nil, or_false] at hx
  rcases hx with rfl | rfl | rfl | rfl | rfl | rfl | rfl | rfl | rfl | rfl | rfl | rfl | rfl | rfl | rfl | rfl | rfl
  · exact He.free_ok X G (c.fact 16 (f := .free "len") rfl)
  · exact He.free_ok X G (c.fact 17 (f := .free "int") rfl)
  · exact He.free_ok X G (c.fact 18 (f := .free "repr") rfl)
  · exact He.free_ok X G (c.fact 19 (f := .free "list") rfl)
  · exact He.free_ok X G (c.fact 20 (f := .free "sum") rfl)
  · exact He.free_ok X G (c.fact 21 (f := .free "max") rfl)
  · exact He.free_ok X G (c.fact 22 (f := .free "min") rfl)
  · exact He.free_ok X G (c.fact 23 (f := .free "all") rfl)
  · exact He.free_ok X G (c.fact 24 (f := .free "sorted") rfl)
  · exact He.free_ok X G (c.fact 25 (f := .free "range") rfl)
  · exact He.free_ok X G (c.fact 26 (f := .free "enumerate") rfl)
  · exact He.free_ok X G (c.fact 27 (f := .free "zip") rfl)
  · exact He.free_ok X G (c.fact 28 (f := .free "isinstance") rfl)
  · exact He.free_ok X G (c.fact 29 (f := .free "bool") rfl)
  · exact He.free_ok X G (c.fact 30 (f := .free "tuple") rfl)
  · exact He.free_ok X G (c.fact 31 (f := .free "str") rfl)
  · exact He.free_ok X G (c.fact 32 (f := .free "dict") rfl)
theorem cons_ (X : K.In h) (G : h.Ns mainGlobals mg) (c : He.SaysD fa dd K) : ∀ x v, T.cons.lookup x = some v → ∃ u, mg x = some u ∧ RelV v u := by
  intro x v hx
  have hm := lookup_mem' hx
  simp only [T, List.mem_cons, List.not_mem_nil, or_false, Prod.mk.injEq] at hm
  rcases hm with ⟨rfl, rfl⟩
  · obtain ⟨t, e⟩ := He.int_ok X G (c.fact 33 rfl)
    exact ⟨_, e, _, rfl⟩
end
theorem law_true {K : PySem.W.Frag} {H : Hp} {a : Addr} {ns : List Int} (hl : ns.length ≤ 63) (hS : Scr K H a (ns.map V.int)) : SPn T K 12 "law" [.ref a] H (fun v _ => v = .bl true) (fun _ _ _ => False) :=
  law_ok (T := T) (k := 6) rfl ⟨rfl, rfl, rfl, rfl, rfl, rfl, rfl, rfl⟩ ⟨rfl, rfl, rfl, rfl, rfl, rfl⟩ rfl rfl hS fun _ => rfl

theorem law_F {P : Program} {w : World} {K : PySem.W.Frag} {h : Heap} {mg : Str → Option Value} {fa0 : Addr} (X : K.In h) (G : h.Ns mainGlobals mg) (c : He.SaysD fa dd K) (hm : mg "law" = some (.ref fa0)) :
    ∃ (K' : PySem.W.Frag) (fd : FuncData) (sp : Sp), K'.In h ∧ (∀ (s : Shared) (u : Value), BindsTo s fd ⟨[u], []⟩ [("_law_script", u)]) ∧
      (∀ (H : Hp) (a : Addr) (ns : List Int), ns.length ≤ 63 → Scr K' H a (ns.map V.int) → sp [.ref a] H (fun v _ => v = .bl true) fun _ _ _ => False) ∧
      ∀ base : Heap, K'.In base → base.Ns mainGlobals mg → FnG P w K' mg base 12 fa0 fd ["_law_script"] sp := by
  obtain ⟨fd, D⟩ := c.def_ 15 (d := ⟨("law", none), "law", "law", defArgs (tp 21), defBody (tp 21), defScope (tp 21), [], []⟩) rfl
  have e := hm.symm.trans (He.glo_ok X G (c.fact 15 (f := .glo "law") rfl))
  cases e
  have b := FunD.bindsA (ps := ["_law_script"]) D fun _ _ _ _ _ _ us hl => match us, hl with | [_], _ => rfl
  refine ⟨K, fd, SPn T K 12 "law", X, fun s u => b s [u] rfl, fun H a ns hl hS => law_true hl hS, fun base kb gb => ?_⟩
  exact fnG_tab (facts_of (T := T) (P := P) (w := w) (base := base) (defs X G c) (cons_ X G c) (blts X G c) 11) (F := f_k16_law) rfl D (fscB_ok (by decide +kernel)) (by decide +kernel)

end VC

open PySem PySem.W PySem.Calls PyProof.Rows
set_option maxHeartbeats 0 in
theorem PySem.Challenge.cw_linksums_k16_covers_holds : PySem.Challenge.rw_linksums_k16_covers.Holds := by
  w_on; o_law
  refine HandSHeadRun.head_any (r := OpenLaw.row PySem.Challenge.rw_linksums_k16_covers) (q := view (OpenLaw.row PySem.Challenge.rw_linksums_k16_covers).prog [21]) (H := VC.hk) (ob := VC.ob) (M := 2000) (loose := VC.loose) (d := HandSHeadRun.topDef (OpenLaw.row PySem.Challenge.rw_linksums_k16_covers).prog 21) (kwd := []) VC.ob_eq
    (by kernel_rfl) (fun s => by kernel_rfl) VC.run (by kernel_rfl) (by kernel_rfl) (by kernel_rfl) (by rfl) (by first | assumption | decide +kernel) (by decide +kernel) ⟨rfl, rfl, rfl, rfl, rfl, by decide +kernel⟩ ?hw ?hc
  case hw => w_witness2
  case hc =>
    refine VC.law_endG (l := PySem.Challenge.rw_linksums_k16_covers) (n := 63) (k := 12) (x := "_law_script") rfl (by decide) (by kernel_rfl) ⟨rfl, by decide, by decide⟩ ?F
    intro w mg fa h Y G hmg0
    obtain ⟨K, KX, c⟩ := Y
    have hmg : mg ("law" : PySem.Str) = some (.ref fa) := by
      have e : (HandSHeadRun.topDef (OpenLaw.row PySem.Challenge.rw_linksums_k16_covers).prog 21).name = ("law" : PySem.Str) := by kernel_rfl
      rw [← e]
      exact hmg0
    exact VC.law_F KX G c hmg
