import PyProof.Rows.All
import Wide.All
import OpenK.AllK
import Wide.FinOn
import HandS.ForMost
import HandS.Exc
import HandS.WordsExc
import HandS.Style
import HandS.Wide
import HandS.IsInst
import HandS.Conv
import HandS.Defaults
import HandS.Zip
import HandS.Deep
import HandS.SortRule
import HandS.RaiseMore
import HandS.HeadEnd
import KE.SortData
import KE.KDictZip
import KE.KItemsList
import HandS.Head0
import HandS.Head1
import HandS.Head2
import HandS.HeadHook1
import HandS.HeadHook2
import HandS.HeadHook4
import PySem.Challenge.RW_linksums_k22_whole_one_table_tells_the_o
set_option Elab.async false
set_option linter.all false
set_option maxRecDepth 100000
set_option maxHeartbeats 8000000
namespace VC
open PySem PySem.Spec PyProof.Rows L2

structure FnG (P : Program) (w : World) (K : PySem.W.Frag) (mg : Str → Option Value) (base : Heap) (k : Nat) (f : Addr) (fd : FuncData) (ps : List Str) (sp : Sp) : Prop where
  len : ∀ vs H Q E, sp vs H Q E → vs.length = ps.length
  run : ∀ (A : Around) (outer : List Env) (s : Shared) (H : Hp) (args : Args) (us : List Value) (vs : List V) (Q : VK) (E : XK),
    A.guards = some [] → Room k A → Env0 P w K mg base A outer s H → BindsTo s fd args (ps.zip us) → Vals vs us → sp vs H Q E →
    codeAny (model P w) A (.call (.ref f) args) (CR (L2.CX P w) outer P w H s Q E) s

section
variable {P : Program} {w : World} {K : PySem.W.Frag} {mg : Str → Option Value} {base : Heap}

theorem fnG_of {k : Nat} {f : Addr} {x qual : Str} {params : Arguments} {body : List Stmt} {scope : Scope} {dvs : List V} {kws : List (Str × V)} {fd : FuncData}
    {N ps : List Str} {sp : Sp} (F : FunD K x qual params body scope dvs kws f fd) (S : FnScope N ps scope)
    (len : ∀ vs H Q E, sp vs H Q E → vs.length = ps.length)
    (hbody : ∀ (cdv : Value) (A : Around) (outer : List Env) (s : Shared) (H : Hp) (vs : List V) (Q : VK) (E : XK),
      A.guards = some [] → Room k (A.deeper (envOfC qual scope s.heap.objs.size f cdv)) → sp vs H Q E →
      ∃ t, PSs (cxOf (L2.CX P w) P w K mg base N qual scope f cdv A outer s H E) body t ∧
        t { nx := fun _ H' => Q .non H', rt := Q } (start N vs) H) :
    FnG P w K mg base (k + 1) f fd ps sp := by
  obtain ⟨oc, od, dV, kV, doc, pm, an, cdv, ct, osl, rfl, lk, hcd, _, _⟩ := F.ex
  constructor
  · exact len
  · intro A outer s H args us vs Q E hgu hr e0 hb r hsp
    have hl := len _ _ _ _ hsp
    have kx := e0.mod.kin.keeps (fun b o e => (e0.bs b o e).1)
    have nolim := e0.mod.nolimit.keeps (fun b o e => (e0.bs b o e).1)
    apply codeAny_call_function hr.depth (kx _ _ lk) rfl S.co S.gen rfl (PySem.W.codeRec_of kx hcd)
    apply hb
    apply wpAny_newFunctionEnv_cells S.kind
    · intro y hy
      obtain ⟨n, v⟩ := y
      rcases S.par n (List.of_mem_zip hy).1 with q | q
      · exact .inl q
      · exact .inr ⟨q, PySem.W.cellsFrom_some _ _ _ (.inl q)⟩
    · intro env he s1 x
      subst he
      refine ⟨nolim.keeps x.toInCall.keep, codeAny_func ?_⟩
      obtain ⟨t, ht, hq⟩ := hbody cdv A outer s H vs Q E hgu (hr.deeper _) hsp
      have I := inv_start (CX := L2.CX P w) (E := E) (qual := qual) (f := f) (cd := cdv) S hr.hd e0 hl r x
      apply wpAny_mono (ht.run [] s1 (start N vs) H _ I hq)
      · intro fl s' hs
        cases fl with
        | ret u =>
          obtain ⟨v, σ', H', J, rv, q⟩ := hs
          exact ⟨v, H', J.os, J.bare, J.base, J.hok, rv, q⟩
        | next =>
          obtain ⟨σ', H', J, q⟩ := hs
          exact ⟨.non, H', J.os, J.bare, J.base, J.hok, rfl, q⟩
        | brk =>
          obtain ⟨_, _, _, q⟩ := hs
          exact q.elim
        | cont =>
          obtain ⟨_, _, _, q⟩ := hs
          exact q.elim
      · intro e s' hs
        exact hs
end

section
variable {X : Cx} {k : Nat} {f : Addr} {fd : FuncData} {ps : List Str} {sp : Sp} {E : XK}

theorem fnG_run {pins : List (Addr × Obj)} {σ : L2.St} {H : Hp} {s : Shared} {Q : VK} {args : Args} {us : List Value} {vs : List V}
    (F : FnG X.prog X.w X.K X.mg X.base k f fd ps sp) (hgu : X.A.guards = some []) (hr : Room k X.A)
    (hb : BindsTo s fd args (ps.zip us)) (hx : Passes (L2.CX X.prog X.w) X E) (I : Inv X pins σ H s) (r : Vals vs us) (h : sp vs H Q E) :
    wpAny (model X.prog X.w) X.A (call (.ref f) args.pos args.kw) (EP X pins σ Q) X.xe s := by
  apply wpAny_call
  apply codeAny_mono (F.run X.A X.stack s H args us vs Q E hgu hr I.env0 hb r h)
  intro res s' hq
  cases res with
  | error e => exact hx pins σ H s e s' I hq
  | ok fl =>
    cases fl with
    | ret u => exact I.after hq
    | next => exact hq.elim
    | brk => exact hq.elim
    | cont => exact hq.elim

theorem star_cons {e : Expr} {es : List Expr} {env : Env} (h : ∀ z p, e ≠ .Starred z p) : starEach (e :: es) env = (false, eval e env) :: starEach es env := by
  cases e <;> first | rfl | (exact absurd rfl (h _ _))

theorem noStar_any {pos : Pos} {env : Env} : ∀ {es : List Expr}, (∀ e ∈ es, ∀ z p, e ≠ .Starred z p) → (backTo pos (starEach es env)).any (·.1) = false
  | [], _ => rfl
  | e :: es, h => by
    rw [star_cons (h e List.mem_cons_self)]
    show (false || (backTo pos (starEach es env)).any (·.1)) = false
    rw [noStar_any fun x hx => h x (List.mem_cons_of_mem _ hx)]
    rfl

theorem kw_all {pos : Pos} {env : Env} : ∀ {kws : List Keyword}, (∀ q ∈ kws, q.arg.isSome = true) → (backToKw pos (keywordEach kws env)).all (·.1.isSome) = true
  | [], _ => rfl
  | q :: kws, h => by
    obtain ⟨a, e, p⟩ := q
    show (a.isSome && (backToKw pos (keywordEach kws env)).all (·.1.isSome)) = true
    rw [kw_all fun x hx => h x (List.mem_cons_of_mem _ hx), show a.isSome = true from h ⟨a, e, p⟩ List.mem_cons_self]
    rfl
theorem kw_none {pos : Pos} {env : Env} : ∀ {kws : List Keyword}, (∀ q ∈ kws, q.arg.isSome = true) → (backToKw pos (keywordEach kws env)).any (·.1.isNone) = false
  | [], _ => rfl
  | q :: kws, h => by
    obtain ⟨a, e, p⟩ := q
    show (a.isNone || (backToKw pos (keywordEach kws env)).any (·.1.isNone)) = false
    rw [kw_none fun x hx => h x (List.mem_cons_of_mem _ hx)]
    have := h ⟨a, e, p⟩ List.mem_cons_self
    cases a with
    | none => cases this
    | some _ => rfl
theorem kw_names {pos : Pos} {env : Env} : ∀ {kws : List Keyword}, (backToKw pos (keywordEach kws env)).filterMap (·.1) = kws.filterMap (·.arg)
  | [] => rfl
  | q :: kws => by
    obtain ⟨a, e, p⟩ := q
    show List.filterMap (·.1) ((a, _) :: backToKw pos (keywordEach kws env)) = _
    cases a with
    | none => simpa [List.filterMap_cons] using kw_names (pos := pos) (env := env) (kws := kws)
    | some _ => simpa [List.filterMap_cons] using kw_names (pos := pos) (env := env) (kws := kws)

theorem pe_callG {x : Str} {p pos : Pos} {es : List Expr} {kws : List Keyword} {t tk : TA} {ks : List Str} {ar : {α : Type} → α → List α → List α → List α}
    (F : FnG X.prog X.w X.K X.mg X.base k f fd ps sp) (hgu : X.A.guards = some []) (hr : Room k X.A)
    (hg : Gl X x) (hm : X.mg x = some (.ref f)) (hk : PySem.W.keepIn X.K (.ref f) = true)
    (hb : ∀ (s : Shared) (us ws : List Value), X.K.In s.heap → us.length = es.length → ws.length = ks.length → BindsTo s fd ⟨us, ks.zip ws⟩ (ps.zip (ar Value.none us ws)))
    (hv : ∀ (vs zs : List V) (us ws : List Value), Vals vs us → Vals zs ws → Vals (ar V.non vs zs) (ar Value.none us ws))
    (hx : Passes (L2.CX X.prog X.w) X E) (ha : PA X es t) (ht : es = [] → t = tNil) (hkw : PK X kws tk)
    (hes : ∀ e ∈ es, ∀ z p, e ≠ .Starred z p) (hks : kws.map (·.arg) = ks.map some)
    (hdb : (x == ("__debug__" : Str)) = false) :
    PE X (.Call (.Name x p) es kws pos) (fun σ H Q => t σ H fun vs H1 => tk σ H1 fun zs H2 => vs.length = es.length ∧ zs.length = ks.length ∧ sp (ar V.non vs zs) H2 Q E) := by
  have hsome : ∀ q ∈ kws, q.arg.isSome = true := by
    intro q hq
    have : q.arg ∈ kws.map (·.arg) := List.mem_map_of_mem hq
    rw [hks] at this
    obtain ⟨a, _, e⟩ := List.mem_map.mp this
    rw [← e]; rfl
  have hnames : kws.filterMap (·.arg) = ks := by
    have h1 : kws.filterMap (·.arg) = (kws.map (·.arg)).filterMap id := by
      rw [List.filterMap_map]; rfl
    rw [h1, hks, List.filterMap_map]
    show List.filterMap some ks = ks
    exact List.filterMap_some
  have fin : ∀ (pins : List (Addr × Obj)) (σ : L2.St) (Q : VK) (us ws : List Value) (vs zs : List V) (s2 : Shared) (H2 : Hp), Inv X pins σ H2 s2 → Vals vs us → Vals zs ws → vs.length = es.length → zs.length = ks.length → sp (ar V.non vs zs) H2 Q E →
      wpAny (model X.prog X.w) X.A (call (.ref f) us (ks.zip ws)) (EP X pins σ Q) X.xe s2 := by
    intro pins σ Q us ws vs zs s2 H2 I2 r rz l1 l2 q
    exact fnG_run (args := ⟨us, ks.zip ws⟩) F hgu hr (hb s2 us ws I2.kIn (r.length.symm.trans l1) (rz.length.symm.trans l2)) hx I2 (hv _ _ _ _ r rz) q
  have hone : ((backTo pos (starEach es X.env)).any (·.1) || (backToKw pos (keywordEach kws X.env)).any (·.1.isNone)) = false := by
    rw [noStar_any hes, kw_none hsome]
    rfl
  constructor
  intro pins s σ H Q I h
  apply wpAny_Call_Name_kw
  refine ld_glob I hg hm ?_ hdb
  cases es with
  | nil =>
    have e0 := ht rfl
    subst e0
    refine PySem.W.callWith_KW0 (h₀ := X.base) I.ok.mod.kin hk (kw_all hsome) ?_ hone
    apply thn (hkw.run pos pins s σ H _ I h)
    rintro ws s2 ⟨zs, H2, I2, rz, l1, l2, q⟩
    refine ⟨I2.kIn, ?_⟩
    rw [kw_names, hnames]
    exact fin pins σ Q [] ws [] zs s2 H2 I2 .nil rz rfl l2 q
  | cons e es =>
    refine PySem.W.callWith_KW (h₀ := X.base) I.ok.mod.kin hk (kw_all hsome) ?_ hone (star_cons (hes e List.mem_cons_self))
    apply thn (ha.run pos pins s σ H _ I h)
    rintro us s1 ⟨vs, H1, I1, r, q1⟩
    apply thn (hkw.run pos pins s1 σ H1 _ I1 q1)
    rintro ws s2 ⟨zs, H2, I2, rz, l1, l2, q⟩
    refine ⟨I2.kIn, ?_⟩
    rw [kw_names, hnames]
    exact fin pins σ Q us ws vs zs s2 H2 I2 r rz l1 l2 q
end

theorem call_reprD {X : Cx} (hgu : X.A.guards = some []) (hu : X.A.units + 64 < cLine) :
    CallR X (.builtin "repr") (fun xs H Q => ∃ (a : Addr) (d : PyData), xs = [.ref a] ∧ Dp X.K H (.ref a) d ∧ d.showable = true ∧ d.hasDict = false ∧ d.depth ≤ 60 ∧ d.shown.length ≤ sizeLine ∧ Q (.str d.shown) H) := by
  intro pins s σ H xs us Q I r h
  obtain ⟨a, d, rfl, hd, hs, hnd, hdep, hsz, q⟩ := h
  have e := Vals.ref1 r
  subst e
  obtain ⟨as, rd⟩ := Dp.reads I d (.ref a) (.ref a) hd rfl
  refine repr_of_reads' rd hs (fun z => by rw [hnd] at z; cases z) hgu (by omega) (fun b o e => e) ?_ hsz
  intro h' u tk hk
  exact ⟨.str d.shown, H, I.kept hk, ⟨_, rfl⟩, q⟩
theorem op_powW {X : Cx} : OpR X (binaryOp .Pow) (rI (fun i j => 0 ≤ j ∧ (Builtin.Int.intBits i : Int) * j ≤ 2 ^ 27) fun i j => .int (i ^ j.toNat)) :=
  opI fun _ _ _ _ _ _ _ hc q => pow_int hc.1 hc.2 q
structure Scr (K : PySem.W.Frag) (H : Hp) (a : Addr) (xs : List V) : Prop where
  only : ∀ b, b ≠ a → H b = none
  here : (∃ o, H a = some (.frz o (.lst xs))) ∨ (H a = none ∧ SqL K H a xs)

theorem cx_none {P : Program} {w : World} {H : Hp} {s : Shared} {e : Value} {s' : Shared} (h : L2.CX P w [] H s (fun _ _ _ => False) e s') : False := by
  obtain ⟨_, _, _, _, _, _, _, _, _, _, _, _, z⟩ := h
  exact z

section
variable {P : Program} {w : World} {K : PySem.W.Frag} {mg mb : Str → Option Value}
theorem law_runG {k : Nat} {fa a : Addr} {fd : FuncData} {x : Str} {sp : Sp} {s1 : Shared} {vs : List Value} {ns : List Int}
    (KX : K.In s1.heap) (g1 : s1.heap.Ns mainGlobals mg) (g2 : s1.heap.Ns builtinsNs mb) (g3 : ∀ x : Str, x ≠ "__name__" → mb x = bootBuiltins x)
    (g4 : s1.heap.NoLimit) (g5 : s1.gens = #[]) (ha : s1.heap.get? a = some { cls := .type "list", data := .seq vs.toArray })
    (hi : IntsAre vs ns) (hl : ns.length ≤ sizeLine) (hr : Room k callerA)
    (F : ∀ base : Heap, K.In base → base.Ns mainGlobals mg → FnG P w K mg base k fa fd [x] sp)
    (hbind : ∀ (s : Shared) (u : Value), BindsTo s fd ⟨[u], []⟩ [(x, u)])
    (hsp : ∀ H : Hp, Scr K H a (ns.map V.int) → sp [.ref a] H (fun v _ => v = .bl true) fun _ _ _ => False) :
    codeAny (model P w) callerA (.call (.ref fa) ⟨[.ref a], []⟩) (fun r s' => r = .ok (.ret (.bool true)) ∧ OldK s1.heap s'.heap ∧ s'.os = s1.os ∧ AllBare s'.gens) s1 := by
  have rv := vals_ints hi
  have lenV := hi.length
  have main : ∀ H : Hp, Scr K H a (ns.map V.int) → HOk P w H s1.heap → (H a ≠ none → K.lookup a = none) →
      codeAny (model P w) callerA (.call (.ref fa) ⟨[.ref a], []⟩) (fun r s' => r = .ok (.ret (.bool true)) ∧ OldK s1.heap s'.heap ∧ s'.os = s1.os ∧ AllBare s'.gens) s1 := by
    intro H hS hok hK
    have onlyA : ∀ b, H b ≠ none → b = a := by
      intro b hb
      by_cases e : b = a
      · exact e
      · exact absurd (hS.only b e) hb
    have notDict : ∀ (b : Addr) (o : Obj) (es : Array DictEntry) (ep : Nat), s1.heap.get? b = some o → o.data = .dict es ep → H b = none := by
      intro b o es ep e d
      by_cases hb : H b = none
      · exact hb
      · have e' := onlyA b hb
        subst e'
        rw [ha] at e
        cases e
        cases (show Data.seq vs.toArray _ = Data.dict es ep from d)
    have ns' : ∀ (b : Addr) (m : Str → Option Value), s1.heap.Ns b m → (hidT s1.heap H).Ns b m := by
      rintro b m ⟨o, es, ep, e, d, r⟩
      exact ⟨o, es, ep, hidT_get e (notDict b o es ep e d), d, r⟩
    have kb : K.In (hidT s1.heap H) := by
      intro b o e
      apply hidT_get (KX b o e)
      by_cases hb : H b = none
      · exact hb
      · have e' := onlyA b hb
        subst e'
        rw [hK hb] at e
        cases e
    obtain ⟨mc, c1, c2⟩ := g4
    have modOk : Mod K mg (hidT s1.heap H) := ⟨kb, ns' _ _ g1, ⟨mb, ns' _ _ g2, g3⟩, ⟨mc, ns' _ _ c1, c2⟩⟩
    have env : Env0 P w K mg (hidT s1.heap H) callerA [] s1 H :=
      ⟨rfl, modOk, fun b o e => of_hidT e, Nat.le_of_eq (hidT_size _ _), trivial, fun b hb => (nomatch hb), hok, .of_eq g5⟩
    have call := (F _ kb (ns' _ _ g1)).run callerA [] s1 H ⟨[.ref a], []⟩ [.ref a] [.ref a] _ _ rfl hr env (hbind s1 (.ref a)) (.cons rfl .nil) (hsp H hS)
    refine codeAny_mono call ?_
    intro r s' h
    cases r with
    | error e => exact (cx_none h).elim
    | ok fl =>
      cases fl with
      | next => exact h.elim
      | brk => exact h.elim
      | cont => exact h.elim
      | ret u =>
        obtain ⟨v, H', os, bare, un, hok', r', q⟩ := h
        have q' : v = .bl true := q
        subst q'
        have eu : u = Value.bool true := r'
        subst eu
        refine ⟨rfl, OldK.of_keep ?_, os, bare⟩
        intro b o e
        by_cases hb : H b = none
        · exact un.keep b o e hb (by intro z; cases z) (by intro z; cases z)
        · have e' := onlyA b hb
          subst e'
          rcases hS.here with ⟨ob, z⟩ | ⟨z, _⟩
          · have z2 := un.frzs b ob _ z
            have o1 := (hok b _ z).1
            have o2 := (hok' b _ z2).1
            rw [e] at o1
            cases o1
            exact o2
          · exact absurd z hb
  cases hk : K.lookup a with
  | some o =>
    have e := KX a o hk
    rw [ha] at e
    cases e
    refine main (fun _ => none) ⟨fun _ _ => rfl, .inr ⟨rfl, .inr ⟨_, vs.toArray, _, hk, rfl, rfl, rfl, ?_, ?_⟩⟩⟩ (fun b u z => ?_) (fun z => absurd rfl z)
    · rw [List.size_toArray, lenV]
      exact hl
    · simpa using rv
    · cases (show (none : Option HO) = some u from z)
  | none =>
    refine main (fun b => if b = a then some (.frz { cls := .type "list", data := .seq vs.toArray } (.lst (ns.map V.int))) else none) ⟨fun b hb => if_neg hb, .inl ⟨_, if_pos rfl⟩⟩ (fun b u z => ?_) (fun _ => hk)
    by_cases hb : b = a
    · cases (if_pos hb).symm.trans z
      subst hb
      exact ⟨ha, by rw [List.length_map]; exact hl, vs, _, rv, ha⟩
    · cases (if_neg hb).symm.trans z
end

end VC

namespace VC
open PySem PySem.Spec PyProof.Rows L2

theorem sl_args (a b : Value) : argsOk "sum" ⟨[a, b], []⟩ := by unfold argsOk; kernel_rfl
theorem sl_str : isSubtype (.type "list") (.type "str") = pure false := by rw [isSubtype_type]; kernel_rfl
theorem sl_bytes : isSubtype (.type "list") (.type "bytes") = pure false := by rw [isSubtype_type]; kernel_rfl
theorem sl_bytearray : isSubtype (.type "list") (.type "bytearray") = pure false := by rw [isSubtype_type]; kernel_rfl
def catTo (its : Nat → List Value) : Nat → List Value
  | 0 => []
  | i + 1 => catTo its i ++ its i
theorem catTo_len (its : Nat → List Value) : ∀ {i n : Nat}, i ≤ n → (catTo its i).length ≤ (catTo its n).length := by
  intro i n h
  induction n with
  | zero => have : i = 0 := by omega
            subst this; exact Nat.le_refl _
  | succ n ih =>
    by_cases e : i = n + 1
    · subst e; exact Nat.le_refl _
    · have := ih (by omega)
      rw [catTo, List.length_append]; omega
section
variable {prog : Program} {w : World} {A : Around} {R : Result → Shared → Prop} {I : Addr} {fp wr : List Addr} {n : Nat} {P : Nat → Value → Prop} {St : Nat → Heap → Prop}
theorem loopSumL (W : Walks prog w A.in1 I fp wr n P St) (h0 : Heap) (start : List Value) (its : Nat → List Value) (hval : ∀ i v, P i v → ∃ p m, v = .ref p ∧ IsL h0 p (its i).toArray m) (hw : ∀ b ∈ wr, h0.get? b = none) (S : Addr) (hSf : ∀ b ∈ fp, b < S) (hS0 : h0.get? S = none) (hsz : start.length + (catTo its n).length ≤ sizeLine) :
    ∀ (k i : Nat) (s : Shared) (r : Addr) (c m : Nat), n - i = k → i ≤ n → St i s.heap → s.heap.get? S = some { cls := .type "list", dict := none, data := .seq #[.ref r] c, slots := #[] } →
    (∀ b o, h0.get? b = some o → s.heap.get? b = some o) → IsL s.heap r (start ++ catTo its i).toArray m → r ≠ S → r ∉ wr →
    (∀ h' tk r' m', (∀ b o, h0.get? b = some o → h'.get? b = some o) → IsL h' r' (start ++ catTo its n).toArray m' → (i = n ∧ r' = r ∨ S < r') → R (.ok (.ret (.ref r'))) { s with heap := h', toks := tk }) →
    codeAny (model prog w) A (.builtin "sum.loop" ⟨[.ref I, .ref S, rawInt 2, rawInt 0], []⟩) R s := by
  have hSn : S ∉ fp := fun h => Nat.lt_irrefl _ (hSf S h)
  have hSw : S ∉ wr := fun h => hSn (W.sub _ h)
  intro k
  induction k with
  | zero =>
    intro i s r c m hk hi hst hS hb hr hrS hrw hR
    have hin : i = n := by omega
    subst hin
    refine codeAny_builtin F.entry_sum_loop ?_
    rw [Around.under_plainId F.plain_sum_loop _]
    show wpAny _ A.in1 (seqItems? (.ref S) >>= _) _ _ s
    refine wpAny_bind (wpAny_seqItems hS rfl ?_)
    show wpAny _ A.in1 (tryCatch (pyNext (.ref I)) _ >>= _) _ _ s
    refine wpAny_bind (wpAny_tryCatch (W.done s _ _ hst fun h' tk hk' => ?_))
    refine wpAny_pure (hR h' tk r m (fun b o e => hk' b o (fun z => ?_) (hb b o e)) (hk' r _ hrw hr) (.inl ⟨rfl, rfl⟩))
    rw [hw b z] at e; cases e
  | succ k ih =>
    intro i s r c m hk hi hst hS hb hr hrS hrw hR
    have hlt : i < n := by omega
    refine codeAny_builtin F.entry_sum_loop ?_
    rw [Around.under_plainId F.plain_sum_loop _]
    show wpAny _ A.in1 (seqItems? (.ref S) >>= _) _ _ s
    refine wpAny_bind (wpAny_seqItems hS rfl ?_)
    show wpAny _ A.in1 (tryCatch (pyNext (.ref I)) _ >>= _) _ _ s
    refine wpAny_bind (wpAny_tryCatch (W.item i s _ _ hlt hst fun v h' tk hP hst' hk' => ?_))
    obtain ⟨p, mp, rfl, hp⟩ := hval i v hP
    have hb' : ∀ b o, h0.get? b = some o → h'.get? b = some o := fun b o e => hk' b o (fun z => by rw [hw b z] at e; cases e) (hb b o e)
    have hS' := hk' S _ hSw hS
    have hr' : IsL h' r (start ++ catTo its i).toArray m := hk' r _ hrw hr
    have hp' : IsL h' p (its i).toArray mp := hb' p _ hp
    have hl := catTo_len its (show i + 1 ≤ n by omega)
    rw [catTo, List.length_append] at hl
    have hSlt : S < h'.objs.size := Heap.lt_size hS'
    show wpAny _ A.in1 ((holding [Value.ref p] (binaryOp .Add (.ref r) (.ref p))).attempt >>= _) _ _ _
    refine wpAny_bind (wpAny_attempt (wpAny_holding (PySem.P.add_list (s := { s with heap := h', toks := tk }) hr' hp' ?_ (by simp only [List.size_toArray, List.length_append]; omega))))
    have ea : (start ++ catTo its i).toArray ++ (its i).toArray = (start ++ catTo its (i + 1)).toArray := by simp [catTo]
    rw [ea]
    show wpAny _ A.in1 (updateSeq S (fun _ => #[.ref h'.objs.size]) >>= _) _ _ _
    refine wpAny_bind ?_
    have hS1 : (h'.push { cls := .type "list", data := .seq (start ++ catTo its (i + 1)).toArray }).get? S = some { cls := .type "list", dict := none, data := .seq #[.ref r] c, slots := #[] } := Heap.get?_push_of_some _ hS'
    refine wpAny_updateSeq hS1 rfl ?_
    have hS2 := Heap.get?_update_self (Obj.mapSeq fun _ => #[Value.ref h'.objs.size]) hS1 rfl
    refine wpAny_bind (wpAny_letGo ?_)
    refine wpAny_bind ?_
    have ot : ∀ b, b ≠ S → ∀ o, (h'.push { cls := .type "list", data := .seq (start ++ catTo its (i + 1)).toArray }).get? b = some o → (((h'.push { cls := .type "list", data := .seq (start ++ catTo its (i + 1)).toArray }).update S (Obj.mapSeq fun _ => #[Value.ref h'.objs.size])).update S (Obj.mapSeq fun _ => #[Value.ref h'.objs.size])).get? b = some o := fun b hbS o e =>
      (Heap.get?_update_other _ _ (Ne.symm hbS)).trans ((Heap.get?_update_other _ _ (Ne.symm hbS)).trans e)
    have n0 : ∀ b o, h0.get? b = some o → b ≠ S := fun b o e z => by rw [z, hS0] at e; cases e
    refine wpAny_updateSeq hS2 rfl (wpAny_pure ⟨plainId_quiet F.plain_sum_loop _, ih (i + 1) _ h'.objs.size _ 0 (by omega) hlt (W.frame _ _ _ hst' fun b hb o e => ?_) (Heap.get?_update_self _ hS2 rfl) (fun b o e => ot b (n0 b o e) o (Heap.get?_push_of_some _ (hb' b o e))) (ot _ (Nat.ne_of_gt hSlt) _ (Heap.get?_push_size _ rfl)) (Nat.ne_of_gt hSlt) (fun z => ?_) fun h'' tk'' r'' m'' k1 k2 k3 => ?_⟩)
    · exact ot b (fun z => hSn (z ▸ hb)) o (Heap.get?_push_of_some _ e)
    · exact Nat.lt_asymm hSlt (hSf _ (W.sub _ z))
    · refine hR h'' tk'' r'' m'' k1 k2 (.inr ?_)
      rcases k3 with ⟨_, rfl⟩ | k3
      · exact hSlt
      · exact k3
end
section
variable {prog : Program} {w : World} {A : Around} {E : Value → Shared → Prop} {s : Shared}
theorem call_sumL {l b : Addr} {ls : List Value} {start : List Value} {its : Nat → List Value} {m : Nat} {Q : Value → Shared → Prop} (hh : A.handled = none) (hl : s.heap.IsList l ls.toArray) (hb : IsL s.heap b start.toArray m)
    (hv : ∀ i v, ls[i]? = some v → ∃ p m, v = .ref p ∧ IsL s.heap p (its i).toArray m) (hsz : start.length + (catTo its ls.length).length ≤ sizeLine)
    (h : ∀ h' tk r' m', (∀ c o, s.heap.get? c = some o → h'.get? c = some o) → IsL h' r' (start ++ catTo its ls.length).toArray m' → (ls.length = 0 ∧ r' = b ∨ s.heap.objs.size ≤ r') → Q (.ref r') { s with heap := h', toks := tk }) :
    wpAny (model prog w) A (call (.builtin "sum") [.ref l, .ref b]) Q E s := by
  refine call_function_tree F.kind_sum F.plain_sum F.entry_sum (sl_args _ _) ?_
  unfold Builtin.«sum»
  simp only [List.length_cons, List.length_nil]
  rw [if_neg (by decide)]
  refine wpAny_bind (wpAny_of_eq (show Builtin.Builtins.bindParams "sum" ["start"] 0 ⟨[.ref b], []⟩ = pure [some (.ref b)] from rfl) ?_)
  have hlt : l < s.heap.objs.size := by obtain ⟨_, e, _⟩ := hl; exact Heap.lt_size e
  have hblt : b < s.heap.objs.size := Heap.lt_size hb
  refine wpAny_bind (wpAny_pyIter_list hl ?_)
  refine wpAny_bind (wpAny_pure ?_)
  have hb1 : IsL (s.heap.push { cls := .type "list_iterator", data := .fields #[.ref l, .int 0 0] }) b start.toArray m := Heap.get?_push_of_some _ hb
  have ty : ({ s with heap := s.heap.push { cls := .type "list_iterator", data := .fields #[.ref l, .int 0 0] } } : Shared).TypeIs (.ref b) "list" := ⟨_, hb1, rfl⟩
  simp only [List.forIn_cons, List.forIn_nil]
  refine wpAny_bind (wpAny_bind (wpAny_bind (wpAny_isInstance (T := "list") (b := false) ty sl_str ?_)))
  simp only [Bool.false_eq_true, if_false]
  refine wpAny_pure (wpAny_bind (wpAny_bind (wpAny_isInstance (T := "list") (b := false) ty sl_bytes ?_)))
  simp only [Bool.false_eq_true, if_false]
  refine wpAny_pure (wpAny_bind (wpAny_bind (wpAny_isInstance (T := "list") (b := false) ty sl_bytearray ?_)))
  simp only [Bool.false_eq_true, if_false]
  refine wpAny_pure (wpAny_pure ?_)
  refine wpAny_bind (wpAny_newObj_type ?_)
  have W : Walks prog w A.in1 s.heap.objs.size [s.heap.objs.size, l] [s.heap.objs.size] ls.toArray.size (fun i v => ls.toArray[i]? = some v) (fun i h => h.IsListIter s.heap.objs.size l i ∧ h.IsList l ls.toArray) := Walks.list (A := A.in1) hh _ l (Nat.ne_of_lt hlt) ls.toArray
  have esz : (s.heap.push { cls := .type "list_iterator", data := .fields #[.ref l, .int 0 0] }).objs.size = s.heap.objs.size + 1 := Heap.size_push ..
  have fr : s.heap.get? s.heap.objs.size = none := by
    cases e : s.heap.get? s.heap.objs.size with
    | none => rfl
    | some o => exact absurd (Heap.lt_size e) (Nat.lt_irrefl _)
  have fr2 : s.heap.get? (s.heap.objs.size + 1) = none := by
    cases e : s.heap.get? (s.heap.objs.size + 1) with
    | none => rfl
    | some o => exact absurd (Heap.lt_size e) (Nat.not_lt.mpr (Nat.le_succ _))
  have es : ls.toArray.size = ls.length := List.size_toArray ..
  refine wpAny_pure ⟨plainId_quiet F.plain_sum_loop _, loopSumL W s.heap start its (fun i v hi => hv i v (by simpa using hi)) (fun c hc => by rw [List.mem_singleton.mp hc]; exact fr) (s.heap.push { cls := .type "list_iterator", data := .fields #[.ref l, .int 0 0] }).objs.size (fun c hc => ?_) (by rw [esz]; exact fr2) (by rw [es]; exact hsz) ls.toArray.size 0 _ b 0 m rfl (Nat.zero_le _)
    ⟨⟨_, Heap.get?_push_of_some _ (Heap.get?_push_size _ rfl), rfl, rfl⟩, (hl.push _).push _⟩ (Heap.get?_push_size _ rfl) (fun c o e => Heap.get?_push_of_some _ (Heap.get?_push_of_some _ e)) ?_ ?_ ?_ fun h' tk r' m' k1 k2 k3 => ?_⟩
  · rw [esz]
    simp only [List.mem_cons, List.not_mem_nil, or_false] at hc
    rcases hc with rfl | rfl
    · exact Nat.lt_succ_self _
    · exact Nat.lt_succ_of_lt hlt
  · have : start ++ catTo its 0 = start := by simp [catTo]
    rw [this]
    exact Heap.get?_push_of_some _ hb1
  · rw [esz]; exact Nat.ne_of_lt (Nat.lt_succ_of_lt hblt)
  · intro z
    rw [List.mem_singleton.mp z] at hblt
    exact Nat.lt_irrefl _ hblt
  · rw [es] at k2 k3
    refine h h' tk r' m' k1 k2 (k3.imp (fun z => ⟨z.1.symm, z.2⟩) fun z => ?_)
    rw [esz] at z
    exact Nat.le_of_lt (Nat.lt_of_le_of_lt (Nat.le_succ _) z)
end
def rSumL : List V → Hp → VK → Prop := fun vs H Q => ∃ (a b : Addr) (ps : List Addr) (xss : List (List V)) (xs0 : List V), vs = [.ref a, .ref b] ∧ H a = some (.lst (ps.map V.ref)) ∧ H b = some (.lst xs0) ∧ xss.length = ps.length ∧
  (∀ (i : Nat) (p : Addr) (xs : List V), ps[i]? = some p → xss[i]? = some xs → H p = some (.lst xs)) ∧ xs0.length + xss.flatten.length ≤ sizeLine ∧ (ps = [] → Q (.ref b) H) ∧ ∀ r H1, H r = none → Same H H1 → H1 r = some (.lst (xs0 ++ xss.flatten)) → Q (.ref r) H1
theorem catTo_vals {its : Nat → List Value} : ∀ {xss : List (List V)} (n : Nat), n ≤ xss.length → (∀ i xs, xss[i]? = some xs → Vals xs (its i)) → Vals (xss.take n).flatten (catTo its n)
  | xss, 0, _, _ => by rw [List.take_zero]; exact Paired.nil
  | xss, n + 1, hn, h => by
    have hlt : n < xss.length := by omega
    rw [List.take_succ, List.getElem?_eq_getElem hlt, Option.toList_some, List.flatten_append, catTo]
    refine Vals.append (catTo_vals n (by omega) h) ?_
    have := h n _ (List.getElem?_eq_getElem hlt)
    simpa using this
theorem cr_sumL {X : Cx} (hc : X.calm = true) : CallR X (.builtin "sum") rSumL := by
  intro pins s σ H vs us Q I r h
  obtain ⟨a, b, ps, xss, xs0, rfl, ha, hb, hl, hp, hz, q0, q1⟩ := h
  obtain ⟨va, vb, rfl, ra, rb⟩ : ∃ va vb, us = [va, vb] ∧ RelV (.ref a) va ∧ RelV (.ref b) vb := by
    cases r with
    | cons r1 r2 => cases r2 with
      | cons r2 r3 => cases r3; exact ⟨_, _, rfl, r1, r2⟩
  cases ra
  cases rb
  obtain ⟨za, ita, na, rva, hla, ea⟩ := I.lstM ha
  obtain ⟨zb, itb, nb, rvb, hlb, eb⟩ := I.lstM hb
  have eia := refs_at rva
  subst eia
  have ex : ∀ i : Nat, ∃ its : List Value, ∀ xs : List V, xss[i]? = some xs → ∀ p : Addr, ps[i]? = some p → Vals xs its ∧ xs.length = its.length ∧ ∃ m, IsL s.heap p its.toArray m := by
    intro i
    by_cases hi : i < xss.length
    · have e1 : xss[i]? = some xss[i] := List.getElem?_eq_getElem hi
      have e2 : ps[i]? = some (ps[i]'(by omega)) := List.getElem?_eq_getElem (by omega)
      obtain ⟨z, its, n, rv, hle, e⟩ := I.lstM (hp i _ _ e2 e1)
      refine ⟨its, fun xs h1 p h2 => ?_⟩
      rw [e1] at h1
      rw [e2] at h2
      cases h1
      cases h2
      exact ⟨rv, hle, n, e⟩
    · exact ⟨[], fun xs h1 => by rw [List.getElem?_eq_none (by omega)] at h1; cases h1⟩
  obtain ⟨its, hits⟩ : ∃ its : Nat → List Value, ∀ (i : Nat) (xs : List V), xss[i]? = some xs → ∀ p : Addr, ps[i]? = some p → Vals xs (its i) ∧ xs.length = (its i).length ∧ ∃ m, IsL s.heap p (its i).toArray m := ⟨fun i => (ex i).choose, fun i => (ex i).choose_spec⟩
  have hvals := catTo_vals (its := its) (xss := xss) ps.length (by omega) (fun i xs h => by
    have hi : i < xss.length := (List.getElem?_eq_some_iff.mp h).1
    exact (hits i xs h _ (List.getElem?_eq_getElem (show i < ps.length by omega))).1)
  rw [List.take_of_length_le (by omega)] at hvals
  have hlen : (catTo its ps.length).length = xss.flatten.length := hvals.length.symm
  refine call_sumL (ls := ps.map Value.ref) (start := itb) (its := its) (I.ok.hd hc) ⟨_, ea, rfl, na, rfl⟩ eb (fun i v hi => ?_) (by rw [List.length_map, hlen, ← hlb]; exact hz) fun h' tk r' m' k1 k2 k3 => ?_
  · rw [List.getElem?_map] at hi
    cases e : ps[i]? with
    | none => rw [e] at hi; cases hi
    | some p =>
      rw [e] at hi
      cases hi
      have hlt : i < ps.length := (List.getElem?_eq_some_iff.mp e).1
      obtain ⟨_, _, m, hm⟩ := hits i _ (List.getElem?_eq_getElem (show i < xss.length by omega)) p e
      exact ⟨p, m, rfl, hm⟩
  · rw [List.length_map] at k2 k3
    rcases k3 with ⟨z, rfl⟩ | k3
    · exact ⟨.ref r', H, I.kept k1, rfl, q0 (List.eq_nil_of_length_eq_zero z)⟩
    · have hn := I.hok.fresh k3
      refine ⟨.ref r', upd H r' (.lst (xs0 ++ xss.flatten)), I.laid (t' := tk) k1 k3 ⟨by rw [List.length_append]; exact hz, itb ++ catTo its ps.length, m', rvb.append hvals, k2⟩, rfl, q1 r' _ hn ?_ upd_same⟩
      intro c u e
      rw [upd_ne (ne_of_none e hn)]
      exact e
end VC

namespace VC
open PySem PySem.Spec PyProof.Rows L2

def pickA {α : Type} (xs : List α) (lo hi st : Option Int) : List α := (sliceRange (sliceBounds lo hi st xs.length).1 (sliceBounds lo hi st xs.length).2.1 (sliceBounds lo hi st xs.length).2.2).filterMap (xs[·]?)
theorem vals_pick {xs : List V} {us : List Value} (r : Vals xs us) : ∀ ixs : List Nat, Vals (ixs.filterMap (xs[·]?)) (ixs.filterMap (us[·]?))
  | [] => Paired.nil
  | i :: ixs => by
    have ih := vals_pick r ixs
    rw [List.filterMap_cons, List.filterMap_cons]
    cases e : xs[i]? with
    | none =>
      have : us[i]? = none := by
        rw [List.getElem?_eq_none_iff] at e ⊢
        rw [← r.length]; exact e
      rw [this]
      exact ih
    | some x =>
      obtain ⟨u, e2, ru⟩ := r.get e
      rw [e2]
      exact Paired.cons ru ih
theorem pick_arr (us : List Value) (lo hi st : Option Int) : slicePick us.toArray lo hi st = (pickA us lo hi st).toArray := by
  unfold slicePick pickA
  simp only [List.size_toArray, List.getElem?_toArray]
theorem range_len (a b k : Int) (n : Nat) (hk : 0 < k) (ha : 0 ≤ a) (hb : b ≤ n) : (sliceRange a b k).length ≤ n := by
  unfold sliceRange
  rw [List.length_map, List.length_range, if_pos hk]
  split
  · rename_i h
    have := ceilDiv_le (b - a) k (by omega) (by omega)
    omega
  · simp
theorem pick_len {α : Type} (xs : List α) (i k : Int) (hk : 0 < k) : (pickA xs (some i) none (some k)).length ≤ xs.length := by
  unfold pickA
  refine Nat.le_trans (List.length_filterMap_le _ _) ?_
  have e : sliceBounds (some i) none (some k) xs.length = (max 0 (min (if i < 0 then i + xs.length else i) xs.length), (xs.length : Int), k) := by
    unfold sliceBounds
    simp only [Option.getD_some]
    rw [if_pos hk, if_pos hk]
  rw [e]
  exact range_len _ _ _ _ hk (by simp only; omega) (by simp only; omega)
def tStp (K : PySem.W.Frag) (k : Int) (te tl : TE) : TE := fun σ H Q => te σ H fun x H1 => tl σ H1 fun y H2 => ∃ a xs i, x = .ref a ∧ y = .int i ∧ SqL K H2 a xs ∧ 0 < k ∧ ∀ p, H2 p = none → Q (.ref p) (upd H2 p (.lst (pickA xs (some i) none (some k))))
theorem pe_stpL {X : Cx} {e lo : Expr} {te tl : TE} {k : Int} {kk : Nat} {p1 p3 pos : Pos} (he : PE X e te) (hl : PE X lo tl) : PE X (.Subscript e (.Slice (some lo) none (some (.Constant (.int k) kk p1)) p3) pos) (tStp X.K k te tl) := by
  refine ⟨fun pins s σ H Q I h => ?_⟩
  refine Subscript_ (thn (he.run pins s σ H _ I h) fun v s1 ⟨x, H1, I1, r1, q1⟩ => ?_)
  have hst : PO X (some (.Constant (.int k) kk p1)) (tPart (tC (.int k))) := po_some pe_int
  have hlo : PO X (some lo) (tPart (fun σ H Q => ∃ Q' : VK, tl σ H Q' ∧ ∀ v H', Q' v H' → Q v H')) := po_some ⟨fun pins s σ H Q I q => by
    obtain ⟨Q', h1, h2⟩ := q
    refine thn (hl.run pins s σ H Q' I h1) ?_
    rintro u s' ⟨v, H', I', r, q'⟩
    exact ⟨v, H', I', r, h2 v H' q'⟩⟩
  refine wpAny_Slice (thn (hlo.run pins s1 σ H1 (fun o H2 => ∃ a xs i, x = .ref a ∧ o = some i ∧ SqL X.K H2 a xs ∧ 0 < k ∧ ∀ p, H2 p = none → Q (.ref p) (upd H2 p (.lst (pickA xs (some i) none (some k))))) I1 ⟨_, q1, fun y H' q' => ?_⟩) fun vl s2 ⟨l, H2, I2, pl, q2⟩ => ?_)
  · obtain ⟨a, xs, i, h1, h2, h3⟩ := q'
    exact ⟨i, h2, a, xs, i, h1, rfl, h3⟩
  obtain ⟨a, xs, i, ex, el, hx, hk, q⟩ := q2
  subst ex el
  cases r1
  refine thn (po_none.run pins s2 σ H2 (fun o H3 => o = none ∧ H3 = H2) I2 ⟨rfl, rfl⟩) fun vu s3 ⟨u, H3, I3, pu, eu, e3⟩ => ?_
  subst eu e3
  refine thn (hst.run pins s3 σ H3 (fun o H4 => o = some k ∧ H4 = H3) I3 ⟨k, rfl, rfl, rfl⟩) fun vs s4 ⟨o, H4, I4, ps, eo, e4⟩ => ?_
  subst eo e4
  have I5 : Inv X pins σ H4 { s4 with heap := s4.heap.push { cls := .type "slice", data := .fields #[vl, vu, vs] } } := I4.kept (t' := s4.toks) fun b ob q => Heap.get?_push_of_some _ q
  obtain ⟨its, r, ht, hz⟩ := I5.list hx
  have hlen := r.length
  show wpAny (model X.prog X.w) X.A (subscriptTail e (.Slice (some lo) none (some (.Constant (.int k) kk p1)) p3) (.ref a) (.ref s4.heap.objs.size)) (EP X pins σ Q) X.xe { s4 with heap := s4.heap.push { cls := .type "slice", data := .fields #[vl, vu, vs] } }
  refine tail_any (ops := [.ref a, .ref s4.heap.objs.size]) ht.isList.typeIs (PySem.slot_list_getitem.lookup) ?_ (by with_unfolding_all rfl)
  refine wpAny_getItem_list_slice ht.isList (Heap.IsSliceOf.new _ vl vu vs) pl pu ps (by intro z; cases z; omega) ?_ (by rw [List.size_toArray]; omega)
  rw [pick_arr]
  have hp : Vals (pickA xs (some i) none (some k)) (pickA its (some i) none (some k)) := by
    unfold pickA
    rw [hlen]
    exact vals_pick r _
  have hpl := pick_len xs i k hk
  refine ⟨.ref _, _, I5.laid (t' := s4.toks) (o := .lst (pickA xs (some i) none (some k))) (fun b ob q => Heap.get?_push_of_some _ q) (Nat.le_refl _) ?_, rfl, q _ (I5.hok.fresh (Nat.le_refl _))⟩
  exact ⟨by omega, _, 0, hp, Heap.get?_push_size _ rfl⟩
end VC

namespace VC
open PySem PySem.Spec PyProof.Rows L2

def insS {α : Type} (le : α → α → Bool) (x : α) : List α → List α
  | [] => [x]
  | y :: ys => if le x y then x :: y :: ys else y :: insS le x ys
def isortS {α : Type} (le : α → α → Bool) : List α → List α
  | [] => []
  | x :: xs => insS le x (isortS le xs)
section
variable {α : Type} {le : α → α → Bool}
theorem insS_mem {x z : α} : ∀ {ys : List α}, z ∈ insS le x ys ↔ z = x ∨ z ∈ ys
  | [] => by simp [insS]
  | y :: ys => by
    rw [insS]
    split
    · simp
    · rw [List.mem_cons, insS_mem (ys := ys), List.mem_cons]
      constructor
      · rintro (h | h | h)
        · exact .inr (.inl h)
        · exact .inl h
        · exact .inr (.inr h)
      · rintro (h | h | h)
        · exact .inr (.inl h)
        · exact .inl h
        · exact .inr (.inr h)
theorem insS_srt (h : PySem.W.TotalLe le) {x : α} : ∀ {ys : List α}, ys.Pairwise (fun a b => le a b = true) → (insS le x ys).Pairwise (fun a b => le a b = true)
  | [], _ => by simp [insS]
  | y :: ys, p => by
    obtain ⟨p1, p2⟩ := List.pairwise_cons.mp p
    rw [insS]
    split
    · rename_i c
      refine List.pairwise_cons.mpr ⟨fun z hz => ?_, p⟩
      rcases List.mem_cons.mp hz with rfl | hz
      · exact c
      · exact h.trans _ _ _ c (p1 z hz)
    · rename_i c
      refine List.pairwise_cons.mpr ⟨fun z hz => ?_, insS_srt h p2⟩
      rcases insS_mem.mp hz with rfl | hz
      · exact (h.total y z).resolve_right (by simpa using c)
      · exact p1 z hz
theorem insS_rank (h : PySem.W.TotalLe le) {x c : α} : ∀ {ys : List α}, (insS le x ys).filter (PySem.W.sameRank le c) = (x :: ys).filter (PySem.W.sameRank le c)
  | [] => rfl
  | y :: ys => by
    rw [insS]
    split
    · rfl
    · rename_i q
      rw [List.filter_cons, insS_rank h (ys := ys)]
      by_cases hy : PySem.W.sameRank le c y = true
      · by_cases hx : PySem.W.sameRank le c x = true
        · exfalso
          simp only [PySem.W.sameRank, Bool.and_eq_true] at hx hy
          exact q (h.trans _ _ _ (by first | exact hx.2 | exact hx.1) (by first | exact hy.1 | exact hy.2))
        · simp [List.filter_cons, hx, hy]
      · simp [List.filter_cons, hy]
theorem isortS_eq (h : PySem.W.TotalLe le) (l : List α) : isortS le l = l.mergeSort le := by
  have s : ∀ l : List α, (isortS le l).Pairwise (fun a b => le a b = true) := by
    intro l
    induction l with
    | nil => exact .nil
    | cons x l ih => exact insS_srt h ih
  have f : ∀ (l : List α) (c : α), (isortS le l).filter (PySem.W.sameRank le c) = l.filter (PySem.W.sameRank le c) := by
    intro l c
    induction l with
    | nil => rfl
    | cons x l ih => rw [isortS, insS_rank h, List.filter_cons, List.filter_cons, ih]
  exact PySem.W.sort_unique h (s l) (f l)
end
abbrev leD {α : Type} : α × PyData → α × PyData → Bool := PySem.W.dataLe false fun b : α × PyData => b.2
theorem leD_total {α : Type} : PySem.W.TotalLe (leD (α := α)) := PySem.W.sortLe_total _ _ _
def sortD {α : Type} (xs : List α) (ds : List PyData) : List α := (isortS leD (xs.zip ds)).map (·.1)
def rSortedD (K : PySem.W.Frag) : List V → Hp → VK → Prop := fun vs H Q => ∃ (a : Addr) (xs : List V) (ds : List PyData), vs = [.ref a] ∧ SqL K H a xs ∧ DpAll K H xs ds ∧ PySem.W.AllAlike ds ∧ PySem.W.Sortable ds ∧ (∀ d, d ∈ ds → d.depth ≤ 60) ∧
  ∀ p, H p = none → Q (.ref p) (upd H p (.lst (sortD xs ds)))
section
variable {X : Cx} {pins : List (Addr × Obj)} {σ : L2.St} {H : Hp} {s : Shared}
theorem each_of (I : Inv X pins σ H s) : ∀ {xs : List V} {ds : List PyData} {us : List Value}, Vals xs us → DpAll X.K H xs ds →
    ds.length = xs.length ∧ PySem.W.EachIs (fun u (b : V × PyData) => RelV b.1 u) us (xs.zip ds) ∧ PySem.W.EachIs (fun u (b : V × PyData) => ∃ as, Reads s.heap u b.2 as) us (xs.zip ds)
  | [], ds, us, r, d => by
    cases r
    cases d
    exact ⟨rfl, .nil, .nil⟩
  | x :: xs, ds, us, r, d => by
    cases r with
    | cons r1 r2 =>
      cases d with
      | cons d1 d2 =>
        obtain ⟨h1, h2, h3⟩ := each_of I r2 d2
        exact ⟨by simp [h1], .cons r1 h2, .cons (Dp.reads I _ _ _ d1 r1) h3⟩
theorem each_vals : ∀ {us : List Value} {bs : List (V × PyData)}, PySem.W.EachIs (fun u (b : V × PyData) => RelV b.1 u) us bs → Vals (bs.map (·.1)) us
  | [], _, h => by cases h; exact Paired.nil
  | u :: us, _, h => by
    cases h with
    | cons r t => exact Paired.cons r (each_vals t)
end
theorem zip_snd {xs : List V} {ds : List PyData} (h : ds.length = xs.length) : (xs.zip ds).map (·.2) = ds := by
  rw [List.map_snd_zip]; omega
theorem cr_sortedD {X : Cx} (hu : X.A.units + 64 < cLine) : CallR X (.builtin "sorted") (rSortedD X.K) := by
  intro pins s σ H vs us Q I r h
  obtain ⟨a, xs, ds, rfl, hs, hd, hal, hk, hdp, q⟩ := h
  obtain ⟨its, rv, hl, hz⟩ := I.list hs
  obtain ⟨u, rfl, ru⟩ := vals1 r
  obtain rfl : u = Value.ref a := ru
  obtain ⟨hlen, e1, e2⟩ := each_of I rv hd
  have es := zip_snd hlen
  have hbl : (xs.zip ds).length = xs.length := by rw [List.length_zip, hlen, Nat.min_self]
  refine PySem.W.sorted_data (R := fun u (b : V × PyData) => RelV b.1 u) (enc := fun b : V × PyData => b.2) hl.isList e1 e2 (by rw [es]; exact hal) (by rw [es]; exact hk) (by rw [hbl]; exact hz) (fun b hb => ?_) fun out ho eo => ?_
  · have : b.2 ∈ ds := by rw [← es]; exact List.mem_map.mpr ⟨b, hb, rfl⟩
    have := hdp _ this
    omega
  · obtain ⟨n, hn⟩ := sortedAll_at s.heap its out.toArray
    have eo' : sortD xs ds = ((xs.zip ds).mergeSort (PySem.W.dataLe false fun b : V × PyData => b.2)).map (·.1) := by
      unfold sortD
      rw [isortS_eq leD_total]
    have hv := each_vals eo
    rw [← eo'] at hv
    have hl2 : (sortD xs ds).length ≤ sizeLine := by rw [eo', List.length_map, List.length_mergeSort, hbl]; exact hz
    exact ⟨.ref _, upd H (s.heap.objs.size + 1) (.lst (sortD xs ds)), I.laid (t' := s.toks) (fun _ _ => sortedAll_old) (Nat.le_succ _) ⟨hl2, out, n, hv, hn⟩, rfl, q _ (I.hok.fresh (Nat.le_succ _))⟩
end VC

namespace VC
open PySem PySem.Spec PyProof.Rows L2

inductive Tg where
  | name (i : Nat)
  | tup (is : List Nat)
mutual
inductive Ex where
  | var (i : Nat)
  | mv (i : Nat)
  | us (vs : List Nat) (e : Ex)
  | con (c : Const)
  | glb (x : Str)
  | bin (op : Operator) (a b : Ex)
  | neg (a : Ex)
  | cmp (op : CmpOp) (a b : Ex)
  | chn (o p : CmpOp) (a b c : Ex)
  | and (a b : Ex)
  | or (a b : Ex)
  | not (a : Ex)
  | ite (c : Ts) (a b : Ex)
  | tup (es : Exs)
  | lst (es : Exs)
  | idx (a i : Ex)
  | sl2 (a lo hi : Ex)
  | sl1 (a lo : Ex)
  | sl0 (a hi : Ex)
  | rev (a : Ex)
  | stp (a lo : Ex) (k : Int)
  | call (f : Str) (es : Exs) (ks : List Str) (kes : Exs)
  | blt (f : Str) (es : Exs)
  | isi (a : Ex) (t : Str)
  | lrg (es : Exs)
  | lzp (a b : Ex)
  | mth (m : Str) (o : Ex) (es : Exs)
  | comp (e : Ex) (tg : Tg) (it : Ir) (cs : Cd) (own : List (Str × Nat))
inductive Exs where
  | nil
  | cons (e : Ex) (es : Exs)
inductive Ts where
  | us (vs : List Nat) (t : Ts)
  | val (e : Ex)
  | cmp (op : CmpOp) (a b : Ex)
  | chn (o p : CmpOp) (a b c : Ex)
  | not (a : Ts)
  | and (a b : Ts)
  | or (a b : Ts)
inductive Cd where
  | no
  | one (t : Ts)
inductive Ir where
  | us (vs : List Nat) (it : Ir)
  | seq (e : Ex)
  | rng (es : Exs)
  | enm (e : Ex)
  | zip (a b : Ex)
end

mutual
inductive Sm where
  | expr (e : Ex)
  | ret (e : Ex)
  | retN
  | asg (i : Nat) (e : Ex)
  | unp (is : List Nat) (e : Ex)
  | par (is : List Nat) (es : Exs)
  | setI (o i e : Ex)
  | setI2 (o i o2 i2 e : Ex)
  | aug (i : Nat) (op : Operator) (e : Ex)
  | augI (o i : Ex) (op : Operator) (e : Ex)
  | ife (c : Ts) (a b : Ss)
  | forI (tg : Tg) (it : Ir) (b : Ss)
  | whl (c : Ts) (b : Ss)
  | pass
  | brk
  | cont
  | never
inductive Ss where
  | nil
  | cons (s : Sm) (r : Ss)
end

structure Fn where
  ps : List Str
  N : List Str
  body : Ss
def Exs.len : Exs → Nat
  | .nil => 0
  | .cons _ r => r.len + 1

structure Tab where
  fns : List (Str × Fn)
  cons : List (Str × V)
  kp : List (Str × Nat × List Str)

def conV : Const → Option V
  | .none => some .non
  | .bool b => some (.bl b)
  | .int i => some (.int i)
  | .str x => some (.str x)
  | _ => none

def alloc (H : Hp) (o : HO) (Q : VK) : Prop := ∀ p H1, H p = none → Same H H1 → H1 p = some o → Q (.ref p) H1
theorem same_new {H : Hp} {p : Addr} {o : HO} (h : H p = none) : Same H (upd H p o) := fun a u e => by
  rw [upd_ne (ne_of_none e h)]; exact e
theorem alloc.at_ {H : Hp} {o : HO} {Q : VK} (h : alloc H o Q) : ∀ p, H p = none → Q (.ref p) (upd H p o) := fun p hp => h p _ hp (same_new hp) upd_same

def onL (K : PySem.W.Frag) (H : Hp) (a : Addr) (F : List V → Prop) : Prop := match H a with
  | some (.lst xs) => F xs
  | some (.frz _ (.lst xs)) => F xs
  | none => ∃ xs, SqL K H a xs ∧ F xs
  | _ => False
theorem onL.to {K : PySem.W.Frag} {H : Hp} {a : Addr} {F : List V → Prop} (h : onL K H a F) : ∃ xs, SqL K H a xs ∧ F xs := by
  unfold onL at h
  split at h
  · exact ⟨_, .inl (.inl (by assumption)), h⟩
  · exact ⟨_, .inl (.inr ⟨_, by assumption⟩), h⟩
  · exact h
  · exact h.elim
theorem onL_of {K : PySem.W.Frag} {H : Hp} {a : Addr} {xs : List V} {F : List V → Prop} (h : H a = some (.lst xs)) : onL K H a F = F xs := by
  unfold onL; rw [h]
def onT (K : PySem.W.Frag) (H : Hp) (a : Addr) (F : List V → Prop) : Prop := match H a with
  | some (.tup xs) => F xs
  | _ => False
theorem onT.to {K : PySem.W.Frag} {H : Hp} {a : Addr} {F : List V → Prop} (h : onT K H a F) : ∃ xs, SqT K H a xs ∧ F xs := by
  unfold onT at h
  split at h
  · exact ⟨_, .inl (.inl (by assumption)), h⟩
  · exact h.elim
theorem onT_of {K : PySem.W.Frag} {H : Hp} {a : Addr} {xs : List V} {F : List V → Prop} (h : H a = some (.tup xs)) : onT K H a F = F xs := by
  unfold onT; rw [h]
def onS (K : PySem.W.Frag) (H : Hp) (a : Addr) (F : List V → Prop) : Prop := match H a with
  | some (.tup xs) => F xs
  | _ => onL K H a F
theorem onS.to {K : PySem.W.Frag} {H : Hp} {a : Addr} {F : List V → Prop} (h : onS K H a F) : ∃ xs, (SqL K H a xs ∨ SqT K H a xs) ∧ F xs := by
  unfold onS at h
  split at h
  · exact ⟨_, .inr (.inl (.inl (by assumption))), h⟩
  · obtain ⟨xs, h1, h2⟩ := h.to
    exact ⟨xs, .inl h1, h2⟩
def onQ (K : PySem.W.Frag) (H : Hp) (a : Addr) (F G : List V → Prop) : Prop := match H a with
  | some (.tup xs) => G xs
  | _ => onL K H a F
theorem onQ.to {K : PySem.W.Frag} {H : Hp} {a : Addr} {F G : List V → Prop} (h : onQ K H a F G) : (∃ xs, SqL K H a xs ∧ F xs) ∨ ∃ xs, SqT K H a xs ∧ G xs := by
  unfold onQ at h
  split at h
  · exact .inr ⟨_, .inl (.inl (by assumption)), h⟩
  · exact .inl h.to
theorem onQ_l {K : PySem.W.Frag} {H : Hp} {a : Addr} {xs : List V} {F G : List V → Prop} (h : H a = some (.lst xs)) : onQ K H a F G = F xs := by
  unfold onQ onL; rw [h]
theorem onQ_t {K : PySem.W.Frag} {H : Hp} {a : Addr} {xs : List V} {F G : List V → Prop} (h : H a = some (.tup xs)) : onQ K H a F G = G xs := by
  unfold onQ; rw [h]
theorem onS_l {K : PySem.W.Frag} {H : Hp} {a : Addr} {xs : List V} {F : List V → Prop} (h : H a = some (.lst xs)) : onS K H a F = F xs := by
  unfold onS onL; rw [h]
theorem onS_t {K : PySem.W.Frag} {H : Hp} {a : Addr} {xs : List V} {F : List V → Prop} (h : H a = some (.tup xs)) : onS K H a F = F xs := by
  unfold onS; rw [h]

def opBin (op : Operator) (x y : V) (H : Hp) (Q : VK) : Prop := match op, x, y with
  | .Add, .int i, .int j => Q (.int (i + j)) H
  | .Add, .str s, .str t => s.length + t.length ≤ sizeLine ∧ Q (.str (s ++ t)) H
  | .Add, .ref a, .ref b => ∃ xs ys, H a = some (.lst xs) ∧ H b = some (.lst ys) ∧ xs.length + ys.length ≤ sizeLine ∧ alloc H (.lst (xs ++ ys)) Q
  | .Sub, .int i, .int j => Q (.int (i - j)) H
  | .Mult, .int i, .int j => CMulW i j ∧ Q (.int (i * j)) H
  | .Mult, .ref a, .int k => ∃ xs, H a = some (.lst xs) ∧ -(2 ^ 63) ≤ k ∧ k < 2 ^ 63 ∧ xs.length * k.toNat ≤ sizeLine ∧ alloc H (.lst (List.replicate k.toNat xs).flatten) Q
  | .FloorDiv, .int i, .int j => CDivW i j ∧ Q (.int (i / j)) H
  | .Mod, .int i, .int j => 0 < j ∧ Q (.int (i % j)) H
  | .Pow, .int i, .int j => (0 ≤ j ∧ (Builtin.Int.intBits i : Int) * j ≤ 2 ^ 27) ∧ Q (.int (i ^ j.toNat)) H
  | _, _, _ => False

def opIp (op : Operator) (x y : V) (H : Hp) (Q : VK) : Prop := match op, x, y with
  | .Add, .int i, .int j => Q (.int (i + j)) H
  | .Sub, .int i, .int j => Q (.int (i - j)) H
  | .Mult, .int i, .int j => (CMul i j ∧ Q (.int (i * j)) H)
  | .Add, .ref a, .ref b => ∃ xs ys, H a = some (.lst xs) ∧ H b = some (.lst ys) ∧ xs.length + ys.length ≤ sizeLine ∧ Q (.ref a) (upd H a (.lst (xs ++ ys)))
  | _, _, _ => False

def eqW (K : PySem.W.Frag) (neg : Bool) (x y : V) (H : Hp) (Q : VK) : Prop := match x, y with
  | .int i, .int j => Q (.bl (neg ^^ decide (i = j))) H
  | .bl i, .bl j => Q (.bl (neg ^^ decide (i = j))) H
  | .str i, .str j => Q (.bl (neg ^^ decide (i = j))) H
  | _, _ => ∃ d e, Dp K H x d ∧ Dp K H y e ∧ SeqAt.shaped d = true ∧ SeqAt.shaped e = true ∧ Q (.bl (neg ^^ PyData.eqv d e)) H

def opCmp (K : PySem.W.Frag) (op : CmpOp) (x y : V) (H : Hp) (Q : VK) : Prop := match op with
  | .Lt => match x, y with
    | .int i, .int j => Q (.bl (decide (i < j))) H
    | _, _ => False
  | .LtE => match x, y with
    | .int i, .int j => Q (.bl (decide (i ≤ j))) H
    | _, _ => False
  | .Gt => match x, y with
    | .int i, .int j => Q (.bl (decide (j < i))) H
    | _, _ => False
  | .GtE => match x, y with
    | .int i, .int j => Q (.bl (decide (j ≤ i))) H
    | _, _ => False
  | .Eq => eqW K false x y H Q
  | .NotEq => eqW K true x y H Q
  | .In => match y with
    | .ref p => (onS K H p fun xs => flatV x = true ∧ xs.all flatV = true ∧ Q (.bl (inV x xs)) H) ∨ rInD K x (.ref p) H Q
    | _ => False
  | .NotIn => match y with
    | .ref p => (onS K H p fun xs => flatV x = true ∧ xs.all flatV = true ∧ Q (.bl (!inV x xs)) H) ∨ rNotInD K x (.ref p) H Q
    | _ => False
  | .Is => y = .non ∧ Q (.bl (decide (x = .non))) H
  | .IsNot => y = .non ∧ Q (.bl (!decide (x = .non))) H

def idxW (K : PySem.W.Frag) (x y : V) (H : Hp) (Q : VK) : Prop := match x, y with
  | .ref p, .int i => onS K H p fun xs => ∃ v, atI xs i = some v ∧ Q v H
  | .str z, .int i => z.length ≤ sizeLine ∧ ∃ c, atI z.cps.toList i = some c ∧ Q (.str ⟨#[c]⟩) H
  | _, _ => False

def slW (K : PySem.W.Frag) (x : V) (lo hi : Option Int) (H : Hp) (Q : VK) : Prop := match x with
  | .ref p => onL K H p fun xs => alloc H (.lst (cutV xs lo hi)) Q
  | _ => False

def stpW (K : PySem.W.Frag) (k : Int) (x y : V) (H : Hp) (Q : VK) : Prop := match x, y with
  | .ref p, .int i => onL K H p fun xs => 0 < k ∧ alloc H (.lst (pickA xs (some i) none (some k))) Q
  | _, _ => False
def tyName (K : PySem.W.Frag) (H : Hp) : V → Option String
  | .non => some "NoneType"
  | .bl _ => some "bool"
  | .int _ => some "int"
  | .str _ => some "str"
  | .ref a => match H a with
    | some (.lst _) => some "list"
    | some (.tup _) => some "tuple"
    | some (.dK _) => some "dict"
    | some (.dT _) => some "dict"
    | _ => none
  | _ => none

def bltW (K : PySem.W.Frag) (f : Str) (xs : List V) (H : Hp) (Q : VK) : Prop :=
  if f = "len" then match xs with
    | [.ref p] => onS K H p fun ys => Q (.int ys.length) H
    | [.str z] => z.length ≤ sizeLine ∧ Q (.int z.length) H
    | _ => False
  else if f = "int" then match xs with
    | [.int i] => Q (.int i) H
    | [.bl b] => Q (.int (if b then 1 else 0)) H
    | _ => False
  else if f = "repr" then match xs with
    | [.ref a] => ∃ d : PyData, Dp K H (.ref a) d ∧ d.showable = true ∧ d.hasDict = false ∧ d.depth ≤ 60 ∧ d.shown.length ≤ sizeLine ∧ Q (.str d.shown) H
    | _ => False
  else if f = "list" then match xs with
    | [.ref p] => onS K H p fun ys => alloc H (.lst ys) Q
    | _ => False
  else if f = "sum" then match xs with
    | [.ref p] => onL K H p fun ys => ∃ ns : List Int, ys = ns.map V.int ∧ Q (.int ns.sum) H
    | [.ref p, .ref b] => rSumL [.ref p, .ref b] H Q
    | _ => False
  else if f = "max" then match xs with
    | [.int i, .int j] => Q (.int (if j > i then j else i)) H
    | [.ref p] => onL K H p fun ys => ∃ ns : List Int, ys = ns.map V.int ∧ 0 < ns.length ∧ ∀ m, m ∈ ns → (∀ y, y ∈ ns → y ≤ m) → Q (.int m) H
    | _ => False
  else if f = "min" then match xs with
    | [.int i, .int j] => Q (.int (if j < i then j else i)) H
    | [.ref p] => onL K H p fun ys => ∃ ns : List Int, ys = ns.map V.int ∧ 0 < ns.length ∧ ∀ m, m ∈ ns → (∀ y, y ∈ ns → m ≤ y) → Q (.int m) H
    | _ => False
  else if f = "all" then match xs with
    | [.ref p] => onL K H p fun ys => ∃ bs : List Bool, ys = bs.map V.bl ∧ Q (.bl (bs.all id)) H
    | _ => False
  else if f = "sorted" then match xs with
    | [.ref p] => (onL K H p fun ys => ∃ ns : List Int, ys = ns.map V.int ∧ ns.length < 64 ∧ ∀ ms : List Int, ms.Perm ns → ms.Pairwise (· ≤ ·) → alloc H (.lst (ms.map V.int)) Q) ∨ rSortedPO K [.ref p] H Q ∨ rSortedD K [.ref p] H Q
    | _ => False
  else False

def mthW (K : PySem.W.Frag) (m : Str) (x : V) (xs : List V) (H : Hp) (Q : VK) : Prop :=
  if m = "append" then match x, xs with
    | .ref l, [y] => ∃ ys, H l = some (.lst ys) ∧ ys.length < sizeLine ∧ Q .non (upd H l (.lst (ys ++ [y])))
    | _, _ => False
  else if m = "pop" then match x, xs with
    | .ref l, [] => ∃ ys y, H l = some (.lst ys) ∧ ys[ys.length - 1]? = some y ∧ Q y (upd H l (.lst ys.dropLast))
    | _, _ => False
  else if m = "clear" then match x, xs with
    | .ref l, [] => ∃ ys, H l = some (.lst ys) ∧ Q .non (upd H l (.lst []))
    | _, _ => False
  else if m = "index" then match x, xs with
    | .ref l, [y] => ∃ ys j z, H l = some (.lst ys) ∧ flatV y = true ∧ ys.all flatV = true ∧ ys[j]? = some z ∧ eqV z y = true ∧ (∀ m z', m < j → ys[m]? = some z' → eqV z' y = false) ∧ Q (.int (j : Nat)) H
    | _, _ => False
  else False

inductive Src where
  | lst (a : Addr) (xs : List V)
  | tup (a : Addr) (xs : List V)
  | rng (lo : Int) (c : Int) (n : Nat)
  | enm (a : Addr) (xs : List V)
  | zip (a b : Addr) (xs ys : List V)
def Src.len : Src → Nat
  | .lst _ xs => xs.length
  | .tup _ xs => xs.length
  | .rng _ _ n => n
  | .enm _ xs => xs.length
  | .zip _ _ xs ys => min xs.length ys.length
def Src.ok (K : PySem.W.Frag) (H : Hp) : Src → Prop
  | .lst a xs => SqL K H a xs
  | .tup a xs => SqT K H a xs
  | .rng _ _ _ => True
  | .enm a xs => SqL K H a xs
  | .zip a b xs ys => SqL K H a xs ∧ SqL K H b ys
def setAll (σ : L2.St) : List Nat → List V → L2.St
  | j :: js, v :: vs => setAll (σ.set j (some v)) js vs
  | _, _ => σ
def Src.step (K : PySem.W.Frag) (tg : Tg) (i : Nat) (σ : L2.St) (H : Hp) (Q : L2.St → Hp → Prop) : Src → Prop
  | .lst _ xs => match tg with
    | .name j => ∃ x, xs[i]? = some x ∧ Q (σ.set j (some x)) H
    | .tup js => ∃ p, xs[i]? = some (.ref p) ∧ onT K H p fun ys => ys.length = js.length ∧ Q (setAll σ js ys) H
  | .tup _ xs => match tg with
    | .name j => ∃ x, xs[i]? = some x ∧ Q (σ.set j (some x)) H
    | .tup js => ∃ p, xs[i]? = some (.ref p) ∧ onT K H p fun ys => ys.length = js.length ∧ Q (setAll σ js ys) H
  | .rng lo c _ => match tg with
    | .name j => Q (σ.set j (some (.int (lo + (i : Nat) * c)))) H
    | .tup _ => False
  | .enm _ xs => match tg with
    | .tup [j, k] => ∃ x, xs[i]? = some x ∧ ∀ H1, Same H H1 → Q ((σ.set j (some (.int (i : Nat)))).set k (some x)) H1
    | _ => False
  | .zip _ _ xs ys => match tg with
    | .tup [j, k] => ∃ x y, xs[i]? = some x ∧ ys[i]? = some y ∧ ∀ H1, Same H H1 → Q ((σ.set j (some x)).set k (some y)) H1
    | _ => False

def forW (K : PySem.W.Frag) (s : Src) (tg : Tg) (tb : TS) (D : Ends) (σ : L2.St) (H : Hp) : Prop :=
  ∃ W : Nat → L2.St → Hp → Prop, W 0 σ H ∧
    (∀ i σ H, i < s.len → W i σ H → s.ok K H ∧ s.step K tg i σ H fun σ2 H2 => tb { nx := W (i + 1), ct := W (i + 1), bk := D.nx, rt := D.rt } σ2 H2) ∧
    ∀ σ H, W s.len σ H → s.ok K H ∧ D.nx σ H
def lcW (K : PySem.W.Frag) (s : Src) (tg : Tg) (tt : TT) (te : TE) (σ : L2.St) (d : Addr) (Q : VK) (H : Hp) : Prop :=
  ∃ W : Nat → Hp → Prop, W 0 H ∧
    (∀ i H, i < s.len → W i H → s.ok K H ∧ s.step K tg i σ H fun σ2 H2 => tt σ2 H2 fun b H3 =>
      if b = true then te σ2 H3 fun y H4 => ∃ acc, H4 d = some (.lst acc) ∧ acc.length < sizeLine ∧ W (i + 1) (upd H4 d (.lst (acc ++ [y]))) else W (i + 1) H3) ∧
    ∀ H, W s.len H → s.ok K H ∧ Q (.ref d) H
def whileW (c : TT) (tb : TS) (D : Ends) (σ : L2.St) (H : Hp) : Prop :=
  ∃ W : Nat → L2.St → Hp → Prop, (∃ m, W m σ H) ∧
    ∀ m σ H, W m σ H → c σ H fun b H1 => if b = true then tb { nx := fun σ' H' => ∃ m', m' < m ∧ W m' σ' H', ct := fun σ' H' => ∃ m', m' < m ∧ W m' σ' H', bk := D.nx, rt := D.rt } σ H1 else D.nx σ H1

def arrange (ps ks : List Str) {α : Type} (dflt : α) (vs zs : List α) : List α :=
  if ks.isEmpty then vs else vs ++ (ps.drop vs.length).map fun p => ((ks.zip zs).lookup p).getD dflt

def lzpW (H1 : Hp) (xs ys : List V) (Q : VK) : Prop := ∀ (r : Addr) (ts : List Addr) (H2 : Hp), H1 r = none → Same H1 H2 → ts.length = min xs.length ys.length → ts.Nodup → r ∉ ts → (∀ t, t ∈ ts → H1 t = none) → H2 r = some (.lst (ts.map V.ref)) →
    (∀ (j : Nat) (t : Addr) (x y : V), ts[j]? = some t → xs[j]? = some x → ys[j]? = some y → H2 t = some (.tup [x, y])) → Q (.ref r) H2
structure Cn where
  K : PySem.W.Frag
  G : Str → Sp
  ps : Str → List Str
  cs : Str → Option V

def rngW (vs : List V) (Q : Int → Int → Nat → Prop) : Prop := match vs with
  | [.int j] => -(2 ^ 62) ≤ j ∧ j < 2 ^ 62 ∧ Q 0 1 j.toNat
  | [.int i, .int j] => (-(2 ^ 62) ≤ i ∧ i < 2 ^ 62 ∧ -(2 ^ 62) ≤ j ∧ j < 2 ^ 62) ∧ Q i 1 (j - i).toNat
  | [.int i, .int j, .int c] => c = -1 ∧ (-(2 ^ 62) ≤ i ∧ i < 2 ^ 62 ∧ -(2 ^ 62) ≤ j ∧ j < 2 ^ 62) ∧ Q i (-1) (i - j).toNat
  | _ => False

mutual
def wpE (c : Cn) (E : XK) : Ex → TE
  | .var i => fun σ H Q => match σ[i]? with
    | some (some v) => Q v H
    | _ => False
  | .mv i => fun σ H Q => match σ[i]? with
    | some (some v) => Q v H
    | _ => False
  | .us _ e => wpE c E e
  | .con k => fun _ H Q => match conV k with
    | some v => Q v H
    | none => False
  | .glb x => fun _ H Q => match c.cs x with
    | some v => Q v H
    | none => False
  | .bin op a b => fun σ H Q => wpE c E a σ H fun x H1 => wpE c E b σ H1 fun y H2 => opBin op x y H2 Q
  | .neg a => fun σ H Q => wpE c E a σ H fun x H1 => match x with
    | .int i => Q (.int (-i)) H1
    | _ => False
  | .cmp op a b => fun σ H Q => wpE c E a σ H fun x H1 => wpE c E b σ H1 fun y H2 => opCmp c.K op x y H2 Q
  | .chn o p a b d => fun σ H Q => wpE c E a σ H fun x H1 => wpE c E b σ H1 fun y H2 => opCmp c.K o x y H2 fun z H3 => match z with
    | .bl true => wpE c E d σ H3 fun w H4 => opCmp c.K p y w H4 Q
    | .bl false => Q (.bl false) H3
    | _ => False
  | .and a b => fun σ H Q => wpE c E a σ H fun x H1 => match x with
    | .bl true => wpE c E b σ H1 Q
    | .bl false => Q (.bl false) H1
    | _ => False
  | .or a b => fun σ H Q => wpE c E a σ H fun x H1 => match x with
    | .bl false => wpE c E b σ H1 Q
    | .bl true => Q (.bl true) H1
    | _ => False
  | .not a => fun σ H Q => wpE c E a σ H fun x H1 => match x with
    | .bl b => Q (.bl (!b)) H1
    | _ => False
  | .ite t a b => fun σ H Q => wpT c E t σ H fun k H1 => if k = true then wpE c E a σ H1 Q else wpE c E b σ H1 Q
  | .tup es => fun σ H Q => wpEs c E es σ H fun xs H1 => xs.length ≤ sizeLine ∧ alloc H1 (.tup xs) Q
  | .lst es => fun σ H Q => wpEs c E es σ H fun xs H1 => xs.length ≤ sizeLine ∧ alloc H1 (.lst xs) Q
  | .idx a i => fun σ H Q => wpE c E a σ H fun x H1 => wpE c E i σ H1 fun y H2 => idxW c.K x y H2 Q
  | .sl2 a lo hi => fun σ H Q => wpE c E a σ H fun x H1 => wpE c E lo σ H1 fun y H2 => match y with
    | .int i => wpE c E hi σ H2 fun z H3 => match z with
      | .int j => slW c.K x (some i) (some j) H3 Q
      | _ => False
    | _ => False
  | .sl1 a lo => fun σ H Q => wpE c E a σ H fun x H1 => wpE c E lo σ H1 fun y H2 => match y with
    | .int i => slW c.K x (some i) none H2 Q
    | _ => False
  | .sl0 a hi => fun σ H Q => wpE c E a σ H fun x H1 => wpE c E hi σ H1 fun y H2 => match y with
    | .int j => slW c.K x none (some j) H2 Q
    | _ => False
  | .rev a => fun σ H Q => wpE c E a σ H fun x H1 => match x with
    | .ref p => onL c.K H1 p fun xs => alloc H1 (.lst xs.reverse) Q
    | _ => False
  | .stp a lo k => fun σ H Q => wpE c E a σ H fun x H1 => wpE c E lo σ H1 fun y H2 => stpW c.K k x y H2 Q
  | .call f es ks kes => fun σ H Q => wpEs c E es σ H fun vs H1 => wpEs c E kes σ H1 fun zs H2 => vs.length = es.len ∧ zs.length = ks.length ∧ c.G f (arrange (c.ps f) ks V.non vs zs) H2 Q E
  | .blt f es => fun σ H Q => wpEs c E es σ H fun vs H1 => bltW c.K f vs H1 Q
  | .isi a t => fun σ H Q => wpE c E a σ H fun x H1 => ∃ n b, tyName c.K H1 x = some n ∧ kitB n t.toString = some b ∧ Q (.bl b) H1
  | .lrg es => fun σ H Q => wpEs c E es σ H fun vs H1 => match vs with
    | [.int j] => RgOk 0 j ∧ alloc H1 (.lst (rgV 0 j)) Q
    | [.int i, .int j] => RgOk i j ∧ alloc H1 (.lst (rgV i j)) Q
    | _ => False
  | .lzp a b => fun σ H Q => wpE c E a σ H fun x H1 => wpE c E b σ H1 fun y H2 => match x, y with
    | .ref a, .ref b => onL c.K H2 a fun xs => onL c.K H2 b fun ys => lzpW H2 xs ys Q
    | _, _ => False
  | .mth m o es => fun σ H Q => wpE c E o σ H fun x H1 => match x with
    | .ref a => match H1 a with
      | some (.lst _) => wpEs c E es σ H1 fun vs H2 => mthW c.K m x vs H2 Q
      | _ => False
    | _ => False
  | .comp e tg it cs own => fun σ H Q => wpI c E it σ H fun s H1 => ∀ d, H1 d = none →
      lcW c.K s tg (wpTs c cs) (wpE c E0 e) (wipe σ (own.map (·.2))) d Q (upd H1 d (.lst []))
def wpEs (c : Cn) (E : XK) : Exs → TA
  | .nil => fun _ H Q => Q [] H
  | .cons e es => fun σ H Q => wpE c E e σ H fun x H1 => wpEs c E es σ H1 fun xs H2 => Q (x :: xs) H2
def wpT (c : Cn) (E : XK) : Ts → TT
  | .us _ t => wpT c E t
  | .val e => fun σ H Q => wpE c E e σ H fun x H1 => match x with
    | .bl b => Q b H1
    | _ => False
  | .cmp op a b => fun σ H Q => wpE c E a σ H fun x H1 => wpE c E b σ H1 fun y H2 => opCmp c.K op x y H2 fun z H3 => match z with
    | .bl k => Q k H3
    | _ => False
  | .chn o p a b d => fun σ H Q => wpE c E a σ H fun x H1 => wpE c E b σ H1 fun y H2 => opCmp c.K o x y H2 fun z H3 => match z with
    | .bl true => wpE c E d σ H3 fun w H4 => opCmp c.K p y w H4 fun z H5 => match z with
      | .bl k => Q k H5
      | _ => False
    | .bl false => Q false H3
    | _ => False
  | .not a => fun σ H Q => wpT c E a σ H fun b H1 => Q (!b) H1
  | .and a b => fun σ H Q => wpT c E a σ H fun k H1 => if k = true then wpT c E b σ H1 Q else Q false H1
  | .or a b => fun σ H Q => wpT c E a σ H fun k H1 => if k = true then Q true H1 else wpT c E b σ H1 Q
def wpTs (c : Cn) : Cd → TT
  | .no => fun _ H Q => Q true H
  | .one t => wpT c E0 t
def wpI (c : Cn) (E : XK) : Ir → L2.St → Hp → (Src → Hp → Prop) → Prop
  | .us _ it => wpI c E it
  | .seq e => fun σ H R => wpE c E e σ H fun x H1 => match x with
    | .ref a => onQ c.K H1 a (fun xs => R (.lst a xs) H1) (fun xs => R (.tup a xs) H1)
    | _ => False
  | .rng es => fun σ H R => wpEs c E es σ H fun vs H1 => rngW vs fun lo st n => R (.rng lo st n) H1
  | .enm e => fun σ H R => wpE c E e σ H fun x H1 => match x with
    | .ref a => onL c.K H1 a fun xs => R (.enm a xs) H1
    | _ => False
  | .zip e1 e2 => fun σ H R => wpE c E e1 σ H fun x H1 => wpE c E e2 σ H1 fun y H2 => match x, y with
    | .ref a, .ref b => onL c.K H2 a fun xs => onL c.K H2 b fun ys => R (.zip a b xs ys) H2
    | _, _ => False
end

mutual
def wpS (c : Cn) (E : XK) : Sm → TS
  | .expr e => fun D σ H => wpE c E e σ H fun _ H1 => D.nx σ H1
  | .ret e => fun D σ H => wpE c E e σ H D.rt
  | .retN => fun D _ H => D.rt .non H
  | .asg i e => fun D σ H => wpE c E e σ H fun x H1 => D.nx (σ.set i (some x)) H1
  | .unp is e => fun D σ H => wpE c E e σ H fun x H1 => match x with
    | .ref a => onT c.K H1 a fun xs => xs.length = is.length ∧ D.nx (setAll σ is xs) H1
    | _ => False
  | .par is es => fun D σ H => wpEs c E es σ H fun xs H1 => xs.length = is.length ∧ D.nx (setAll σ is xs) H1
  | .setI o i e => fun D σ H => wpE c E e σ H fun v H1 => wpE c E o σ H1 fun x H2 => wpE c E i σ H2 fun y H3 => match x, y with
    | .ref p, .int k => ∃ xs j, H3 p = some (.lst xs) ∧ ixN xs.length k = some j ∧ D.nx σ (upd H3 p (.lst (xs.set j v)))
    | _, _ => False
  | .setI2 o i o2 i2 e => fun D σ H => wpE c E e σ H fun x H1 => match x with
    | .ref a => onT c.K H1 a fun ys => match ys with
      | [v, w] => wpE c E o σ H1 fun x H2 => wpE c E i σ H2 fun y H3 => match x, y with
        | .ref p, .int k => ∃ xs j, H3 p = some (.lst xs) ∧ ixN xs.length k = some j ∧
            wpE c E o2 σ (upd H3 p (.lst (xs.set j v))) fun x H4 => wpE c E i2 σ H4 fun y H5 => match x, y with
              | .ref p, .int k => ∃ xs j, H5 p = some (.lst xs) ∧ ixN xs.length k = some j ∧ D.nx σ (upd H5 p (.lst (xs.set j w)))
              | _, _ => False
        | _, _ => False
      | _ => False
    | _ => False
  | .aug i op e => fun D σ H => match σ[i]? with
    | some (some x) => wpE c E e σ H fun y H1 => opIp op x y H1 fun z H2 => D.nx (σ.set i (some z)) H2
    | _ => False
  | .augI o i op e => fun D σ H => wpE c E o σ H fun x H1 => wpE c E i σ H1 fun y H2 => match x, y with
    | .ref p, .int k => ∃ xs u, H2 p = some (.lst xs) ∧ 0 ≤ k ∧ xs[k.toNat]? = some u ∧ wpE c E e σ H2 fun w H3 => opIp op u w H3 fun z H4 =>
        ∃ ys, H4 p = some (.lst ys) ∧ k < ys.length ∧ D.nx σ (upd H4 p (.lst (ys.set k.toNat z)))
    | _, _ => False
  | .ife t a b => fun D σ H => wpT c E t σ H fun k H1 => if k = true then wpSs c E a D σ H1 else wpSs c E b D σ H1
  | .forI tg it b => fun D σ H => wpI c E it σ H fun s H1 => forW c.K s tg (wpSs c E b) D σ H1
  | .whl t b => fun D σ H => whileW (wpT c E t) (wpSs c E b) D σ H
  | .pass => fun D σ H => D.nx σ H
  | .brk => fun D σ H => D.bk σ H
  | .cont => fun D σ H => D.ct σ H
  | .never => fun _ _ _ => False
def wpSs (c : Cn) (E : XK) : Ss → TS
  | .nil => fun D σ H => D.nx σ H
  | .cons s r => fun D σ H => wpS c E s { D with nx := wpSs c E r D } σ H
end

def SPn (T : Tab) (K : PySem.W.Frag) : Nat → Str → Sp
  | 0, _ => fun _ _ _ _ => False
  | k + 1, x => fun vs H Q E => match T.fns.lookup x with
    | none => False
    | some F => vs.length = F.ps.length ∧ wpSs ⟨K, SPn T K k, fun f => ((T.fns.lookup f).map (·.ps)).getD [], fun y => T.cons.lookup y⟩ E F.body { nx := fun _ H' => Q .non H', rt := Q } (start F.N vs) H
def Tab.way (T : Tab) (x : Str) (n : Nat) (ks : List Str) : Bool := match T.fns.lookup x with
  | some F => (ks.isEmpty && n == F.ps.length) || T.kp.contains (x, n, ks)
  | none => false
def cnOf (T : Tab) (K : PySem.W.Frag) (k : Nat) : Cn := ⟨K, SPn T K k, fun f => ((T.fns.lookup f).map (·.ps)).getD [], fun y => T.cons.lookup y⟩

end VC

namespace VC
open PySem PySem.Spec PyProof.Rows L2

section
variable {X : Cx}
theorem PE.imp {e : Expr} {t t' : TE} (h : PE X e t) (i : ∀ σ H Q, t' σ H Q → t σ H Q) : PE X e t' := ⟨fun pins s σ H Q I q => h.run pins s σ H Q I (i _ _ _ q)⟩
theorem PT.imp {e : Expr} {t t' : TT} (h : PT X e t) (i : ∀ σ H Q, t' σ H Q → t σ H Q) : PT X e t' := ⟨fun pins s σ H Q I q => h.run pins s σ H Q I (i _ _ _ q)⟩
theorem PW.imp {e : Expr} {t t' : TT} (h : PW X e t) (i : ∀ σ H Q, t' σ H Q → t σ H Q) : PW X e t' := ⟨fun wh pins s σ H Q I q => h.run wh pins s σ H Q I (i _ _ _ q)⟩
theorem PA.imp {e : List Expr} {t t' : TA} (h : PA X e t) (i : ∀ σ H Q, t' σ H Q → t σ H Q) : PA X e t' := ⟨fun pos pins s σ H Q I q => h.run pos pins s σ H Q I (i _ _ _ q)⟩
theorem PS.imp {e : Stmt} {t t' : TS} (h : PS X e t) (i : ∀ D σ H, t' D σ H → t D σ H) : PS X e t' := ⟨fun pins s σ H Q I q => h.run pins s σ H Q I (i _ _ _ q)⟩

theorem opBin_ok {op : Operator} : OpR X (binaryOp op) (opBin op) := by
  intro pins s σ H x y v u Q I rx ry h
  unfold opBin at h
  split at h
  · exact op_add pins s σ H _ _ v u Q I rx ry ⟨_, _, rfl, rfl, h⟩
  · exact op_add_str pins s σ H _ _ v u Q I rx ry ⟨_, _, rfl, rfl, h⟩
  · obtain ⟨xs, ys, h1, h2, h3, h4⟩ := h
    exact op_cat pins s σ H _ _ v u Q I rx ry ⟨_, _, xs, ys, rfl, rfl, h1, h2, h3, h4.at_⟩
  · exact op_sub pins s σ H _ _ v u Q I rx ry ⟨_, _, rfl, rfl, h⟩
  · exact op_mulW pins s σ H _ _ v u Q I rx ry ⟨_, _, rfl, rfl, h⟩
  · obtain ⟨xs, h1, h2, h3, h4, h5⟩ := h
    exact op_rep pins s σ H _ _ v u Q I rx ry ⟨_, _, xs, rfl, rfl, h1, h2, h3, h4, h5.at_⟩
  · exact op_fdivW pins s σ H _ _ v u Q I rx ry ⟨_, _, rfl, rfl, h⟩
  · exact op_mod pins s σ H _ _ v u Q I rx ry ⟨_, _, rfl, rfl, h⟩
  · exact op_powW pins s σ H _ _ v u Q I rx ry ⟨_, _, rfl, rfl, h⟩
  · exact h.elim

theorem opIp_ok {op : Operator} : OpR X (inplaceOp op) (opIp op) := by
  intro pins s σ H x y v u Q I rx ry h
  unfold opIp at h
  split at h
  · exact iop_add pins s σ H _ _ v u Q I rx ry ⟨_, _, rfl, rfl, h⟩
  · exact iop_sub pins s σ H _ _ v u Q I rx ry ⟨_, _, rfl, rfl, h⟩
  · exact iop_mul pins s σ H _ _ v u Q I rx ry ⟨_, _, rfl, rfl, h⟩
  · obtain ⟨xs, ys, h1, h2, h3, h4⟩ := h
    exact iop_ext pins s σ H _ _ v u Q I rx ry ⟨_, _, xs, ys, rfl, rfl, h1, h2, h3, h4⟩
  · exact h.elim

theorem decV {α : Type} [DecidableEq α] {f : α → V} (hf : ∀ a b, f a = f b → a = b) (a b : α) : decide (f a = f b) = decide (a = b) := by
  by_cases e : a = b
  · subst e; simp
  · rw [decide_eq_false e, decide_eq_false fun q => e (hf _ _ q)]

theorem eqW_ok (hu : X.A.units + 64 < cLine) : OpR X (compareOp .Eq) (eqW X.K false) := by
  intro pins s σ H x y v u Q I rx ry h
  unfold eqW at h
  split at h
  · refine op_eq pins s σ H _ _ v u Q I rx ry ⟨rfl, ?_⟩
    rw [decV (f := V.int) (fun a b e => by cases e; rfl)]
    simpa using h
  · refine op_eq pins s σ H _ _ v u Q I rx ry ⟨rfl, ?_⟩
    rw [decV (f := V.bl) (fun a b e => by cases e; rfl)]
    simpa using h
  · refine op_eq pins s σ H _ _ v u Q I rx ry ⟨rfl, ?_⟩
    rw [decV (f := V.str) (fun a b e => by cases e; rfl)]
    simpa using h
  · obtain ⟨d, e, h1, h2, h3, h4, h5⟩ := h
    exact op_eqD hu pins s σ H _ _ v u Q I rx ry ⟨d, e, h1, h2, h3, h4, by simpa using h5⟩
theorem neW_ok (hu : X.A.units + 64 < cLine) : OpR X (compareOp .NotEq) (eqW X.K true) := by
  intro pins s σ H x y v u Q I rx ry h
  unfold eqW at h
  split at h
  · refine op_ne pins s σ H _ _ v u Q I rx ry ⟨rfl, ?_⟩
    rw [decV (f := V.int) (fun a b e => by cases e; rfl)]
    simpa using h
  · refine op_ne pins s σ H _ _ v u Q I rx ry ⟨rfl, ?_⟩
    rw [decV (f := V.bl) (fun a b e => by cases e; rfl)]
    simpa using h
  · refine op_ne pins s σ H _ _ v u Q I rx ry ⟨rfl, ?_⟩
    rw [decV (f := V.str) (fun a b e => by cases e; rfl)]
    simpa using h
  · obtain ⟨d, e, h1, h2, h3, h4, h5⟩ := h
    exact op_neD hu pins s σ H _ _ v u Q I rx ry ⟨d, e, h1, h2, h3, h4, by simpa using h5⟩

theorem room65 {k : Nat} {A : Around} (r : Room k A) : A.units + 65 < cLine := by have := r.un; omega
theorem opCmp_ok (hu : X.A.units + 65 < cLine) {op : CmpOp} : OpR X (compareOp op) (opCmp X.K op) := by
  intro pins s σ H x y v u Q I rx ry h
  unfold opCmp at h
  split at h
  · split at h
    · exact op_lt pins s σ H _ _ v u Q I rx ry ⟨_, _, rfl, rfl, h⟩
    · exact h.elim
  · split at h
    · exact op_le pins s σ H _ _ v u Q I rx ry ⟨_, _, rfl, rfl, h⟩
    · exact h.elim
  · split at h
    · exact op_gt pins s σ H _ _ v u Q I rx ry ⟨_, _, rfl, rfl, h⟩
    · exact h.elim
  · split at h
    · exact op_ge pins s σ H _ _ v u Q I rx ry ⟨_, _, rfl, rfl, h⟩
    · exact h.elim
  · exact eqW_ok (by omega) pins s σ H _ _ v u Q I rx ry h
  · exact neW_ok (by omega) pins s σ H _ _ v u Q I rx ry h
  · split at h
    · rcases h with h | h
      · obtain ⟨xs, h1, h2, h3, h4⟩ := h.to
        exact op_in_seq pins s σ H _ _ v u Q I rx ry ⟨_, xs, rfl, h1, h2, h3, h4⟩
      · exact op_inD hu pins s σ H _ _ v u Q I rx ry h
    · exact h.elim
  · split at h
    · rcases h with h | h
      · obtain ⟨xs, h1, h2, h3, h4⟩ := h.to
        exact op_notIn_seq pins s σ H _ _ v u Q I rx ry ⟨_, xs, rfl, h1, h2, h3, h4⟩
      · exact op_notInD hu pins s σ H _ _ v u Q I rx ry h
    · exact h.elim
  · exact op_isN pins s σ H _ _ v u Q I rx ry h
  · exact op_notN pins s σ H _ _ v u Q I rx ry h

theorem idxW_ok : IxR X (idxW X.K) := by
  intro value slice pins s σ H x y v u Q I rx ry h hs
  unfold idxW at h
  split at h
  · obtain ⟨xs, h1, w, h2, h3⟩ := h.to
    rcases h1 with h1 | h1
    · exact ix_list value slice pins s σ H _ _ v u Q I rx ry ⟨_, xs, _, w, rfl, rfl, h1, h2, h3⟩ hs
    · exact ix_tup value slice pins s σ H _ _ v u Q I rx ry ⟨_, xs, _, w, rfl, rfl, h1, h2, h3⟩ hs
  · obtain ⟨h1, c, h2, h3⟩ := h
    exact ix_str value slice pins s σ H _ _ v u Q I rx ry ⟨_, _, c, rfl, rfl, h1, h2, h3⟩ hs
  · exact h.elim

theorem slW_ok : SlR X (slW X.K) := by
  intro pins s σ H x v vl vu lo hi sl Q I rx h1 h2 h3 h
  unfold slW at h
  split at h
  · obtain ⟨xs, q1, q2⟩ := h.to
    exact sl_list pins s σ H _ v vl vu lo hi sl Q I rx h1 h2 h3 ⟨_, xs, rfl, q1, q2.at_⟩
  · exact h.elim

def bltV (f : Str) : Value :=
  if f = "len" then .builtin "len" else if f = "int" then .type "int" else if f = "repr" then .builtin "repr" else if f = "list" then .type "list"
  else if f = "sum" then .builtin "sum" else if f = "max" then .builtin "max" else if f = "min" then .builtin "min" else if f = "all" then .builtin "all"
  else if f = "sorted" then .builtin "sorted" else .none

theorem bltW_ok (hc : X.calm = true) (hgu : X.A.guards = some []) (hu : X.A.units + 64 < cLine) (f : Str) : CallR X (bltV f) (bltW X.K f) := by
  intro pins s σ H xs us Q I r h
  unfold bltW at h
  unfold bltV
  split at h
  · rename_i e; rw [if_pos e]
    split at h
    · obtain ⟨ys, h1, h2⟩ := h.to
      exact call_len_seq pins s σ H _ us Q I r ⟨_, ys, rfl, h1, h2⟩
    · exact call_len_str pins s σ H _ us Q I r ⟨_, rfl, h⟩
    · exact h.elim
  rename_i e; rw [if_neg e]
  split at h
  · rename_i e; rw [if_pos e]
    split at h
    · exact call_int1 pins s σ H _ us Q I r (.inl ⟨_, rfl, h⟩)
    · exact call_int1 pins s σ H _ us Q I r (.inr ⟨_, rfl, h⟩)
    · exact h.elim
  rename_i e; rw [if_neg e]
  split at h
  · rename_i e; rw [if_pos e]
    split at h
    · obtain ⟨d, h1, h2, h3, h4, h5, h6⟩ := h
      exact call_reprD hgu hu pins s σ H _ us Q I r ⟨_, d, rfl, h1, h2, h3, h4, h5, h6⟩
    · exact h.elim
  rename_i e; rw [if_neg e]
  split at h
  · rename_i e; rw [if_pos e]
    split at h
    · obtain ⟨ys, h1, h2⟩ := h.to
      exact call_list_of pins s σ H _ us Q I r ⟨_, ys, rfl, h1, h2.at_⟩
    · exact h.elim
  rename_i e; rw [if_neg e]
  split at h
  · rename_i e; rw [if_pos e]
    split at h
    · obtain ⟨ys, h1, ns, rfl, h2⟩ := h.to
      exact cr_sum hc pins s σ H _ us Q I r ⟨_, ns, rfl, h1, h2⟩
    · exact cr_sumL hc pins s σ H _ us Q I r h
    · exact h.elim
  rename_i e; rw [if_neg e]
  split at h
  · rename_i e; rw [if_pos e]
    split at h
    · exact call_max2 hc pins s σ H _ us Q I r ⟨_, _, rfl, h⟩
    · obtain ⟨ys, h1, ns, rfl, h2⟩ := h.to
      exact cr_max hc pins s σ H _ us Q I r ⟨_, ns, rfl, h1, h2⟩
    · exact h.elim
  rename_i e; rw [if_neg e]
  split at h
  · rename_i e; rw [if_pos e]
    split at h
    · exact call_min2 hc pins s σ H _ us Q I r ⟨_, _, rfl, h⟩
    · obtain ⟨ys, h1, ns, rfl, h2⟩ := h.to
      exact cr_min hc pins s σ H _ us Q I r ⟨_, ns, rfl, h1, h2⟩
    · exact h.elim
  rename_i e; rw [if_neg e]
  split at h
  · rename_i e; rw [if_pos e]
    split at h
    · obtain ⟨ys, h1, ns, rfl, h2⟩ := h.to
      exact cr_all hc pins s σ H _ us Q I r ⟨_, ns, rfl, h1, h2⟩
    · exact h.elim
  rename_i e; rw [if_neg e]
  split at h
  · rename_i e; rw [if_pos e]
    split at h
    · rcases h with h | h | h
      · obtain ⟨ys, h1, ns, rfl, h2, h3⟩ := h.to
        refine cr_sorted pins s σ H _ us Q I r ⟨_, ns, rfl, h1, h2, ?_⟩
        intro ms p hp hs hn
        exact (h3 ms hp hs).at_ p hn
      · exact cr_sortedPO pins s σ H _ us Q I r h
      · exact cr_sortedD hu pins s σ H _ us Q I r h
    · exact h.elim
  · exact h.elim

def mthT (m : Str) : String × String := if m = "append" then ("list", "list.append") else if m = "pop" then ("list", "list.pop") else if m = "clear" then ("list", "list.clear") else if m = "index" then ("list", "list.index") else ("", "")

theorem mthW_ok (m : Str) : MtR X (mthT m).2 (mthW X.K m) := by
  intro pins s σ H x xs v us Q I rx r h
  unfold mthW at h
  unfold mthT
  split at h
  · rename_i e; rw [if_pos e]
    split at h
    · obtain ⟨ys, h1, h2, h3⟩ := h
      exact mt_append pins s σ H _ _ v us Q I rx r ⟨_, ys, _, rfl, rfl, h1, h2, h3⟩
    · exact h.elim
  rename_i e; rw [if_neg e]
  split at h
  · rename_i e; rw [if_pos e]
    split at h
    · obtain ⟨ys, y, h1, h2, h3⟩ := h
      exact mt_pop pins s σ H _ _ v us Q I rx r ⟨_, ys, y, rfl, rfl, h1, h2, h3⟩
    · exact h.elim
  rename_i e; rw [if_neg e]
  split at h
  · rename_i e; rw [if_pos e]
    split at h
    · obtain ⟨ys, h1, h3⟩ := h
      exact mt_clear pins s σ H _ _ v us Q I rx r ⟨_, ys, rfl, rfl, h1, h3⟩
    · exact h.elim
  rename_i e; rw [if_neg e]
  split at h
  · rename_i e; rw [if_pos e]
    split at h
    · obtain ⟨ys, j, z, h1, h2, h3, h4, h5, h6, h7⟩ := h
      exact mt_index pins s σ H _ _ v us Q I rx r ⟨_, ys, _, j, z, rfl, rfl, .inl (.inl h1), h2, h3, h4, h5, h6, h7⟩
    · exact h.elim
  · exact h.elim
theorem get_list : PGet X (fun o i H Q => ∃ p xs k j v, o = .ref p ∧ i = .int k ∧ H p = some (.lst xs) ∧ 0 ≤ k ∧ k.toNat = j ∧ xs[j]? = some v ∧ Q v H) := by
  intro pins s σ H o i ov iv Q I ro ri h
  obtain ⟨p, xs, k, j, v, rfl, rfl, hp, h0, rfl, hv, q⟩ := h
  cases ro
  obtain ⟨t, rfl⟩ := ri
  obtain ⟨its, r, pl, hz⟩ := I.list (xs := xs) (.inl (.inl hp))
  obtain ⟨w, ew, rw'⟩ := r.get hv
  have hlt : k.toNat < xs.length := (List.getElem?_eq_some_iff.mp hv).1
  have hn := line63
  exact wpAny_getItem_list pl.isList h0 (by omega) (by simpa using ew) ⟨v, H, I, rw', q⟩
end
end VC

namespace VC
open PySem PySem.Spec PyProof.Rows L2

def visB (sc : Scope) (x : Str) : Bool := match sc.names.lookup x with
  | some .local => true
  | some .cell => true
  | some .free => true
  | _ => false
theorem visB_ok {sc : Scope} {x : Str} (h : visB sc x = true) : Vis sc x := by
  unfold visB at h
  split at h
  · exact .inl (by assumption)
  · exact .inr (.inl (by assumption))
  · exact .inr (.inr (by assumption))
  · cases h
def locB (sc : Scope) (x : Str) : Bool := match sc.names.lookup x with
  | some .local => true
  | some .cell => true
  | _ => false
theorem locB_ok {sc : Scope} {x : Str} (h : locB sc x = true) : L2.Loc sc x := by
  unfold locB at h
  split at h
  · exact .inl (by assumption)
  · exact .inr (by assumption)
  · cases h
def localB (sc : Scope) (x : Str) : Bool := match sc.names.lookup x with
  | some .local => true
  | _ => false
theorem localB_ok {sc : Scope} {x : Str} (h : localB sc x = true) : sc.names.lookup x = some .local := by
  unfold localB at h
  split at h
  · assumption
  · cases h
def glB (sc : Scope) (x : Str) : Bool := (match sc.names.lookup x with
  | some .globalImplicit => true
  | _ => false) && !(x == ("__debug__" : Str)) && !(x == ("__name__" : Str))
theorem glB_ok {sc : Scope} {x : Str} (h : glB sc x = true) : sc.names.lookup x = some .globalImplicit ∧ (x == ("__debug__" : Str)) = false ∧ x ≠ "__name__" := by
  unfold glB at h
  simp only [Bool.and_eq_true, Bool.not_eq_true'] at h
  obtain ⟨⟨h1, h2⟩, h3⟩ := h
  refine ⟨?_, h2, fun e => ?_⟩
  · split at h1
    · assumption
    · cases h1
  · rw [e] at h3; simp at h3

def conEq : Const → Const → Bool
  | .none, .none => true
  | .bool a, .bool b => a == b
  | .int a, .int b => a == b
  | .str a, .str b => a == b
  | _, _ => false
theorem conEq_ok {a b : Const} (h : conEq a b = true) : a = b ∧ (conV b).isSome = true := by
  unfold conEq at h
  split at h
  · exact ⟨rfl, rfl⟩
  · exact ⟨by rw [eq_of_beq h], rfl⟩
  · exact ⟨by rw [eq_of_beq h], rfl⟩
  · exact ⟨by rw [eq_of_beq h], rfl⟩
  · cases h

def bltNames : List Str := ["len", "int", "repr", "list", "sum", "max", "min", "all", "sorted", "range", "enumerate", "zip", "isinstance", "bool", "tuple", "str", "dict"]
def bltF (f : Str) : Bool := (["len", "int", "repr", "list", "sum", "max", "min", "all", "sorted"] : List Str).contains f

def noSet : Expr → Bool
  | .Set _ _ _ => false
  | _ => true
theorem noSet_ok {e : Expr} (h : noSet e = true) (env : Env) (x : Value) : foldedSetIterable e env x = pure x := by
  cases e <;> first | rfl | (cases h)
def noComp : Expr → Bool
  | .ListComp _ _ _ _ => false
  | .SetComp _ _ _ _ => false
  | .DictComp _ _ _ _ _ => false
  | _ => true
theorem noComp_ok {e : Expr} (h : noComp e = true) (t : Option Expr) (l : Nat) (env : Env) : swapsWith e t l env = pure false := by
  cases e <;> first | rfl | (cases h)
def noStar : Expr → Bool
  | .Starred _ _ => false
  | _ => true
theorem noStar_ok {e : Expr} (h : noStar e = true) : ∀ z p, e ≠ .Starred z p := by
  intro z p q; subst q; cases h
def plainRecv : Expr → Bool
  | .Call _ _ _ _ => false
  | _ => true
theorem plainRecv_ok {o : Expr} (h : plainRecv o = true) (m : Str) (env : Env) (w : Sem Value) : attributeBase o m env w = w := by
  cases o <;> first | rfl | (cases h)
def noSlice : Expr → Bool
  | .Slice _ _ _ _ => false
  | _ => true
theorem noSlice_ok {e : Expr} (h : noSlice e = true) : PlainIx e := by
  intro o i
  cases e <;> first | rfl | (cases h)
theorem noSlice_aug {e : Expr} (h : noSlice e = true) (ov iv new : Value) : augStore e ov iv new = (do
    holding [new, ov, iv] (setItem ov iv new)
    release [new, ov, iv] []
    pure Flow.next) := by
  cases e <;> first | rfl | (cases h)
def plainTest : Expr → Bool
  | .UnaryOp .Not _ _ => false
  | .BoolOp _ _ _ => false
  | .IfExp _ _ _ _ => false
  | .Compare _ _ _ _ => false
  | _ => true
theorem plainTest_ok {e : Expr} (h : plainTest e = true) (env : Env) (whole : Sem Value) : PySem.isTrue e env whole = (do let v ← whole; standAt e.pos; holding [v] (truthy v)) := by
  cases e <;> first | rfl | (cases h) | skip
  rename_i op x p
  cases op <;> first | rfl | (cases h)

def ckTs (ok : Str → Bool) (N : List Str) : List Nat → List Expr → Bool
  | [], [] => true
  | j :: js, .Name x _ :: es => decide (N[j]? = some x) && ok x && ckTs ok N js es
  | _, _ => false
def ckTg (ok : Str → Bool) (N : List Str) : Tg → Expr → Bool
  | .name j, .Name x _ => decide (N[j]? = some x) && ok x
  | .tup js, .Tuple es _ _ => ckTs ok N js es
  | _, _ => false
def tgIn (vs : List Nat) : Tg → Bool
  | .name j => vs.contains j
  | .tup js => js.all fun j => vs.contains j

mutual
def ckE (kk : Str → Nat → List Str → Bool) (N : List Str) (sc : Scope) : Ex → Expr → Bool
  | .var i, e => match e with
    | .Name x _ => decide (N[i]? = some x) && visB sc x && !(x == ("__debug__" : Str)) && !(x == ("__classdict__" : Str))
    | _ => false
  | .mv i, e => match e with
    | .Name x _ => decide (N[i]? = some x) && visB sc x && !(x == ("__debug__" : Str)) && !(x == ("__classdict__" : Str))
    | _ => false
  | .us _ a, e => ckE kk N sc a e
  | .con c, e => match e with
    | .Constant d _ _ => conEq c d
    | _ => false
  | .glb x, e => match e with
    | .Name y _ => x == y && glB sc y
    | _ => false
  | .bin op a b, e => match e with
    | .BinOp x op' y _ => decide (op = op') && ckE kk N sc a x && ckE kk N sc b y
    | _ => false
  | .neg a, e => match e with
    | .UnaryOp .USub x _ => ckE kk N sc a x
    | _ => false
  | .cmp op a b, e => match e with
    | .Compare x [op'] [y] _ => decide (op = op') && ckE kk N sc a x && ckE kk N sc b y && noSet y
    | _ => false
  | .chn o p a b c, e => match e with
    | .Compare x [o', p'] [y, z] _ => decide (o = o') && decide (p = p') && ckE kk N sc a x && ckE kk N sc b y && ckE kk N sc c z && noSet y && noSet z
    | _ => false
  | .and a b, e => match e with
    | .BoolOp .And (x :: y :: r) p => ckE kk N sc a x && (match r with
      | [] => ckE kk N sc b y
      | _ => ckE kk N sc b (.BoolOp .And (y :: r) p))
    | _ => false
  | .or a b, e => match e with
    | .BoolOp .Or (x :: y :: r) p => ckE kk N sc a x && (match r with
      | [] => ckE kk N sc b y
      | _ => ckE kk N sc b (.BoolOp .Or (y :: r) p))
    | _ => false
  | .not a, e => match e with
    | .UnaryOp .Not x _ => ckE kk N sc a x
    | _ => false
  | .ite t a b, e => match e with
    | .IfExp z x y _ => ckT kk N sc t z && ckE kk N sc a x && ckE kk N sc b y
    | _ => false
  | .tup es, e => match e with
    | .Tuple xs _ _ => ckEs kk N sc es xs
    | _ => false
  | .lst es, e => match e with
    | .List xs _ => ckEs kk N sc es xs
    | _ => false
  | .idx a i, e => match e with
    | .Subscript x y _ => ckE kk N sc a x && ckE kk N sc i y && noSlice y
    | _ => false
  | .sl2 a lo hi, e => match e with
    | .Subscript x (.Slice (some l) (some h) none _) _ => ckE kk N sc a x && ckE kk N sc lo l && ckE kk N sc hi h
    | _ => false
  | .sl1 a lo, e => match e with
    | .Subscript x (.Slice (some l) none none _) _ => ckE kk N sc a x && ckE kk N sc lo l
    | _ => false
  | .sl0 a hi, e => match e with
    | .Subscript x (.Slice none (some h) none _) _ => ckE kk N sc a x && ckE kk N sc hi h
    | _ => false
  | .rev a, e => match e with
    | .Subscript x (.Slice none none (some (.UnaryOp .USub (.Constant (.int 1) _ _) _)) _) _ => ckE kk N sc a x
    | _ => false
  | .stp a lo k, e => match e with
    | .Subscript x (.Slice (some y) none (some (.Constant (.int j) _ _)) _) _ => decide (j = k) && ckE kk N sc a x && ckE kk N sc lo y
    | _ => false
  | .call f es ks kes, e => match e with
    | .Call (.Name x _) xs kws _ => f == x && glB sc x && kk x xs.length ks && ckEs kk N sc es xs && decide (kws.map (·.arg) = ks.map some) && ckKs kk N sc kes kws
    | _ => false
  | .blt f es, e => match e with
    | .Call (.Name x _) xs [] _ => f == x && glB sc x && bltF x && ckEs kk N sc es xs && !xs.isEmpty
    | _ => false
  | .isi a t, e => match e with
    | .Call (.Name f _) [x, .Name y _] [] _ => f == ("isinstance" : Str) && glB sc f && glB sc y && t == y && (["int", "bool", "list", "tuple", "str", "dict"] : List Str).contains y && ckE kk N sc a x && noStar x
    | _ => false
  | .lrg es, e => match e with
    | .Call (.Name f _) [.Call (.Name g _) xs [] _] [] _ => f == ("list" : Str) && glB sc f && g == ("range" : Str) && glB sc g && decide (1 ≤ xs.length ∧ xs.length ≤ 2) && ckEs kk N sc es xs
    | _ => false
  | .lzp a b, e => match e with
    | .Call (.Name f _) [.Call (.Name g _) [x, y] [] _] [] _ => f == ("list" : Str) && glB sc f && g == ("zip" : Str) && glB sc g && ckE kk N sc a x && noStar x && ckE kk N sc b y && noStar y
    | _ => false
  | .mth m o es, e => match e with
    | .Call (.Attribute x m' apos) xs [] cpos => m == m' && (["append", "pop", "clear", "index"] : List Str).contains m' && ckE kk N sc o x && ckEs kk N sc es xs && (apos.endLine == cpos.line) && decide (xs.length < 30) && plainRecv x
    | _ => false
  | .comp b tg it cs own, e => match e with
    | .ListComp x [⟨t, iter, ifs, 0⟩] scope _ => blkC N sc scope own && ckI kk N sc it t iter && noSet iter && ckTg (fun y => locB (relS scope sc) y && (localB (relS scope sc) y || decide (scope.names.lookup y = some .cell))) N tg t &&
        tgIn (own.map (·.2)) tg && ckC kk N (relS scope sc) cs ifs && ckE kk N (relS scope sc) b x
    | _ => false
def ckEs (kk : Str → Nat → List Str → Bool) (N : List Str) (sc : Scope) : Exs → List Expr → Bool
  | .nil, es => match es with
    | [] => true
    | _ => false
  | .cons e r, es => match es with
    | x :: xs => ckE kk N sc e x && noStar x && ckEs kk N sc r xs
    | _ => false
def ckKs (kk : Str → Nat → List Str → Bool) (N : List Str) (sc : Scope) : Exs → List Keyword → Bool
  | .nil, es => match es with
    | [] => true
    | _ => false
  | .cons e r, es => match es with
    | ⟨_, x, _⟩ :: xs => ckE kk N sc e x && ckKs kk N sc r xs
    | _ => false
def ckT (kk : Str → Nat → List Str → Bool) (N : List Str) (sc : Scope) : Ts → Expr → Bool
  | .us _ a, e => ckT kk N sc a e
  | .val a, e => plainTest e && ckE kk N sc a e
  | .cmp op a b, e => match e with
    | .Compare x [op'] [y] _ => decide (op = op') && ckE kk N sc a x && ckE kk N sc b y && noSet y
    | _ => false
  | .chn o p a b c, e => match e with
    | .Compare x [o', p'] [y, z] _ => decide (o = o') && decide (p = p') && ckE kk N sc a x && ckE kk N sc b y && ckE kk N sc c z && noSet y && noSet z
    | _ => false
  | .not a, e => match e with
    | .UnaryOp .Not x _ => ckT kk N sc a x
    | _ => false
  | .and a b, e => match e with
    | .BoolOp .And (x :: y :: r) p => ckT kk N sc a x && (match r with
      | [] => ckT kk N sc b y
      | _ => ckT kk N sc b (.BoolOp .And (y :: r) p))
    | _ => false
  | .or a b, e => match e with
    | .BoolOp .Or (x :: y :: r) p => ckT kk N sc a x && (match r with
      | [] => ckT kk N sc b y
      | _ => ckT kk N sc b (.BoolOp .Or (y :: r) p))
    | _ => false
def ckC (kk : Str → Nat → List Str → Bool) (N : List Str) (sc : Scope) : Cd → List Expr → Bool
  | .no, es => match es with
    | [] => true
    | _ => false
  | .one t, es => match es with
    | [x] => ckT kk N sc t x
    | _ => false
def ckI (kk : Str → Nat → List Str → Bool) (N : List Str) (sc : Scope) : Ir → Expr → Expr → Bool
  | .us _ a, t, e => ckI kk N sc a t e
  | .seq a, _, e => ckE kk N sc a e
  | .rng es, _, e => match e with
    | .Call (.Name g _) xs [] _ => g == ("range" : Str) && glB sc g && decide (1 ≤ xs.length ∧ xs.length ≤ 3) && ckEs kk N sc es xs
    | _ => false
  | .enm a, tg, e => match tg, e with
    | .Tuple _ _ _, .Call (.Name g _) [x] [] _ => g == ("enumerate" : Str) && glB sc g && ckE kk N sc a x && noStar x
    | _, _ => false
  | .zip a b, tg, e => match tg, e with
    | .Tuple _ _ _, .Call (.Name g _) [x, y] [] _ => g == ("zip" : Str) && glB sc g && ckE kk N sc a x && noStar x && ckE kk N sc b y && noStar y
    | _, _ => false
end

def allLocal (sc : Scope) (ts : List Expr) : Bool := ts.all fun | .Name id _ => localB sc id | _ => false
def swapB (sc : Scope) (ts vs : List Expr) : Bool :=
  (ts.length == 2 || ts.length == 3) && vs.length == ts.length && (vs.all noStar) &&
  (ts.all fun | .Name id pos => localB sc id && pos.line == (ts.head?.map (·.pos.line)).getD 0 | _ => false) && !(vs.all (foldedForSure 8)) && !(vs.all (constantsAlone 8))

mutual
def ckS (kk : Str → Nat → List Str → Bool) (N : List Str) (sc : Scope) : Sm → Stmt → Bool
  | .expr e, s => match s with
    | .Expr x _ => ckE kk N sc e x && noComp x
    | _ => false
  | .ret e, s => match s with
    | .Return (some x) _ => ckE kk N sc e x
    | _ => false
  | .retN, s => match s with
    | .Return none _ => true
    | _ => false
  | .asg i e, s => match s with
    | .Assign [.Name x p] v pos => decide (N[i]? = some x) && locB sc x && ckE kk N sc e v && (noComp v || (match v with
      | .ListComp _ [_] _ _ => true
      | _ => false))
    | _ => false
  | .unp is e, s => match s with
    | .Assign [.Tuple ts k p] v pos => ckTs (locB sc) N is ts && ckE kk N sc e v && noComp v && (match v with
      | .Tuple _ _ _ => !allLocal sc ts
      | _ => true)
    | _ => false
  | .par is es, s => match s with
    | .Assign [.Tuple ts _ _] (.Tuple vs _ _) _ => ckTs (localB sc) N is ts && decide is.Nodup && ckEs kk N sc es vs && swapB sc ts vs
    | _ => false
  | .setI o i e, s => match s with
    | .Assign [.Subscript x y _] v _ => ckE kk N sc e v && ckE kk N sc o x && ckE kk N sc i y && noSlice y && noComp v
    | _ => false
  | .setI2 o i o2 i2 e, s => match s with
    | .Assign [.Tuple [.Subscript x y _, .Subscript x2 y2 _] _ _] v _ => ckE kk N sc e v && ckE kk N sc o x && ckE kk N sc i y && noSlice y && (ckE kk N sc o2 x2 && ckE kk N sc i2 y2 && noSlice y2) && noComp v
    | _ => false
  | .aug i op e, s => match s with
    | .AugAssign (.Name x _) op' v _ => decide (N[i]? = some x) && locB sc x && decide (op = op') && ckE kk N sc e v
    | _ => false
  | .augI o i op e, s => match s with
    | .AugAssign (.Subscript x y _) op' v _ => ckE kk N sc o x && ckE kk N sc i y && noSlice y && decide (op = op') && ckE kk N sc e v
    | _ => false
  | .ife t a b, s => match s with
    | .If x p q _ => ckT kk N sc t x && ckSs kk N sc a p && ckSs kk N sc b q
    | _ => false
  | .forI tg it b, s => match s with
    | .For t iter body [] _ => ckI kk N sc it t iter && noSet iter && ckTg (locB sc) N tg t && ckSs kk N sc b body
    | _ => false
  | .whl t b, s => match s with
    | .While x body [] _ => ckT kk N sc t x && ckSs kk N sc b body
    | _ => false
  | .pass, s => match s with
    | .Pass _ => true
    | _ => false
  | .brk, s => match s with
    | .Break _ => true
    | _ => false
  | .cont, s => match s with
    | .Continue _ => true
    | _ => false
  | .never, _ => true
def ckSs (kk : Str → Nat → List Str → Bool) (N : List Str) (sc : Scope) : Ss → List Stmt → Bool
  | .nil, ss => match ss with
    | [] => true
    | _ => false
  | .cons a r, ss => match ss with
    | x :: xs => ckS kk N sc a x && ckSs kk N sc r xs
    | _ => false
end
end VC

namespace VC
open PySem PySem.Spec PyProof.Rows L2

def gNames : List Nat → TGs
  | [] => gNil
  | j :: js => gCons (gName j) (gNames js)
def tgR (K : PySem.W.Frag) : Tg → TG
  | .name j => gName j
  | .tup js => gTup K js.length (gNames js)
theorem gNames_of : ∀ {js : List Nat} {ys : List V} {σ : L2.St} {H : Hp} {Q : L2.St → Hp → Prop}, ys.length = js.length → Q (setAll σ js ys) H → gNames js ys σ H Q
  | [], [], _, _, _, _, q => ⟨rfl, q⟩
  | j :: js, y :: ys, σ, H, Q, h, q => ⟨y, ys, rfl, gNames_of (js := js) (ys := ys) (by simpa using h) q⟩
theorem gTup_of {K : PySem.W.Frag} {js : List Nat} {p : Addr} {ys : List V} {σ : L2.St} {H : Hp} {Q : L2.St → Hp → Prop} (hp : SqT K H p ys) (hl : ys.length = js.length) (q : Q (setAll σ js ys) H) : gTup K js.length (gNames js) (.ref p) σ H Q :=
  ⟨p, ys, rfl, hp, hl, gNames_of hl q⟩

structure SrcIs (K : PySem.W.Frag) (tg : Tg) (s : Src) (J : L2.It) : Prop where
  go : ∀ i H, s.ok K H → i < s.len → J.go i H
  stop : ∀ i H, s.ok K H → s.len ≤ i → J.stop i H
  yld : ∀ i H x H' σ Q, s.ok K H → J.yld i H x H' → s.step K tg i σ H Q → tgR K tg x σ H' Q

section
variable {K : PySem.W.Frag} {tg : Tg}
theorem src_lst (a : Addr) (xs : List V) : SrcIs K tg (.lst a xs) (Itl K a) where
  go := fun i H h hi => ⟨xs, xs[i]'hi, h, List.getElem?_eq_getElem hi⟩
  stop := fun i H h hi => ⟨xs, h, hi⟩
  yld := fun i H x H' σ Q h hy hs => by
    obtain ⟨rfl, hy⟩ := hy
    have ex := hy xs h
    cases tg with
    | name j =>
      obtain ⟨x', e, q⟩ := hs
      rw [ex] at e; cases e
      exact q
    | tup js =>
      obtain ⟨p, e, q⟩ := hs
      rw [ex] at e; cases e
      obtain ⟨ys, h1, h2, h3⟩ := q.to
      exact gTup_of h1 h2 h3
theorem src_tup (a : Addr) (xs : List V) : SrcIs K tg (.tup a xs) (Itt K a) where
  go := fun i H h hi => ⟨xs, xs[i]'hi, h, List.getElem?_eq_getElem hi⟩
  stop := fun i H h hi => ⟨xs, h, hi⟩
  yld := fun i H x H' σ Q h hy hs => by
    obtain ⟨rfl, hy⟩ := hy
    have ex := hy xs h
    cases tg with
    | name j =>
      obtain ⟨x', e, q⟩ := hs
      rw [ex] at e; cases e
      exact q
    | tup js =>
      obtain ⟨p, e, q⟩ := hs
      rw [ex] at e; cases e
      obtain ⟨ys, h1, h2, h3⟩ := q.to
      exact gTup_of h1 h2 h3
theorem src_rng (lo : Int) (n : Nat) : SrcIs K tg (.rng lo 1 n) (Itr lo n) where
  go := fun i H _ hi => hi
  stop := fun i H _ hi => hi
  yld := fun i H x H' σ Q h hy hs => by
    obtain ⟨rfl, rfl⟩ := hy
    cases tg with
    | name j =>
      have q : Q (σ.set j (some (.int (lo + (i : Nat) * 1)))) H' := hs
      rw [Int.mul_one] at q
      exact q
    | tup js => exact hs.elim
theorem src_rngC (lo c : Int) (n : Nat) : SrcIs K tg (.rng lo c n) (Itc lo c n) where
  go := fun i H _ hi => hi
  stop := fun i H _ hi => hi
  yld := fun i H x H' σ Q h hy hs => by
    obtain ⟨rfl, rfl⟩ := hy
    cases tg with
    | name j => exact hs
    | tup js => exact hs.elim
theorem src_enm (a : Addr) (xs : List V) : SrcIs K tg (.enm a xs) (Ite K a) where
  go := fun i H h hi => ⟨xs, xs[i]'hi, h, List.getElem?_eq_getElem hi⟩
  stop := fun i H h hi => ⟨xs, h, hi⟩
  yld := fun i H x H' σ Q h hy hs => by
    obtain ⟨T, y, rfl, hT, rfl, hy⟩ := hy
    have ex := hy xs h
    simp only [Src.step] at hs
    split at hs
    · rename_i j k
      obtain ⟨x', e, q⟩ := hs
      rw [ex] at e; cases e
      exact gTup_of (js := [j, k]) (.inl (.inl upd_same)) rfl (q _ (same_new hT))
    · exact hs.elim
theorem src_zip (a b : Addr) (xs ys : List V) : SrcIs K tg (.zip a b xs ys) (Itz K a b) where
  go := fun i H h hi => by
    have h1 : i < xs.length := by have : i < min xs.length ys.length := hi; omega
    have h2 : i < ys.length := by have : i < min xs.length ys.length := hi; omega
    exact ⟨xs, ys, xs[i], ys[i], h.1, h.2, by simp [h1], by simp [h2]⟩
  stop := fun i H h hi => ⟨xs, ys, h.1, h.2, by have : min xs.length ys.length ≤ i := hi; omega⟩
  yld := fun i H x H' σ Q h hy hs => by
    obtain ⟨T, y, z, rfl, hT, rfl, hy, hz⟩ := hy
    have ex := hy xs h.1
    have ez := hz ys h.2
    simp only [Src.step] at hs
    split at hs
    · rename_i j k
      obtain ⟨x', y', e, e2, q⟩ := hs
      rw [ex] at e; cases e
      rw [ez] at e2; cases e2
      exact gTup_of (js := [j, k]) (.inl (.inl upd_same)) rfl (q _ (same_new hT))
    · exact hs.elim

theorem forW_to {s : Src} {J : L2.It} (h : SrcIs K tg s J) {tb : TS} {D : Ends} {σ : L2.St} {H : Hp} (hw : forW K s tg tb D σ H) :
    ∃ W : Nat → Nat → L2.St → Hp → Prop, (∃ m, W 0 m σ H) ∧ ∀ i m σ H, W i m σ H →
      (J.stop i H ∧ D.nx σ H) ∨ (J.go i H ∧ ∃ N : L2.St → Hp → Prop, (∀ σ' H', N σ' H' → ∃ m', m' < m ∧ W (i + 1) m' σ' H') ∧
        ∀ x H', J.yld i H x H' → tgR K tg x σ H' fun σ2 H2 => tb { nx := N, rt := D.rt, bk := D.nx, ct := N } σ2 H2) := by
  obtain ⟨W, w0, wt, wd⟩ := hw
  refine ⟨fun i m σ H => i + m = s.len ∧ W i σ H, ⟨s.len, by omega, w0⟩, ?_⟩
  rintro i m σ H ⟨hi, hw⟩
  by_cases hlt : i < s.len
  · obtain ⟨h1, h2⟩ := wt i σ H hlt hw
    refine .inr ⟨h.go i H h1 hlt, W (i + 1), fun σ' H' q => ⟨m - 1, by omega, by omega, q⟩, ?_⟩
    intro x H' hy
    exact h.yld i H x H' σ _ h1 hy h2
  · have e : i = s.len := by omega
    subst e
    obtain ⟨h1, h2⟩ := wd σ H hw
    exact .inl ⟨h.stop _ H h1 (Nat.le_refl _), h2⟩

theorem wipe_set {σ : L2.St} {vs : List Nat} {j : Nat} {x : Option V} (h : j ∈ vs) : wipe (σ.set j x) vs = wipe σ vs := by
  induction vs with
  | nil => cases h
  | cons v vs ih =>
    show (wipe (σ.set j x) vs).set v none = (wipe σ vs).set v none
    by_cases hv : j ∈ vs
    · rw [ih hv]
    · have e : j = v := by
        rcases List.mem_cons.mp h with e | e
        · exact e
        · exact absurd e hv
      subst e
      have : ∀ (ws : List Nat), j ∉ ws → (wipe (σ.set j x) ws) = (wipe σ ws).set j x := by
        intro ws
        induction ws with
        | nil => intro _; rfl
        | cons w ws ih2 =>
          intro hw
          show (wipe (σ.set j x) ws).set w none = ((wipe σ ws).set w none).set j x
          rw [ih2 fun z => hw (List.mem_cons_of_mem _ z), List.set_comm _ _ (fun z => hw (by rw [z]; exact List.mem_cons_self))]
      rw [this vs hv, List.set_set]
theorem wipe_idem (σ : L2.St) (vs : List Nat) : wipe (wipe σ vs) vs = wipe σ vs := by
  have : ∀ ws : List Nat, (∀ w ∈ ws, w ∈ vs) → wipe (wipe σ ws) vs = wipe σ vs := by
    intro ws
    induction ws with
    | nil => intro _; rfl
    | cons w ws ih =>
      intro h
      show wipe ((wipe σ ws).set w none) vs = wipe σ vs
      rw [wipe_set (h w List.mem_cons_self), ih fun z hz => h z (List.mem_cons_of_mem _ hz)]
  exact this vs fun _ h => h
theorem wipe_setAll {vs : List Nat} : ∀ {js : List Nat} {ys : List V} {σ : L2.St}, (∀ j ∈ js, j ∈ vs) → wipe (setAll σ js ys) vs = wipe σ vs
  | [], _, _, _ => by rfl
  | _ :: _, [], _, _ => by rfl
  | j :: js, y :: ys, σ, h => by
    show wipe (setAll (σ.set j (some y)) js ys) vs = _
    rw [wipe_setAll fun z hz => h z (List.mem_cons_of_mem _ hz), wipe_set (h j List.mem_cons_self)]
theorem step_and {s : Src} {i : Nat} {σ : L2.St} {H : Hp} {Q : L2.St → Hp → Prop} {vs : List Nat} (ht : tgIn vs tg = true) (h : s.step K tg i (wipe σ vs) H Q) : s.step K tg i (wipe σ vs) H fun σ2 H2 => wipe σ2 vs = wipe σ vs ∧ Q σ2 H2 := by
  have one : ∀ j x, j ∈ vs → wipe ((wipe σ vs).set j x) vs = wipe σ vs := fun j x hj => by rw [wipe_set hj, wipe_idem]
  cases s with
  | lst a xs =>
    cases tg with
    | name j =>
      obtain ⟨x, e, q⟩ := h
      exact ⟨x, e, one j _ (by simpa [tgIn] using ht), q⟩
    | tup js =>
      obtain ⟨p, e, q⟩ := h
      refine ⟨p, e, ?_⟩
      unfold onT at q ⊢
      split at q
      · exact ⟨q.1, by rw [wipe_setAll (by simpa [tgIn] using ht), wipe_idem], q.2⟩
      · exact q.elim
  | tup a xs =>
    cases tg with
    | name j =>
      obtain ⟨x, e, q⟩ := h
      exact ⟨x, e, one j _ (by simpa [tgIn] using ht), q⟩
    | tup js =>
      obtain ⟨p, e, q⟩ := h
      refine ⟨p, e, ?_⟩
      unfold onT at q ⊢
      split at q
      · exact ⟨q.1, by rw [wipe_setAll (by simpa [tgIn] using ht), wipe_idem], q.2⟩
      · exact q.elim
  | rng lo c n =>
    cases tg with
    | name j => exact ⟨one j _ (by simpa [tgIn] using ht), h⟩
    | tup js => exact h.elim
  | enm a xs =>
    simp only [Src.step] at h ⊢
    split at h
    · rename_i j k
      obtain ⟨x, e, q⟩ := h
      have hj : j ∈ vs ∧ k ∈ vs := by simpa [tgIn] using ht
      exact ⟨x, e, fun H1 sm => ⟨by rw [wipe_set hj.2, wipe_set hj.1, wipe_idem], q H1 sm⟩⟩
    · exact h.elim
  | zip a b xs ys =>
    simp only [Src.step] at h ⊢
    split at h
    · rename_i j k
      obtain ⟨x, y, e, e2, q⟩ := h
      have hj : j ∈ vs ∧ k ∈ vs := by simpa [tgIn] using ht
      exact ⟨x, y, e, e2, fun H1 sm => ⟨by rw [wipe_set hj.2, wipe_set hj.1, wipe_idem], q H1 sm⟩⟩
    · exact h.elim

theorem lcW_to {s : Src} {J : L2.It} (h : SrcIs K tg s J) {tt : TT} {te : TE} {σ : L2.St} {vs : List Nat} {d : Addr} {Q : VK} {H : Hp} (ht : tgIn vs tg = true)
    (hw : lcW K s tg tt te (wipe σ vs) d Q H) :
    ∃ W : Nat → Nat → Hp → Prop, (∃ m, W 0 m H) ∧ ∀ i m H, W i m H →
      (J.stop i H ∧ Q (.ref d) H) ∨ (J.go i H ∧ ∃ Nx : Hp → Prop, (∀ H', Nx H' → ∃ m', m' < m ∧ W (i + 1) m' H') ∧ ∀ x H', J.yld i H x H' → tgR K tg x (wipe σ vs) H' fun σ2 H2 => wipe σ2 vs = wipe σ vs ∧ tt σ2 H2 fun b H3 =>
        if b = true then te σ2 H3 fun y H4 => ∃ acc, H4 d = some (.lst acc) ∧ acc.length < sizeLine ∧ Nx (upd H4 d (.lst (acc ++ [y]))) else Nx H3) := by
  obtain ⟨W, w0, wt, wd⟩ := hw
  refine ⟨fun i m H => i + m = s.len ∧ W i H, ⟨s.len, by omega, w0⟩, ?_⟩
  rintro i m H ⟨hi, hw⟩
  by_cases hlt : i < s.len
  · obtain ⟨h1, h2⟩ := wt i H hlt hw
    refine .inr ⟨h.go i H h1 hlt, W (i + 1), fun H' q => ⟨m - 1, by omega, by omega, q⟩, ?_⟩
    intro x H' hy
    exact h.yld i H x H' _ _ h1 hy (step_and ht h2)
  · have e : i = s.len := by omega
    subst e
    obtain ⟨h1, h2⟩ := wd H hw
    exact .inl ⟨h.stop _ H h1 (Nat.le_refl _), h2⟩
end
end VC

namespace VC
open PySem PySem.Spec PyProof.Rows L2

structure Facts (T : Tab) (P : Program) (w : World) (K : PySem.W.Frag) (mg : Str → Option Value) (base : Heap) (k : Nat) : Prop where
  fn : ∀ x F, T.fns.lookup x = some F → ∃ f fd, mg x = some (.ref f) ∧ PySem.W.keepIn K (.ref f) = true ∧ FnG P w K mg base k f fd F.ps (SPn T K k x) ∧
    ∀ (n : Nat) (ks : List Str), T.way x n ks = true → ∀ (s : Shared) (us ws : List Value), K.In s.heap → us.length = n → ws.length = ks.length →
      BindsTo s fd ⟨us, ks.zip ws⟩ (F.ps.zip (arrange F.ps ks Value.none us ws))
  con : ∀ x v, T.cons.lookup x = some v → ∃ u, mg x = some u ∧ RelV v u
  blt : ∀ x ∈ bltNames, mg x = none

structure Gd (T : Tab) (k : Nat) (E : XK) (X : Cx) : Prop where
  calm : X.calm = true
  nd : X.N.Nodup
  kind : X.env.scope.kind = .function
  room : Room k X.A
  gu : X.A.guards = some []
  pass : Passes (L2.CX X.prog X.w) X E
  own : PassesOwn (model X.prog X.w) X.A X.env X.xe
  fx : Facts T X.prog X.w X.K X.mg X.base k

theorem Gd.blk {T : Tab} {k : Nat} {E : XK} {X : Cx} (g : Gd T k E X) {scope : Scope} (hk : scope.kind = .function) (s : Shared) (H : Hp) (C : Addr) (cl : List (Str × Addr)) (fp : List Addr) :
    Gd T k E0 (X.blk s H scope (compEnvC scope cl C X.env) fp) where
  calm := g.calm
  nd := g.nd
  kind := hk
  room := g.room
  gu := g.gu
  pass := passL
  own := PassesOwn.never
  fx := g.fx

theorem vals_lookup {p : Str} : ∀ {ks : List Str} {zs : List V} {ws : List Value}, Vals zs ws → RelV (((ks.zip zs).lookup p).getD .non) (((ks.zip ws).lookup p).getD Value.none)
  | [], _, _, _ => rfl
  | _ :: _, [], _, .nil => rfl
  | q :: ks, z :: zs, w :: ws, .cons r rs => by
    show RelV ((((q, z) :: ks.zip zs).lookup p).getD .non) ((((q, w) :: ks.zip ws).lookup p).getD Value.none)
    rw [List.lookup_cons, List.lookup_cons]
    cases hq : p == q with
    | true => exact r
    | false => exact vals_lookup rs
theorem vals_arrange {ps ks : List Str} {vs zs : List V} {us ws : List Value} (r : Vals vs us) (rz : Vals zs ws) : Vals (arrange ps ks V.non vs zs) (arrange ps ks Value.none us ws) := by
  unfold arrange
  split
  · exact r
  · rw [← r.length]
    refine r.append ?_
    generalize ps.drop vs.length = qs
    induction qs with
    | nil => exact .nil
    | cons q qs ih => exact .cons (vals_lookup rz) ih

theorem con_ok {X : Cx} {c : Const} {j : Nat} {pos : Pos} (h : (conV c).isSome = true) : PE X (.Constant c j pos) (fun _ H Q => match conV c with
    | some v => Q v H
    | none => False) := by
  cases c with
  | none => exact pe_non
  | bool b => exact pe_bl
  | int i => exact pe_int
  | str x => exact pe_str
  | _ => cases h

theorem blt_boot {f : Str} (h : bltF f = true) : (∃ id, bltV f = .builtin id ∧ bootBuiltins f = some (.builtin id)) ∨ (∃ T, bltV f = .type T ∧ bootBuiltins f = some (.type T)) := by
  unfold bltF at h
  simp only [List.contains_cons, List.contains_nil, Bool.or_eq_true, Bool.or_false, beq_iff_eq] at h
  rcases h with rfl | rfl | rfl | rfl | rfl | rfl | rfl | rfl | rfl
  · exact .inl ⟨"len", by decide +kernel, by decide +kernel⟩
  · exact .inr ⟨"int", by decide +kernel, by decide +kernel⟩
  · exact .inl ⟨"repr", by decide +kernel, by decide +kernel⟩
  · exact .inr ⟨"list", by decide +kernel, by decide +kernel⟩
  · exact .inl ⟨"sum", by decide +kernel, by decide +kernel⟩
  · exact .inl ⟨"max", by decide +kernel, by decide +kernel⟩
  · exact .inl ⟨"min", by decide +kernel, by decide +kernel⟩
  · exact .inl ⟨"all", by decide +kernel, by decide +kernel⟩
  · exact .inl ⟨"sorted", by decide +kernel, by decide +kernel⟩
theorem blt_name {f : Str} (h : bltF f = true) : f ∈ bltNames := by
  unfold bltF at h
  simp only [List.contains_cons, List.contains_nil, Bool.or_eq_true, Bool.or_false, beq_iff_eq] at h
  rcases h with rfl | rfl | rfl | rfl | rfl | rfl | rfl | rfl | rfl <;> decide +kernel

theorem pe_blt {X : Cx} {f : Str} {p pos : Pos} {e : Expr} {es : List Expr} {t : TA} (hc : X.calm = true) (hgu : X.A.guards = some []) (hu : X.A.units + 64 < cLine) (hf : bltF f = true) (hg : glB X.env.scope f = true) (hm : X.mg f = none)
    (ha : PA X (e :: es) t) (hs : ∀ x ∈ e :: es, ∀ z p, x ≠ .Starred z p) : PE X (.Call (.Name f p) (e :: es) [] pos) (fun σ H Q => t σ H fun vs H1 => bltW X.K f vs H1 Q) := by
  obtain ⟨g1, g2, g3⟩ := glB_ok hg
  have ok := bltW_ok hc hgu hu f
  have s1 := star_cons (es := es) (env := X.env) (hs e List.mem_cons_self)
  have s2 := noStar_any (pos := pos) (env := X.env) (es := es) fun x hx => hs x (List.mem_cons_of_mem _ hx)
  rcases blt_boot hf with ⟨id, e1, e2⟩ | ⟨T, e1, e2⟩
  · rw [e1] at ok
    exact pe_callB ok g1 hm e2 ha g3 g2 s1 s2
  · rw [e1] at ok
    exact pe_callTy ok g1 hm e2 ha g3 g2 s1 s2

theorem tyName_ok {K : PySem.W.Frag} {H : Hp} {x : V} {n : String} (h : tyName K H x = some n) : TyX K H x (.type n) := by
  unfold tyName at h
  split at h
  · cases h; exact .base .non
  · cases h; exact .base (.bl _)
  · cases h; exact .base (.int _)
  · cases h; exact .base (.str _)
  · split at h
    · cases h; exact .base (.lst (by assumption))
    · cases h; exact .base (.tup (by assumption))
    · cases h; exact .base (.dK (by assumption))
    · cases h; exact .base (.dT (by assumption))
    · cases h
  · cases h

theorem isi_boot {y : Str} (h : (["int", "bool", "list", "tuple", "str", "dict"] : List Str).contains y = true) : bootBuiltins y = some (.type y.toString) ∧ y ∈ bltNames := by
  simp only [List.contains_cons, List.contains_nil, Bool.or_eq_true, Bool.or_false, beq_iff_eq] at h
  rcases h with rfl | rfl | rfl | rfl | rfl | rfl <;> exact ⟨by decide +kernel, by decide +kernel⟩

def isiW (K : PySem.W.Frag) (xs : List V) (H : Hp) (Q : VK) : Prop := match xs with
  | [x, .ty T] => ∃ n b, tyName K H x = some n ∧ kitB n T = some b ∧ Q (.bl b) H
  | _ => False
theorem isiW_ok {X : Cx} : CallR X (.builtin "isinstance") (isiW X.K) := by
  intro pins s σ H xs us Q I r h
  unfold isiW at h
  split at h
  · obtain ⟨n, b, h1, h2, h3⟩ := h
    exact call_isi pins s σ H _ us Q I r ⟨_, _, .type n, _, b, rfl, .ty _, tyName_ok h1, kit_ty h2, h3⟩
  · exact h.elim
theorem pe_isi {X : Cx} {p p' pos : Pos} {e : Expr} {y : Str} {t : TE} (hg : glB X.env.scope "isinstance" = true) (hm : X.mg "isinstance" = none) (hy : glB X.env.scope y = true) (hmy : X.mg y = none)
    (hb : bootBuiltins y = some (.type y.toString)) (ha : PE X e t) (hs : ∀ z p, e ≠ .Starred z p) :
    PE X (.Call (.Name "isinstance" p) [e, .Name y p'] [] pos) (fun σ H Q => t σ H fun x H1 => ∃ n b, tyName X.K H1 x = some n ∧ kitB n y.toString = some b ∧ Q (.bl b) H1) := by
  obtain ⟨g1, g2, g3⟩ := glB_ok hg
  obtain ⟨y1, y2, y3⟩ := glB_ok hy
  have hyy : PE X (.Name y p') (tC (.ty y.toString)) := pe_bltn y1 hmy hb rfl y3 y2
  have s1 : starEach (e :: [Expr.Name y p']) X.env = (false, eval e X.env) :: starEach [Expr.Name y p'] X.env := star_cons hs
  exact pe_callB (pos := pos) (p := p) isiW_ok g1 hm (by decide +kernel) (pa_cons ha (pa_cons hyy pa_nil) s1) g3 g2 s1 rfl
end VC

namespace VC
open PySem PySem.Spec PyProof.Rows L2

section
variable {prog : Program} {w : World} {A : Around} {E : Value → Shared → Prop} {s : Shared}
theorem zp_no_len : typeLookup (.type "zip") "__len__" = pure none := am_miss_of_fast (by decide +kernel)
theorem zp_no_hint : typeLookup (.type "zip") "__length_hint__" = pure none := am_miss_of_fast (by decide +kernel)
def ZpSt (z TI TO i1 i2 l1 l2 S : Addr) (xs ys : Array Value) (i : Nat) (h : Heap) : Prop :=
  IsPair h TI (.ref i1) (.ref i2) ∧ h.IsListIter i1 l1 i ∧ h.IsListIter i2 l2 i ∧ h.IsList l1 xs ∧ h.IsList l2 ys ∧
    ((IsZip h z TI TO .none ∧ ∃ a b, IsPair h TO a b) ∨ ∃ T f oT, IsZipHeld h z TI TO T f ∧ h.get? T = some oT ∧ T ≠ z ∧ T ≠ i1 ∧ T ≠ i2 ∧ T ≠ S)
structure ZpG (xs ys : Array Value) (lo : Addr) (h : Heap) (ts : List Addr) : Prop where
  rise : ts.Pairwise (· < ·)
  above : ∀ a ∈ ts, lo < a
  two : ∀ (j : Nat) (a : Addr), ts[j]? = some a → ∃ x y, xs[j]? = some x ∧ ys[j]? = some y ∧ h.get? a = some { cls := .type "tuple", data := .seq #[x, y] }
variable {z TI TO i1 i2 l1 l2 S : Addr} {xs ys : Array Value}
theorem ZpSt.keep {i : Nat} {h h' : Heap} (x : ZpSt z TI TO i1 i2 l1 l2 S xs ys i h) (hk : ∀ b o, b ≠ S → h.get? b = some o → h'.get? b = some o) (n1 : TI ≠ S) (n2 : i1 ≠ S) (n3 : i2 ≠ S) (n4 : l1 ≠ S) (n5 : l2 ≠ S) (n6 : z ≠ S) (n7 : TO ≠ S) : ZpSt z TI TO i1 i2 l1 l2 S xs ys i h' := by
  obtain ⟨a1, a2, a3, a4, a5, a6⟩ := x
  refine ⟨hk _ _ n1 a1, a2.at fun o e => hk _ o n2 e, a3.at fun o e => hk _ o n3 e, a4.at fun o e => hk _ o n4 e, a5.at fun o e => hk _ o n5 e, ?_⟩
  rcases a6 with ⟨b1, p, q, b2⟩ | ⟨T, f, oT, b1, b2, r1, r2, r3, r4⟩
  · exact .inl ⟨hk _ _ n6 b1, p, q, hk _ _ n7 b2⟩
  · exact .inr ⟨T, f, oT, hk _ _ n6 b1, hk _ _ r4 b2, r1, r2, r3, r4⟩
theorem zp_item {i : Nat} {x y : Value} {Q : Option Value → Shared → Prop} (D : ZipApart z TI TO i1 i2 l1 l2) (st : ZpSt z TI TO i1 i2 l1 l2 S xs ys i s.heap) (hS : S < s.heap.objs.size) (ex : xs[i]? = some x) (ey : ys[i]? = some y)
    (hQ : ∀ h', ZpSt z TI TO i1 i2 l1 l2 S xs ys (i + 1) h' → h'.get? s.heap.objs.size = some { cls := .type "tuple", data := .seq #[x, y] } → h'.objs.size = s.heap.objs.size + 1 →
      (∀ c o, c ∉ [z, TO, i1, i2] → s.heap.get? c = some o → h'.get? c = some o) → Q (some (.ref s.heap.objs.size)) { s with heap := h' }) :
    wpAny (model prog w) A (pyNext (.ref z)) Q E s := by
  obtain ⟨hTI, h1, h2, hl1, hl2, hz⟩ := st
  have new : ∀ {c o}, s.heap.get? c = some o → s.heap.objs.size ≠ c := fun e => Nat.ne_of_gt (Heap.lt_size e)
  have n1 : s.heap.objs.size ≠ i1 := let ⟨_, e, _⟩ := h1; new e
  have n2 : s.heap.objs.size ≠ i2 := let ⟨_, e, _⟩ := h2; new e
  rcases hz with ⟨hz, a, b, hTO⟩ | ⟨T, f, oT, hz, hT, r1, r2, r3, r4⟩
  · refine wpAny_pyNext_zip_item D hz hTI hTO h1 h2 hl1 hl2 ex ey fun h' a1 a2 a3 a4 a5 a6 hk => ?_
    exact hQ h' ⟨hk _ _ D.TIz D.TITO D.TIi1 D.TIi2 hTI, a3, a4, hl1.at fun o e => hk _ o D.l1z D.l1TO D.l1i1 D.l1i2 e, hl2.at fun o e => hk _ o D.l2z D.l2TO D.l2i1 D.l2i2 e,
        .inr ⟨s.heap.objs.size, false, _, a1, a5, new hz, n1, n2, Nat.ne_of_gt hS⟩⟩ a5 a6
      fun c o hc e => hk c o (fun v => hc (by simp [v])) (fun v => hc (by simp [v])) (fun v => hc (by simp [v])) (fun v => hc (by simp [v])) e
  · refine wpAny_pyNext_zip_item_held D hz hT hTI h1 h2 hl1 hl2 ex ey fun h' a1 a3 a4 a5 a6 hk => ?_
    exact hQ h' ⟨hk _ _ D.TIz D.TIi1 D.TIi2 hTI, a3, a4, hl1.at fun o e => hk _ o D.l1z D.l1i1 D.l1i2 e, hl2.at fun o e => hk _ o D.l2z D.l2i1 D.l2i2 e,
        .inr ⟨T, true, oT, a1, hk _ _ r1 r2 r3 hT, r1, r2, r3, r4⟩⟩ a5 a6
      fun c o hc e => hk c o (fun v => hc (by simp [v])) (fun v => hc (by simp [v])) (fun v => hc (by simp [v])) e
theorem zp_end {i : Nat} {Q : Option Value → Shared → Prop} (hh : A.handled = none) (D : ZipApart z TI TO i1 i2 l1 l2) (st : ZpSt z TI TO i1 i2 l1 l2 S xs ys i s.heap) (he : xs[i]? = none ∨ ys[i]? = none)
    (hQ : ∀ h', (∀ c o, c ∉ [z, TO, i1, i2] → s.heap.get? c = some o → h'.get? c = some o) → Q none { s with heap := h' }) :
    wpAny (model prog w) A (pyNext (.ref z)) Q E s := by
  obtain ⟨hTI, h1, h2, hl1, hl2, hz⟩ := st
  rcases hz with ⟨hz, a, b, hTO⟩ | ⟨T, f, oT, hz, hT, r1, r2, r3, r4⟩
  · exact wpAny_pyNext_zip_end hh D hz hTI hTO h1 h2 hl1 hl2 he fun h' hk => hQ h' fun c o hc e => hk c o (fun v => hc (by simp [v])) (fun v => hc (by simp [v])) (fun v => hc (by simp [v])) (fun v => hc (by simp [v])) e
  · exact wpAny_pyNext_zip_end_held hh D hz hT hTI h1 h2 hl1 hl2 he fun h' hk => hQ h' fun c o hc e => hk c o (fun v => hc (by simp [v])) (fun v => hc (by simp [v])) (fun v => hc (by simp [v])) e
theorem zp_out {a : Addr} (hl : z < S ∧ TO < S ∧ i1 < S ∧ i2 < S) (ha : S < a) : a ∉ [z, TO, i1, i2] := by
  intro hm
  simp only [List.mem_cons, List.not_mem_nil, or_false] at hm
  rcases hm with rfl | rfl | rfl | rfl
  · exact Nat.lt_asymm ha hl.1
  · exact Nat.lt_asymm ha hl.2.1
  · exact Nat.lt_asymm ha hl.2.2.1
  · exact Nat.lt_asymm ha hl.2.2.2
theorem zp_loop {R : Result → Shared → Prop} {n : Nat} (hh : A.handled = none) (D : ZipApart z TI TO i1 i2 l1 l2) (hl : z < S ∧ TO < S ∧ i1 < S ∧ i2 < S) (hl2 : TI < S ∧ l1 < S ∧ l2 < S) (en : n = min xs.size ys.size) (hn : n ≤ sizeLine) (res : Value) {h₁ : Heap}
    (hR : ∀ h' tk acc c ts, (∀ b o, b ∉ [z, TO, i1, i2] → b ≠ S → h₁.get? b = some o → h'.get? b = some o) → h'.get? S = some { cls := .type "list", dict := none, data := .seq acc c, slots := #[] } → ts.length = n → ZpG xs ys S h' ts →
      acc.toList = ts.map Value.ref → R (.ok (.ret res)) { s with heap := h', toks := tk }) :
    ∀ (k i : Nat) (h : Heap) (tk c : Nat) (acc : Array Value) (ts : List Addr), n - i = k → i ≤ n → ZpSt z TI TO i1 i2 l1 l2 S xs ys i h → (∀ b o, b ∉ [z, TO, i1, i2] → b ≠ S → h₁.get? b = some o → h.get? b = some o) →
      h.get? S = some { cls := .type "list", dict := none, data := .seq acc c, slots := #[] } → acc.toList = ts.map Value.ref → ts.length = i → ZpG xs ys S h ts →
      codeAny (model prog w) A (.builtin "list.extend.loop" ⟨[.ref S, .ref z, res], []⟩) R { s with heap := h, toks := tk } := by
  have hSo : S ∉ [z, TO, i1, i2] := by
    intro hm
    simp only [List.mem_cons, List.not_mem_nil, or_false] at hm
    rcases hm with e | e | e | e
    · exact Nat.ne_of_gt hl.1 e
    · exact Nat.ne_of_gt hl.2.1 e
    · exact Nat.ne_of_gt hl.2.2.1 e
    · exact Nat.ne_of_gt hl.2.2.2 e
  intro k
  induction k with
  | zero =>
    intro i h tk c acc ts hk hi st keep hS hacc hal G
    refine (codeAny_builtin PySem.F.entry_extend_loop ?_)
    rw [Around.under_plainId PySem.F.plain_extend_loop _]; show wpAny _ A.in1 (pyNext (.ref z) >>= _) _ _ _
    have hend : xs[i]? = none ∨ ys[i]? = none := by
      have : i = min xs.size ys.size := by omega
      rcases Nat.le_total xs.size ys.size with q | q
      · exact .inl (Array.getElem?_eq_none (by omega))
      · exact .inr (Array.getElem?_eq_none (by omega))
    refine wpAny_bind (zp_end (s := { s with heap := h, toks := tk }) (A := A.in1) hh D st hend fun h' he => ?_)
    refine wpAny_pure (hR h' tk acc c ts (fun b o q1 q2 e => he b o q1 (keep b o q1 q2 e)) (he S _ hSo hS) (by omega) ⟨G.rise, G.above, fun j a hj => ?_⟩ hacc)
    obtain ⟨x, y, e1, e2, e3⟩ := G.two j a hj
    exact ⟨x, y, e1, e2, he a _ (zp_out hl (G.above a (List.mem_of_getElem? hj))) e3⟩
  | succ k ih =>
    intro i h tk c acc ts hk hi st keep hS hacc hal G
    have hlt : i < n := by omega
    have q1 : i < xs.size := by omega
    have q2 : i < ys.size := by omega
    have ex := Array.getElem?_eq_getElem q1
    have ey := Array.getElem?_eq_getElem q2
    have hsz : acc.size = i := by rw [← Array.length_toList, hacc, List.length_map, hal]
    have hSl : S < h.objs.size := Heap.lt_size hS
    refine (codeAny_builtin PySem.F.entry_extend_loop ?_)
    rw [Around.under_plainId PySem.F.plain_extend_loop _]; show wpAny _ A.in1 (pyNext (.ref z) >>= _) _ _ _
    refine wpAny_bind (zp_item (s := { s with heap := h, toks := tk }) D st hSl ex ey fun h' st' ht hz hkp => ?_)
    dsimp only at ht hz hkp ⊢
    have hS' := hkp S _ hSo hS
    have up : ∀ b o, b ≠ S → h'.get? b = some o → (h'.update S (Obj.mapSeq (·.push (Value.ref h.objs.size)))).get? b = some o := fun b o hb e => by
      rw [Heap.get?_update_other _ _ (Ne.symm hb)]; exact e
    show wpAny _ A.in1 (updateSeq S (·.push (Value.ref h.objs.size)) >>= _) _ _ _; refine wpAny_bind ?_
    refine wpAny_updateSeq hS' rfl (wpAny_pure ⟨plainId_quiet PySem.F.plain_extend_loop _, ih (i + 1) _ tk _ (acc.push (Value.ref h.objs.size)) (ts ++ [h.objs.size]) (by omega) (by omega)
      (st'.keep up (Nat.ne_of_lt hl2.1) (Nat.ne_of_lt hl.2.2.1) (Nat.ne_of_lt hl.2.2.2) (Nat.ne_of_lt hl2.2.1) (Nat.ne_of_lt hl2.2.2) (Nat.ne_of_lt hl.1) (Nat.ne_of_lt hl.2.1)) (fun b o p1 p2 e => up b o p2 (hkp b o p1 (keep b o p1 p2 e)))
      (Heap.get?_update_self _ hS' rfl) (by rw [Array.toList_push, hacc, List.map_append]; rfl) (by rw [List.length_append, hal]; rfl) ⟨?_, ?_, ?_⟩⟩) (by rw [hsz]; omega) (by show (acc.push (Value.ref h.objs.size)).size ≤ sizeLine + 1; rw [Array.size_push, hsz]; omega)
    · refine List.pairwise_append.mpr ⟨G.rise, List.pairwise_singleton _ _, fun a ha b hb => ?_⟩
      obtain ⟨j, hj⟩ := List.mem_iff_getElem?.mp ha
      obtain ⟨_, _, _, _, e⟩ := G.two j a hj
      rw [List.mem_singleton.mp hb]; exact Heap.lt_size e
    · intro a ha
      rcases List.mem_append.mp ha with ha | ha
      · exact G.above a ha
      · rw [List.mem_singleton.mp ha]; exact hSl
    · intro j b hj
      rcases Nat.lt_trichotomy j ts.length with p | p | p
      · rw [List.getElem?_append_left p] at hj
        obtain ⟨x, y, e1, e2, e3⟩ := G.two j b hj
        have hb := G.above b (List.mem_of_getElem? hj)
        exact ⟨x, y, e1, e2, up b _ (Nat.ne_of_gt hb) (hkp b _ (zp_out hl hb) e3)⟩
      · subst p
        have hb : h.objs.size = b := by simpa using hj
        subst hb
        exact ⟨_, _, by rw [hal]; exact ex, by rw [hal]; exact ey, up _ _ (Nat.ne_of_gt hSl) ht⟩
      · rw [List.getElem?_eq_none (by rw [List.length_append, List.length_singleton]; omega)] at hj; cases hj
theorem zp_hint (hT : s.TypeIs (.ref z) "zip") {Q : Bool → Shared → Prop} (h : Q true s) : wpAny (model prog w) A (Builtin.List.listLengthHint (.ref z)) Q E s := by
  unfold Builtin.List.listLengthHint
  refine wpAny_bind (wpAny_specialOf hT zp_no_len ?_)
  show wpAny _ A (specialOf (Value.ref z) (Str.ofString "__length_hint__") >>= _) _ _ _
  refine wpAny_bind (wpAny_specialOf hT zp_no_hint ?_)
  exact wpAny_pure h
theorem zp_extend {R : Result → Shared → Prop} {n : Nat} (hh : A.handled = none) (D : ZipApart z TI TO i1 i2 l1 l2) (hl : z < S ∧ TO < S ∧ i1 < S ∧ i2 < S) (hl2 : TI < S ∧ l1 < S ∧ l2 < S) (en : n = min xs.size ys.size) (hn : n ≤ sizeLine) (res : Value) (c₀ : Nat)
    (hz : IsZip s.heap z TI TO .none) (st : ZpSt z TI TO i1 i2 l1 l2 S xs ys 0 s.heap) (hS : s.heap.get? S = some { cls := .type "list", data := .seq #[] c₀ })
    (hR : ∀ h' tk acc c ts, (∀ b o, b ∉ [z, TO, i1, i2] → b ≠ S → s.heap.get? b = some o → h'.get? b = some o) → h'.get? S = some { cls := .type "list", dict := none, data := .seq acc c, slots := #[] } → ts.length = n → ZpG xs ys S h' ts →
      acc.toList = ts.map Value.ref → R (.ok (.ret res)) { s with heap := h', toks := tk }) :
    wpAny (model prog w) A.in1 (Builtin.List.listExtendWith (.ref S) (.ref z) res)
      (fun fin s' => match fin with | .done f => R (.ok f) s' | .again c' => c'.quiet = true ∧ codeAny (model prog w) A c' R s') (fun e s' => R (.error e) s') s := by
  have hT : s.TypeIs (.ref z) "zip" := ⟨_, hz, rfl⟩
  have key : ∀ (h : Heap) (c₁ tk : Nat), (∀ b o, b ≠ S → s.heap.get? b = some o → h.get? b = some o) → h.get? S = some { cls := .type "list", data := .seq #[] c₁ } →
      codeAny (model prog w) A (.builtin "list.extend.loop" ⟨[.ref S, .ref z, res], []⟩) R { s with heap := h, toks := tk } := fun h c₁ tk hk hS₁ =>
    zp_loop (s := s) (h₁ := s.heap) hh D hl hl2 en hn res hR n 0 h tk c₁ #[] [] rfl (Nat.zero_le _)
      (st.keep hk (Nat.ne_of_lt hl2.1) (Nat.ne_of_lt hl.2.2.1) (Nat.ne_of_lt hl.2.2.2) (Nat.ne_of_lt hl2.2.1) (Nat.ne_of_lt hl2.2.2) (Nat.ne_of_lt hl.1) (Nat.ne_of_lt hl.2.1))
      (fun b o _ hb e => hk b o hb e) hS₁ rfl rfl ⟨List.Pairwise.nil, (fun _ ha => nomatch ha), fun j a hj => by simp at hj⟩
  unfold Builtin.List.listExtendWith
  refine wpAny_bind (wpAny_typeOf (T := "zip") hT ?_)
  have c1 : Builtin.List.listSameRef (.ref S) (.ref z) = false := by simp [Builtin.List.listSameRef, Nat.ne_of_gt hl.1]
  have c2 : (Value.type "zip" == Value.type "list") = false := by decide
  have c3 : (Value.type "zip" == Value.type "tuple") = false := by decide
  simp only [c1, c2, c3, Bool.or_false, Bool.false_eq_true, if_false]
  refine wpAny_bind (wpAny_pyIter_zip hz ?_)
  refine wpAny_bind (wpAny_holding (zp_hint hT ?_))
  refine wpAny_ite_split (fun _ => ?_) (fun hab => absurd rfl hab)
  refine wpAny_bind (wpAny_rule (wpAny_bind ?_))
  show wpAny _ _ (updateSeq S (·.push .none) >>= fun _ => updateSeq S (·.pop)) _ _ s
  refine wpAny_bind (wpAny_updateSeq hS rfl ?_)
  have t2 := Heap.get?_update_self (Obj.mapSeq (·.push Value.none)) hS rfl
  refine wpAny_updateSeq (hz := by seq_fits) t2 rfl ?_
  have t3 := Heap.get?_update_self (Obj.mapSeq (·.pop)) t2 rfl
  refine wpAny_pure ⟨plainId_quiet PySem.F.plain_extend_loop _, key _ _ _ (fun b o hb e => ?_) t3⟩
  rw [Heap.get?_update_other _ _ (Ne.symm hb), Heap.get?_update_other _ _ (Ne.symm hb)]; exact e
theorem zp_init {R : Result → Shared → Prop} {n : Nat} (hh : A.handled = none) (D : ZipApart z TI TO i1 i2 l1 l2) (hl : z < S ∧ TO < S ∧ i1 < S ∧ i2 < S) (hl2 : TI < S ∧ l1 < S ∧ l2 < S) (en : n = min xs.size ys.size) (hn : n ≤ sizeLine)
    (hz : IsZip s.heap z TI TO .none) (st : ZpSt z TI TO i1 i2 l1 l2 S xs ys 0 s.heap) (hS : s.heap.get? S = some { cls := .type "list", data := .seq #[] })
    (hR : ∀ h' tk acc c ts, (∀ b o, b ∉ [z, TO, i1, i2] → b ≠ S → s.heap.get? b = some o → h'.get? b = some o) → h'.get? S = some { cls := .type "list", dict := none, data := .seq acc c, slots := #[] } → ts.length = n → ZpG xs ys S h' ts →
      acc.toList = ts.map Value.ref → R (.ok (.ret .none)) { s with heap := h', toks := tk }) :
    wpAny (model prog w) A.in1 (Builtin.«list.__init__» ⟨[.ref S, .ref z], []⟩)
      (fun fin s' => match fin with | .done f => R (.ok f) s' | .again c' => c'.quiet = true ∧ codeAny (model prog w) A c' R s') (fun e s' => R (.error e) s') s := by
  show wpAny _ _ (do let old ← Builtin.List.listItems (.ref S); Builtin.List.listUpdate (.ref S) (fun _ => #[]); letGo old.toList.reverse; Builtin.List.listExtendWith (.ref S) (.ref z) .none) _ _ s
  refine wpAny_bind ?_; unfold Builtin.List.listItems
  refine wpAny_bind (wpAny_seqItems hS rfl (wpAny_pure ?_))
  show wpAny _ _ (updateSeq S (fun _ => #[]) >>= fun _ => letGo (#[] : Array Value).toList.reverse >>= fun _ => Builtin.List.listExtendWith (.ref S) (.ref z) .none) _ _ s
  refine wpAny_bind (wpAny_updateSeq hS rfl ?_)
  have t2 := Heap.get?_update_self (Obj.mapSeq (fun _ => (#[] : Array Value))) hS rfl
  have oth : ∀ b o, b ≠ S → s.heap.get? b = some o → (s.heap.update S (Obj.mapSeq (fun _ => (#[] : Array Value)))).get? b = some o := fun b o hb e => by
    rw [Heap.get?_update_other _ _ (Ne.symm hb)]; exact e
  refine wpAny_bind (wpAny_letGo ?_)
  refine zp_extend (n := n) hh D hl hl2 en hn .none _ (oth _ _ (Nat.ne_of_lt hl.1) hz) (st.keep oth (Nat.ne_of_lt hl2.1) (Nat.ne_of_lt hl.2.2.1) (Nat.ne_of_lt hl.2.2.2) (Nat.ne_of_lt hl2.2.1) (Nat.ne_of_lt hl2.2.2) (Nat.ne_of_lt hl.1) (Nat.ne_of_lt hl.2.1)) t2 fun h' tk acc c ts hk hS' q1 q2 q3 => ?_
  exact hR h' tk acc c ts (fun b o n1 hb e => hk b o n1 hb (oth b o hb e)) hS' q1 q2 q3
theorem zp_call {Q : Value → Shared → Prop} {n : Nat} (hh : A.handled = none) (D : ZipApart z TI TO i1 i2 l1 l2) (en : n = min xs.size ys.size) (hn : n ≤ sizeLine) (hz : IsZip s.heap z TI TO .none) (hTI : IsPair s.heap TI (.ref i1) (.ref i2)) (hTO : IsPair s.heap TO .none .none)
    (h1 : s.heap.IsListIter i1 l1 0) (h2 : s.heap.IsListIter i2 l2 0) (hl1 : s.heap.IsList l1 xs) (hl2 : s.heap.IsList l2 ys)
    (hQ : ∀ h' tk acc c ts, (∀ b o, b ∉ [z, TO, i1, i2] → s.heap.get? b = some o → h'.get? b = some o) → h'.get? s.heap.objs.size = some { cls := .type "list", dict := none, data := .seq acc c, slots := #[] } → ts.length = n → ZpG xs ys s.heap.objs.size h' ts →
      acc.toList = ts.map Value.ref → Q (.ref s.heap.objs.size) { s with heap := h', toks := tk }) :
    wpAny (model prog w) A (call (.type "list") [.ref z]) Q E s := by
  refine callType_codes (Q₁ := fun obj s₁ => obj = .ref s.heap.objs.size ∧ s₁ = { s with heap := s.heap.push { cls := .type "list", data := .seq #[] } }) PySem.F.called_list (PySem.F.typeCall_list_1 _) PySem.F.entry_list_init (code_list_new _ ⟨rfl, rfl⟩) fun obj s₁ q => ?_
  obtain ⟨rfl, rfl⟩ := q
  have hS : (s.heap.push { cls := .type "list", data := .seq #[] }).get? s.heap.objs.size = some { cls := .type "list", data := .seq #[] } := by exact Heap.get?_push_size _ rfl
  have lt : ∀ {b o}, s.heap.get? b = some o → b < s.heap.objs.size := fun e => Heap.lt_size e
  have up : ∀ {b o}, s.heap.get? b = some o → (s.heap.push { cls := .type "list", data := .seq #[] }).get? b = some o := fun e => Heap.get?_push_of_some _ e
  have a1 : i1 < s.heap.objs.size := let ⟨_, e, _⟩ := h1; lt e
  have a2 : i2 < s.heap.objs.size := let ⟨_, e, _⟩ := h2; lt e
  have a3 : l1 < s.heap.objs.size := let ⟨_, e, _⟩ := hl1; lt e
  have a4 : l2 < s.heap.objs.size := let ⟨_, e, _⟩ := hl2; lt e
  refine ⟨⟨_, hS, rfl⟩, PySem.F.args_list_init_2 _ _, zp_init (n := n) (A := A.in1) hh D ⟨lt hz, lt hTO, a1, a2⟩ ⟨lt hTI, a3, a4⟩ en hn (up hz) ⟨up hTI, h1.at fun o e => up e, h2.at fun o e => up e, hl1.at fun o e => up e, hl2.at fun o e => up e, .inl ⟨up hz, _, _, up hTO⟩⟩ hS fun h' tk acc c ts hk hS' q1 q2 q3 => ?_⟩
  exact ⟨rfl, hQ h' tk acc c ts (fun b o nb e => hk b o nb (Nat.ne_of_lt (lt e)) (up e)) hS' q1 q2 q3⟩
end
def putZ : Hp → List Addr → List (V × V) → Hp
  | H, a :: as, p :: ps => putZ (upd H a (.tup [p.1, p.2])) as ps
  | H, _, _ => H
theorem putZ_off {b : Addr} : ∀ (as : List Addr) (ps : List (V × V)) (H : Hp), b ∉ as → putZ H as ps b = H b
  | [], _, _, _ => rfl
  | _ :: _, [], _, _ => rfl
  | a :: as, p :: ps, H, h => by
    rw [putZ, putZ_off as ps _ (fun z => h (List.mem_cons_of_mem _ z)), upd_ne (fun z => h (by rw [z]; exact List.mem_cons_self))]
theorem putZ_at : ∀ (as : List Addr) (ps : List (V × V)) (H : Hp), as.Nodup → ∀ (j : Nat) (a : Addr) (p : V × V), as[j]? = some a → ps[j]? = some p → putZ H as ps a = some (.tup [p.1, p.2])
  | [], _, _, _, j, a, p, h, _ => by simp at h
  | _ :: _, [], _, _, j, a, p, _, h => by simp at h
  | a0 :: as, p0 :: ps, H, hn, 0, a, p, h1, h2 => by
    have hn' := List.nodup_cons.mp hn
    cases h1; cases h2
    rw [putZ, putZ_off as ps _ hn'.1, upd_same]
  | a0 :: as, p0 :: ps, H, hn, j + 1, a, p, h1, h2 => by
    rw [putZ]
    exact putZ_at as ps _ (List.nodup_cons.mp hn).2 j a p (by simpa using h1) (by simpa using h2)
section
variable {X : Cx}
theorem zp_laid {pins : List (Addr × Obj)} {σ : L2.St} {H : Hp} {s : Shared} {h' : Heap} {tk : Nat} {xs ys : List V} {us vs : List Value} {acc : Array Value} {c : Nat} {ts : List Addr} {S : Addr} (I : Inv X pins σ H s) (rx : Vals xs us) (ry : Vals ys vs) (hz : xs.length ≤ sizeLine)
    (hk : ∀ b o, s.heap.get? b = some o → h'.get? b = some o) (hSl : s.heap.objs.size ≤ S) (hS : h'.get? S = some { cls := .type "list", dict := none, data := .seq acc c, slots := #[] }) (hl : ts.length = min us.length vs.length) (G : ZpG us.toArray vs.toArray S h' ts) (hacc : acc.toList = ts.map Value.ref) :
    ∃ H' : Hp, Same H H' ∧ H S = none ∧ (∀ t, t ∈ ts → H t = none) ∧ ts.Nodup ∧ S ∉ ts ∧ ts.length = min xs.length ys.length ∧ H' S = some (.lst (ts.map V.ref)) ∧ (∀ (j : Nat) (t : Addr) (x y : V), ts[j]? = some t → xs[j]? = some x → ys[j]? = some y → H' t = some (.tup [x, y])) ∧ Inv X pins σ H' { s with heap := h', toks := tk } := by
  have lx : xs.length = us.length := Paired.length rx
  have ly : ys.length = vs.length := Paired.length ry
  have nS : S ∉ ts := fun z => Nat.lt_irrefl _ (G.above _ z)
  have nd : ts.Nodup := List.Pairwise.imp (fun {a b} (h : a < b) => Nat.ne_of_lt h) G.rise
  have new : ∀ t, t ∈ ts → H t = none := fun t ht => I.hok.fresh (Nat.le_of_lt (Nat.lt_of_le_of_lt hSl (G.above t ht)))
  have newS : H S = none := I.hok.fresh hSl
  have off : ∀ b, b ∉ ts → b ≠ S → putZ (upd H S (.lst (ts.map V.ref))) ts (xs.zip ys) b = H b := fun b h1 h2 => by rw [putZ_off ts _ _ h1, upd_ne h2]
  have low : ∀ b o, s.heap.get? b = some o → b ∉ ts ∧ b ≠ S := fun b o e => ⟨fun z => absurd (Heap.lt_size e) (Nat.not_lt.mpr (Nat.le_of_lt (Nat.lt_of_le_of_lt hSl (G.above b z)))), Nat.ne_of_lt (Nat.lt_of_lt_of_le (Heap.lt_size e) hSl)⟩
  have kp : Same H (putZ (upd H S (.lst (ts.map V.ref))) ts (xs.zip ys)) := fun b u e => by
    rw [off b (fun z => by rw [new b z] at e; cases e) (fun z => by rw [z, newS] at e; cases e)]; exact e
  have eS : putZ (upd H S (.lst (ts.map V.ref))) ts (xs.zip ys) S = some (.lst (ts.map V.ref)) := by rw [putZ_off ts _ _ nS, upd_same]
  have eT : ∀ (j : Nat) (t : Addr) (x y : V), ts[j]? = some t → xs[j]? = some x → ys[j]? = some y → putZ (upd H S (.lst (ts.map V.ref))) ts (xs.zip ys) t = some (.tup [x, y]) := fun j t x y h1 h2 h3 =>
    putZ_at ts (xs.zip ys) _ nd j t (x, y) h1 (by rw [List.getElem?_zip_eq_some]; exact ⟨h2, h3⟩)
  refine ⟨putZ (upd H S (.lst (ts.map V.ref))) ts (xs.zip ys), kp, newS, new, nd, nS, by omega, eS, eT, ?_⟩
  refine I.call' (ch := []) rfl ⟨fun b o q _ _ _ => hk b o q, fun b o q _ _ _ => ⟨o.slots, hk b o q⟩, fun b o q n _ => ?_, fun b o q _ => ⟨o, hk b o q⟩, fun b zs q => kp b _ q, fun b o u q => kp b _ q, fun b ps q => ⟨#[], by rw [kp b _ q]; simp⟩⟩ (fun b u q => ?_) I.bare fun b z => by simp at z
  · obtain ⟨z1, z2⟩ := low b o q
    rw [off b z1 z2]; exact n
  · by_cases hb : b ∈ ts
    · obtain ⟨j, hj⟩ := List.mem_iff_getElem?.mp hb
      obtain ⟨vx, vy, f1, f2, f3⟩ := G.two j b hj
      have jx : j < us.length := by
        have := (List.getElem?_eq_some_iff.mp hj).1
        omega
      have jy : j < vs.length := by
        have := (List.getElem?_eq_some_iff.mp hj).1
        omega
      obtain ⟨ux, g1, g2⟩ := Vals.get rx (List.getElem?_eq_getElem (show j < xs.length by omega))
      obtain ⟨uy, g3, g4⟩ := Vals.get ry (List.getElem?_eq_getElem (show j < ys.length by omega))
      have e1 : vx = ux := by rw [List.getElem?_toArray, g1] at f1; exact (Option.some.inj f1).symm
      have e2 : vy = uy := by rw [List.getElem?_toArray, g3] at f2; exact (Option.some.inj f2).symm
      subst e1; subst e2
      rw [eT j b _ _ hj (List.getElem?_eq_getElem (show j < xs.length by omega)) (List.getElem?_eq_getElem (show j < ys.length by omega))] at q
      cases q
      exact ⟨by show 2 ≤ sizeLine; decide, [vx, vy], .cons g2 (.cons g4 .nil), ⟨_, f3, rfl, _, rfl⟩⟩
    · by_cases hb2 : b = S
      · rw [hb2] at q ⊢
        rw [eS] at q
        cases q
        refine ⟨by rw [List.length_map]; omega, acc.toList, c, by rw [hacc]; exact L2.vals_refs ts, ?_⟩
        rw [Array.toArray_toList]; exact hS
      · rw [off b hb hb2] at q
        exact (I.hok b u q).stay (fun d v _ y => hk d v y) (fun d y => kp d _ y) fun d zs y => kp d _ y
def tLzp (K : PySem.W.Frag) (ta : TA) : TE := fun σ H Q => ta σ H fun vs H1 => ∃ a b xs ys, vs = [.ref a, .ref b] ∧ SqL K H1 a xs ∧ SqL K H1 b ys ∧
  ∀ (r : Addr) (ts : List Addr) (H2 : Hp), H1 r = none → Same H1 H2 → ts.length = min xs.length ys.length → ts.Nodup → r ∉ ts → (∀ t, t ∈ ts → H1 t = none) → H2 r = some (.lst (ts.map V.ref)) →
    (∀ (j : Nat) (t : Addr) (x y : V), ts[j]? = some t → xs[j]? = some x → ys[j]? = some y → H2 t = some (.tup [x, y])) → Q (.ref r) H2
theorem pe_lzp {e e2 : Expr} {ta : TA} {p p2 pos pos2 : Pos} (hc : X.calm = true) (hg : Gl X "list") (hm : X.mg "list" = none) (hg2 : Gl X "zip") (hm2 : X.mg "zip" = none) (ha : PA X [e, e2] ta)
    (na : starEach [.Call (.Name "zip" p2) [e, e2] [] pos2] X.env = (false, eval (.Call (.Name "zip" p2) [e, e2] [] pos2) X.env) :: starEach [] X.env := by rfl)
    (hs : starEach [e, e2] X.env = (false, eval e X.env) :: starEach [e2] X.env := by rfl) (hpl : (backTo pos2 (starEach [e2] X.env)).any (·.1) = false := by rfl) :
    PE X (.Call (.Name "list" p) [.Call (.Name "zip" p2) [e, e2] [] pos2] [] pos) (tLzp X.K ta) := by
  refine ⟨fun pins s σ H Q I h => ?_⟩
  refine Call_ (ld_blt I hg hm boot_list (PyProof.Rows.callWith_type1 (args_cons ?_ na) na))
  refine Call_ (ld_blt I hg2 hm2 PyProof.Rows.boot_zip (PyProof.Rows.callWith_type1 (thn (ha.run pos2 pins s σ H _ I h) fun us s1 ⟨vs, H1, I1, r1, q1⟩ => ?_) hs hpl))
  obtain ⟨a, b, xs, ys, ex, hqx, hqy, q⟩ := q1
  subst ex
  obtain ⟨_, _, rfl, r, rr⟩ : ∃ u1 u2, us = [u1, u2] ∧ RelV (.ref a) u1 ∧ RelV (.ref b) u2 := by
    cases r1 with
    | cons r rr => cases rr with
      | cons r' rr => cases rr; exact ⟨_, _, rfl, r, r'⟩
  cases r; cases rr
  obtain ⟨its, rv, p1, hzx⟩ := I1.list hqx
  obtain ⟨its2, rv2, p3, _⟩ := I1.list hqy
  refine call_zip_2 p1.isList p3.isList fun h2 hz hTI hTO k1 k2 hsz hk => ?_
  refine args_nil ?_
  have up1 : h2.IsList a its.toArray := p1.isList.at fun o e => hk _ o e
  have up2 : h2.IsList b its2.toArray := p3.isList.at fun o e => hk _ o e
  refine zp_call (s := { s1 with heap := h2 }) (n := min its.length its2.length) (I1.ok.hd hc) (PySem.W.ktu_apart s1.heap.objs.size a b p1.lt p3.lt) (by simp) (by have := Paired.length rv; omega) hz hTI hTO k1 k2 up1 up2 fun h' tk acc c ts hk2 hS hl G hacc => ?_
  have hkk : ∀ b o, s1.heap.get? b = some o → h'.get? b = some o := fun b o e => hk2 b o (fun hm => by
    have := Heap.lt_size e
    simp only [List.mem_cons, List.not_mem_nil, or_false] at hm
    rcases hm with z | z | z | z
    · exact absurd (z ▸ this) (Nat.not_lt.mpr (Nat.le_add_right _ _))
    · exact absurd (z ▸ this) (Nat.not_lt.mpr (Nat.le_add_right _ _))
    · exact absurd (z ▸ this) (Nat.lt_irrefl _)
    · exact absurd (z ▸ this) (Nat.not_lt.mpr (Nat.le_add_right _ _))) (hk b o e)
  have hSl : s1.heap.objs.size ≤ h2.objs.size := by rw [hsz]; exact Nat.le_add_right _ _
  obtain ⟨H', g1, g2, g3, g4, g5, g6, g7, g8, J⟩ := zp_laid (tk := tk) I1 rv rv2 hzx hkk hSl hS hl G hacc
  exact ⟨.ref _, H', J, rfl, q _ ts H' g2 g1 g6 g4 g5 g3 g7 g8⟩
end
end VC

namespace VC
open PySem PySem.Spec PyProof.Rows L2

theorem mth_slot {m : Str} (h : (["append", "pop", "clear", "index"] : List Str).contains m = true) : (mthT m).1 = "list" ∧ Slot "list" m (mthT m).2 ∧ typeOf (.builtin (mthT m).2) = pure (.type "method_descriptor") := by
  simp only [List.contains_cons, List.contains_nil, Bool.or_eq_true, Bool.or_false, beq_iff_eq] at h
  rcases h with rfl | rfl | rfl | rfl
  · exact ⟨by decide +kernel, PySem.F.slot_list_append, PySem.F.type_list_append⟩
  · exact ⟨by decide +kernel, PySem.F.slot_list_pop, PySem.F.type_list_pop⟩
  · exact ⟨by decide +kernel, PySem.F.slot_list_clear, PySem.F.type_list_clear⟩
  · exact ⟨by decide +kernel, PySem.F.slot_list_index, PySem.F.type_list_index⟩

theorem pg_names {X : Cx} {ok : Str → Bool} (hN : X.N.Nodup) (hok : ∀ x, ok x = true → L2.Loc X.env.scope x ∧ (X.fn x = true ∨ X.env.scope.names.lookup x = some .local)) : ∀ {js : List Nat} {es : List Expr}, ckTs ok X.N js es = true → PGs X es (gNames js) ∧ (assignEach es X.env).length = js.length ∧ (assignEach es X.env).findIdx? (·.1) = none
  | [], [], _ => ⟨pgs_nil, rfl, rfl⟩
  | j :: js, e :: es, h => by
    cases e <;> first | (cases h; done) | skip
    rename_i x p
    simp only [ckTs, Bool.and_eq_true, decide_eq_true_eq] at h
    obtain ⟨⟨h1, h2⟩, h3⟩ := h
    obtain ⟨r1, r2, r3⟩ := pg_names hN hok h3
    obtain ⟨l1, l2⟩ := hok x h2
    refine ⟨pgs_cons (pg_name hN h1 l1 l2) r1 rfl, ?_, ?_⟩
    · show (assignEach es X.env).length + 1 = js.length + 1
      rw [r2]
    · have e : assignEach (Expr.Name x p :: es) X.env = (false, assign (Expr.Name x p) X.env) :: assignEach es X.env := rfl
      rw [e, List.findIdx?_cons, r3]
      rfl
  | [], _ :: _, h => by cases h
  | _ :: _, [], h => by cases h
theorem pg_of {X : Cx} {ok : Str → Bool} (hc : X.calm = true) (hN : X.N.Nodup) (hok : ∀ x, ok x = true → L2.Loc X.env.scope x ∧ (X.fn x = true ∨ X.env.scope.names.lookup x = some .local)) {tg : Tg} {e : Expr} (h : ckTg ok X.N tg e = true) : PG X e (tgR X.K tg) := by
  cases tg with
  | name j =>
    cases e <;> first | (cases h; done) | skip
    simp only [ckTg, Bool.and_eq_true, decide_eq_true_eq] at h
    obtain ⟨l1, l2⟩ := hok _ h.2
    exact pg_name hN h.1 l1 l2
  | tup js =>
    cases e <;> first | (cases h; done) | skip
    obtain ⟨r1, r2, r3⟩ := pg_names hN hok (show ckTs ok X.N js _ = true from h)
    exact pg_tup hc r1 r2 r3

theorem noSet_marks {op : CmpOp} {e : Expr} (h : noSet e = true) : behindInMarks op e = false := by
  cases e <;> first | rfl | (cases h)

def PIw (X : Cx) (tg : Tg) (t iter : Expr) (wi : L2.St → Hp → (Src → Hp → Prop) → Prop) : Prop :=
  ∃ wi' : TI, PI X t iter wi' ∧ ∀ (σ : L2.St) (H : Hp) (R : Src → Hp → Prop) (R' : L2.It → Hp → Prop), (∀ s J H', SrcIs X.K tg s J → R s H' → R' J H') → wi σ H R → wi' σ H R'

def up (t : TE) : TE := fun σ H Q => ∃ Q' : VK, t σ H Q' ∧ ∀ v H', Q' v H' → Q v H'
theorem PE.up {X : Cx} {e : Expr} {t : TE} (h : PE X e t) : PE X e (up t) := ⟨fun pins s σ H Q I q => by
  obtain ⟨Q', h1, h2⟩ := q
  refine thn (h.run pins s σ H Q' I h1) ?_
  rintro u s' ⟨v, H', I', r, q'⟩
  exact ⟨v, H', I', r, h2 v H' q'⟩⟩
def upA (t : TA) : TA := fun σ H Q => ∃ Q' : List V → Hp → Prop, t σ H Q' ∧ ∀ v H', Q' v H' → Q v H'
theorem PA.up {X : Cx} {e : List Expr} {t : TA} (h : PA X e t) : PA X e (upA t) := ⟨fun pos pins s σ H Q I q => by
  obtain ⟨Q', h1, h2⟩ := q
  refine thn (h.run pos pins s σ H Q' I h1) ?_
  rintro u s' ⟨v, H', I', r, q'⟩
  exact ⟨v, H', I', r, h2 v H' q'⟩⟩

def iSeq (K : PySem.W.Frag) (tl : TE) : TI := fun σ H R => tl σ H fun x H1 => ∃ a, x = .ref a ∧ (((∃ xs, SqL K H1 a xs) ∧ R (Itl K a) H1) ∨ ((∃ xs, SqT K H1 a xs) ∧ R (Itt K a) H1))
theorem pi_seq {X : Cx} {tg l : Expr} {tl : TE} (hl : PE X l tl) : PI X tg l (iSeq X.K tl) := by
  refine ⟨fun pins s σ H R I h => ?_⟩
  refine thn (hl.run pins s σ H _ I h) fun v s1 ⟨x, H1, I1, r1, q1⟩ => ?_
  obtain ⟨a, e, q⟩ := q1
  subst e
  cases r1
  rcases q with ⟨⟨xs, hq⟩, q⟩ | ⟨⟨xs, hq⟩, q⟩
  · obtain ⟨its, rv, p, hz⟩ := I1.list hq
    refine wpAny_pyIter_list p.isList ?_
    refine ⟨s1.heap.objs.size, [s1.heap.objs.size], _, _, H1, rfl, I1.kept (t' := s1.toks) fun b o e => Heap.get?_push_of_some _ e, turn_list a _, ⟨_, Heap.get?_push_size _ rfl, rfl, rfl⟩, fun b hb => ?_, q⟩
    have e : b = s1.heap.objs.size := by simpa using hb
    subst e
    exact I1.fpOk (Nat.le_refl _) (I1.hok.fresh (Nat.le_refl _))
  · obtain ⟨its, rv, p, hz⟩ := I1.tuple hq
    refine wpAny_pyIter_tuple (show s1.heap.IsTuple a its.toArray from p) ?_
    refine ⟨s1.heap.objs.size, [s1.heap.objs.size], _, _, H1, rfl, I1.kept (t' := s1.toks) fun b o e => Heap.get?_push_of_some _ e, turn_tuple a _, ⟨_, Heap.get?_push_size _ rfl, rfl, rfl⟩, fun b hb => ?_, q⟩
    have e : b = s1.heap.objs.size := by simpa using hb
    subst e
    exact I1.fpOk (Nat.le_refl _) (I1.hok.fresh (Nat.le_refl _))
theorem piw_seq {X : Cx} {tg : Tg} {t e : Expr} {te : TE} (h : PE X e te) : PIw X tg t e (fun σ H R => te σ H fun x H1 => match x with
    | .ref a => onQ X.K H1 a (fun xs => R (.lst a xs) H1) (fun xs => R (.tup a xs) H1)
    | _ => False) := by
  refine ⟨iSeq X.K (up te), pi_seq (PE.up h), ?_⟩
  intro σ H R R' hR q
  refine ⟨_, q, ?_⟩
  intro v H' z
  split at z
  · rcases z.to with ⟨xs, z1, z2⟩ | ⟨xs, z1, z2⟩
    · exact ⟨_, rfl, .inl ⟨⟨xs, z1⟩, hR _ _ _ (src_lst _ _) z2⟩⟩
    · exact ⟨_, rfl, .inr ⟨⟨xs, z1⟩, hR _ _ _ (src_tup _ _) z2⟩⟩
  · exact z.elim
theorem piw_enm {X : Cx} {tg : Tg} {e : Expr} {te : TE} {elts : List Expr} {kk : Nat} {tpos p pos : Pos} (hg : glB X.env.scope "enumerate" = true) (hm : X.mg "enumerate" = none) (hs : ∀ z p, e ≠ .Starred z p) (h : PE X e te) :
    PIw X tg (.Tuple elts kk tpos) (.Call (.Name "enumerate" p) [e] [] pos) (fun σ H R => te σ H fun x H1 => match x with
    | .ref a => onL X.K H1 a fun xs => R (.enm a xs) H1
    | _ => False) := by
  have s1 : starEach [e] X.env = [(false, eval e X.env)] := star_cons hs
  refine ⟨_, pi_enum (glB_ok hg).1 hm (pa_cons (PE.up h) pa_nil s1) s1, ?_⟩
  intro σ H R R' hR q
  refine ⟨_, q, ?_⟩
  intro v H' z
  split at z
  · obtain ⟨xs, z1, z2⟩ := z.to
    exact ⟨_, xs, rfl, z1, hR _ _ _ (src_enm _ _) z2⟩
  · exact z.elim
theorem piw_zip {X : Cx} {tg : Tg} {e e2 : Expr} {te te2 : TE} {elts : List Expr} {kk : Nat} {tpos p pos : Pos} (hg : glB X.env.scope "zip" = true) (hm : X.mg "zip" = none) (hs : ∀ z p, e ≠ .Starred z p) (hs2 : ∀ z p, e2 ≠ .Starred z p) (h : PE X e te) (h2 : PE X e2 te2) :
    PIw X tg (.Tuple elts kk tpos) (.Call (.Name "zip" p) [e, e2] [] pos) (fun σ H R => te σ H fun x H1 => te2 σ H1 fun y H2 => match x, y with
    | .ref a, .ref b => onL X.K H2 a fun xs => onL X.K H2 b fun ys => R (.zip a b xs ys) H2
    | _, _ => False) := by
  have s1 : starEach [e, e2] X.env = (false, eval e X.env) :: starEach [e2] X.env := star_cons hs
  have s2 : starEach [e2] X.env = (false, eval e2 X.env) :: starEach [] X.env := star_cons hs2
  have s3 : (backTo pos (starEach [e2] X.env)).any (·.1) = false := noStar_any (by intro x hx; simp at hx; subst hx; exact hs2)
  refine ⟨_, pi_zip (glB_ok hg).1 hm (pa_cons (PE.up h) (pa_cons (PE.up h2) pa_nil s2) s1) s1 s3, ?_⟩
  intro σ H R R' hR q
  refine ⟨_, q, fun x H1 q1 => ⟨_, q1, ?_⟩⟩
  intro y H2 z
  show ∃ a b xs ys, [x, y] = [V.ref a, V.ref b] ∧ _
  split at z
  · obtain ⟨xs, z1, z2⟩ := z.to
    obtain ⟨ys, z3, z4⟩ := z2.to
    exact ⟨_, _, xs, ys, rfl, z1, z3, hR _ _ _ (src_zip _ _ _ _) z4⟩
  · exact z.elim
theorem pe_lzpW {X : Cx} {e e2 : Expr} {te te2 : TE} {p p2 pos pos2 : Pos} (hg : glB X.env.scope "list" = true) (hg2 : glB X.env.scope "zip" = true) (hm : X.mg "list" = none) (hm2 : X.mg "zip" = none) (hc : X.calm = true) (hs : ∀ z p, e ≠ .Starred z p) (hs2 : ∀ z p, e2 ≠ .Starred z p) (h : PE X e te) (h2 : PE X e2 te2) :
    PE X (.Call (.Name "list" p) [.Call (.Name "zip" p2) [e, e2] [] pos2] [] pos) (fun σ H Q => te σ H fun x H1 => te2 σ H1 fun y H2 => match x, y with
    | .ref a, .ref b => onL X.K H2 a fun xs => onL X.K H2 b fun ys => lzpW H2 xs ys Q
    | _, _ => False) := by
  have s1 : starEach [e, e2] X.env = (false, eval e X.env) :: starEach [e2] X.env := star_cons hs
  have s2 : starEach [e2] X.env = (false, eval e2 X.env) :: starEach [] X.env := star_cons hs2
  have s3 : (backTo pos2 (starEach [e2] X.env)).any (·.1) = false := noStar_any (by intro x hx; simp at hx; subst hx; exact hs2)
  refine PE.imp (pe_lzp hc (glB_ok hg).1 hm (glB_ok hg2).1 hm2 (pa_cons (PE.up h) (pa_cons (PE.up h2) pa_nil s2) s1) rfl s1 s3) ?_
  intro σ H Q q
  refine ⟨_, q, fun x H1 q1 => ⟨_, q1, ?_⟩⟩
  intro y H2 z
  show ∃ a b xs ys, [x, y] = [V.ref a, V.ref b] ∧ _
  split at z
  · obtain ⟨xs, z1, z2⟩ := z.to
    obtain ⟨ys, z3, z4⟩ := z2.to
    exact ⟨_, _, xs, ys, rfl, z1, z3, z4⟩
  · exact z.elim
theorem piw_rng1 {X : Cx} {tg : Tg} {t e : Expr} {te : TE} {p pos : Pos} (hg : glB X.env.scope "range" = true) (hm : X.mg "range" = none) (hs : ∀ z p, e ≠ .Starred z p) (h : PE X e te) :
    PIw X tg t (.Call (.Name "range" p) [e] [] pos) (fun σ H R => te σ H fun x H1 => rngW [x] fun lo st n => R (.rng lo st n) H1) := by
  have s1 : starEach [e] X.env = [(false, eval e X.env)] := star_cons hs
  refine ⟨_, pi_range1 (glB_ok hg).1 hm (pa_cons (PE.up h) pa_nil s1) s1, ?_⟩
  intro σ H R R' hR q
  refine ⟨_, q, ?_⟩
  intro x H1 z
  show ∃ j : Int, [x] = [V.int j] ∧ _
  cases x with
  | int j =>
    obtain ⟨z1, z2, z3⟩ := z
    exact ⟨j, rfl, z1, z2, hR _ _ _ (src_rng _ _) z3⟩
  | _ => exact z.elim
theorem piw_rng2 {X : Cx} {tg : Tg} {t e e2 : Expr} {te te2 : TE} {p pos : Pos} (hg : glB X.env.scope "range" = true) (hm : X.mg "range" = none) (hs : ∀ z p, e ≠ .Starred z p) (hs2 : ∀ z p, e2 ≠ .Starred z p) (h : PE X e te) (h2 : PE X e2 te2) :
    PIw X tg t (.Call (.Name "range" p) [e, e2] [] pos) (fun σ H R => te σ H fun x H1 => te2 σ H1 fun y H2 => rngW [x, y] fun lo st n => R (.rng lo st n) H2) := by
  have s2 : starEach [e2] X.env = [(false, eval e2 X.env)] := star_cons hs2
  have s1 : starEach [e, e2] X.env = [(false, eval e X.env), (false, eval e2 X.env)] := by rw [star_cons hs, s2]
  refine ⟨_, pi_range2 (glB_ok hg).1 hm (pa_cons (PE.up h) (pa_cons (PE.up h2) pa_nil s2) (star_cons hs)) s1 s2, ?_⟩
  intro σ H R R' hR q
  refine ⟨_, q, fun x H1 q1 => ⟨_, q1, ?_⟩⟩
  intro y H2 z
  show ∃ i j : Int, [x, y] = [V.int i, V.int j] ∧ _
  cases x with
  | int i =>
    cases y with
    | int j =>
      obtain ⟨z1, z3⟩ := z
      exact ⟨i, j, rfl, z1, hR _ _ _ (src_rng _ _) z3⟩
    | _ => exact z.elim
  | _ => exact z.elim
theorem piw_rng3 {X : Cx} {tg : Tg} {t e e2 e3 : Expr} {te te2 te3 : TE} {p pos : Pos} (hg : glB X.env.scope "range" = true) (hm : X.mg "range" = none) (hs : ∀ z p, e ≠ .Starred z p) (hs2 : ∀ z p, e2 ≠ .Starred z p) (hs3 : ∀ z p, e3 ≠ .Starred z p) (h : PE X e te) (h2 : PE X e2 te2) (h3 : PE X e3 te3) :
    PIw X tg t (.Call (.Name "range" p) [e, e2, e3] [] pos) (fun σ H R => te σ H fun x H1 => te2 σ H1 fun y H2 => te3 σ H2 fun w H3 => rngW [x, y, w] fun lo st n => R (.rng lo st n) H3) := by
  have s3 : starEach [e3] X.env = (false, eval e3 X.env) :: starEach [] X.env := star_cons hs3
  have s2 : starEach [e2, e3] X.env = (false, eval e2 X.env) :: starEach [e3] X.env := star_cons hs2
  have s4 : (backTo pos (starEach [e2, e3] X.env)).any (·.1) = false := noStar_any (by
    intro x hx
    simp at hx
    rcases hx with rfl | rfl
    · exact hs2
    · exact hs3)
  refine ⟨_, pi_range3 (glB_ok hg).1 hm (pa_cons (PE.up h) (pa_cons (PE.up h2) (pa_cons (PE.up h3) pa_nil s3) s2) (star_cons hs)) (star_cons hs) s4, ?_⟩
  intro σ H R R' hR q
  refine ⟨_, q, fun x H1 q1 => ⟨_, q1, fun y H2 q2 => ⟨_, q2, ?_⟩⟩⟩
  intro w H3 z
  show ∃ (i j c : Int) (n : Nat), [x, y, w] = [V.int i, V.int j, V.int c] ∧ _
  cases x with
  | int i =>
    cases y with
    | int j =>
      cases w with
      | int c =>
        obtain ⟨rfl, ⟨z1, z2, z4, z5⟩, z3⟩ := z
        exact ⟨i, j, -1, _, rfl, RgC.neg z1 z2 z4 z5, hR _ _ _ (src_rngC _ _ _) z3⟩
      | _ => exact z.elim
    | _ => exact z.elim
  | _ => exact z.elim

def upR (r : R2) : R2 := fun x y H Q => ∃ Q' : VK, r x y H Q' ∧ ∀ v H', Q' v H' → Q v H'
theorem OpR.up {X : Cx} {f : Value → Value → Sem Value} {r : R2} (h : OpR X f r) : OpR X f (upR r) := by
  intro pins s σ H x y v u Q I rx ry q
  obtain ⟨Q', h1, h2⟩ := q
  refine thn (h pins s σ H x y v u Q' I rx ry h1) ?_
  rintro u s' ⟨v, H', I', r, q'⟩
  exact ⟨v, H', I', r, h2 v H' q'⟩
def upT (t : TT) : TT := fun σ H Q => ∃ Q' : Bool → Hp → Prop, t σ H Q' ∧ ∀ v H', Q' v H' → Q v H'
theorem PT.up {X : Cx} {e : Expr} {t : TT} (h : PT X e t) : PT X e (upT t) := ⟨fun pins s σ H Q I q => by
  obtain ⟨Q', h1, h2⟩ := q
  refine thn (h.run pins s σ H Q' I h1) ?_
  rintro b s' ⟨H', I', q'⟩
  exact ⟨H', I', h2 b H' q'⟩⟩
theorem PW.up {X : Cx} {e : Expr} {t : TT} (h : PW X e t) : PW X e (upT t) := ⟨fun wh pins s σ H Q I q => by
  obtain ⟨Q', h1, h2⟩ := q
  refine thn (h.run wh pins s σ H Q' I h1) ?_
  rintro b s' ⟨H', I', q'⟩
  exact ⟨H', I', h2 b H' q'⟩⟩

theorem PT.pw {X : Cx} {op : BoolOp} {vs : List Expr} {p : Pos} {t : TT} (h : PT X (.BoolOp op vs p) t) : PW X (.BoolOp op vs p) t := ⟨fun _ pins s σ H Q I q => h.run pins s σ H Q I q⟩

theorem noStar_all {pos : Pos} {env : Env} : ∀ {es : List Expr}, (∀ e ∈ es, ∀ z p, e ≠ .Starred z p) → ((backTo pos (starEach es env)).all fun x => !x.1) = true
  | [], _ => rfl
  | e :: es, h => by
    rw [star_cons (h e List.mem_cons_self)]
    show (true && ((backTo pos (starEach es env)).all fun x => !x.1)) = true
    rw [noStar_all fun x hx => h x (List.mem_cons_of_mem _ hx)]
    rfl
theorem es_star {kk : Str → Nat → List Str → Bool} {N : List Str} {sc : Scope} : ∀ {es : Exs} {xs : List Expr}, ckEs kk N sc es xs = true → ∀ x ∈ xs, ∀ z p, x ≠ .Starred z p
  | .nil, [], _, _, hx, _, _ => by cases hx
  | .nil, _ :: _, h, _, _, _, _ => by cases h
  | .cons e r, [], h, _, _, _, _ => by cases h
  | .cons e r, x :: xs, h, y, hy, z, p => by
    simp only [ckEs, Bool.and_eq_true] at h
    rcases List.mem_cons.mp hy with rfl | hy
    · exact noStar_ok h.1.2 z p
    · exact es_star h.2 y hy z p
theorem es_len {kk : Str → Nat → List Str → Bool} {N : List Str} {sc : Scope} : ∀ {es : Exs} {xs : List Expr}, ckEs kk N sc es xs = true → xs.length = es.len
  | .nil, [], _ => rfl
  | .nil, _ :: _, h => by cases h
  | .cons e r, [], h => by cases h
  | .cons e r, x :: xs, h => by
    simp only [ckEs, Bool.and_eq_true] at h
    show xs.length + 1 = r.len + 1
    rw [es_len h.2]

mutual
theorem sE {T : Tab} {k : Nat} : ∀ (a : Ex) {E : XK} {X : Cx} {e : Expr}, Gd T k E X → ckE T.way X.N X.env.scope a e = true → PE X e (wpE (cnOf T X.K k) E a)
  | .var i, E, X, e, g, h => by
    simp only [ckE] at h
    split at h
    · simp only [Bool.and_eq_true, decide_eq_true_eq, Bool.not_eq_true'] at h
      obtain ⟨⟨⟨h1, h2⟩, h3⟩, h4⟩ := h
      refine PE.imp (pe_var h1 (visB_ok h2) h3 h4) ?_
      intro σ H Q q
      simp only [wpE] at q
      split at q
      · exact ⟨_, by assumption, q⟩
      · exact q.elim
    · cases h
  | .mv i, E, X, e, g, h => by
    simp only [ckE] at h
    split at h
    · simp only [Bool.and_eq_true, decide_eq_true_eq, Bool.not_eq_true'] at h
      obtain ⟨⟨⟨h1, h2⟩, h3⟩, h4⟩ := h
      refine PE.imp (pe_var h1 (visB_ok h2) h3 h4) ?_
      intro σ H Q q
      simp only [wpE] at q
      split at q
      · exact ⟨_, by assumption, q⟩
      · exact q.elim
    · cases h
  | .us _ a, E, X, e, g, h => sE a g (by simpa only [ckE] using h)
  | .con c, E, X, e, g, h => by
    simp only [ckE] at h
    split at h
    · obtain ⟨rfl, h2⟩ := conEq_ok h
      exact con_ok h2
    · cases h
  | .glb x, E, X, e, g, h => by
    simp only [ckE] at h
    split at h
    · simp only [Bool.and_eq_true, beq_iff_eq] at h
      obtain ⟨rfl, h2⟩ := h
      obtain ⟨g1, g2, g3⟩ := glB_ok h2
      cases hc : T.cons.lookup x with
      | none =>
        refine ⟨fun pins s σ H Q I q => ?_⟩
        have q' : (match T.cons.lookup x with
          | some v => Q v H
          | none => False) := q
        rw [hc] at q'
        exact q'.elim
      | some v =>
        obtain ⟨u, m1, m2⟩ := g.fx.con x v hc
        refine PE.imp (pe_glob g1 m1 m2 g2) ?_
        intro σ H Q q
        have q' : (match T.cons.lookup x with
          | some v => Q v H
          | none => False) := q
        rw [hc] at q'
        exact q'
    · cases h
  | .bin op a b, E, X, e, g, h => by
    simp only [ckE] at h
    split at h
    · simp only [Bool.and_eq_true, decide_eq_true_eq] at h
      obtain ⟨⟨rfl, h1⟩, h2⟩ := h
      exact pe_op opBin_ok (sE a g h1) (sE b g h2)
    · cases h
  | .neg a, E, X, e, g, h => by
    simp only [ckE] at h
    split at h
    · refine PE.imp (pe_un un_neg (PE.up (sE a g h))) ?_
      intro σ H Q q
      refine ⟨_, q, ?_⟩
      intro v H' z
      split at z
      · exact ⟨_, rfl, z⟩
      · exact z.elim
    · cases h
  | .cmp op a b, E, X, e, g, h => by
    simp only [ckE] at h
    split at h
    · simp only [Bool.and_eq_true, decide_eq_true_eq] at h
      obtain ⟨⟨⟨rfl, h1⟩, h2⟩, h3⟩ := h
      exact pe_cmpR (opCmp_ok (room65 g.room)) (sE a g h1) (sE b g h2) (noSet_marks h3)
    · cases h
  | .chn o p a b c, E, X, e, g, h => by
    simp only [ckE] at h
    split at h
    · simp only [Bool.and_eq_true, decide_eq_true_eq] at h
      obtain ⟨⟨⟨⟨⟨⟨rfl, rfl⟩, h1⟩, h2⟩, h3⟩, h4⟩, h5⟩ := h
      refine PE.imp (pe_chain (OpR.up (opCmp_ok (room65 g.room))) (opCmp_ok (room65 g.room)) (PE.up (sE a g h1)) (PE.up (sE b g h2)) (sE c g h3) (noSet_marks h5)) ?_
      intro σ H Q q
      refine ⟨_, q, fun x H1 q1 => ⟨_, q1, fun y H2 q2 => ⟨_, q2, fun z H3 q3 => ?_⟩⟩⟩
      split at q3
      · exact ⟨true, rfl, q3⟩
      · exact ⟨false, rfl, q3⟩
      · exact q3.elim
    · cases h
  | .and a b, E, X, e, g, h => by
    simp only [ckE] at h
    split at h
    · simp only [Bool.and_eq_true] at h
      obtain ⟨h1, h2⟩ := h
      rename_i x y r p
      have hb : PE X (.BoolOp .And (y :: r) p) (wpE (cnOf T X.K k) E b) := by
        split at h2
        · exact pe_one (sE b g h2)
        · exact sE b g h2
      refine PE.imp (pe_and (PE.up (sE a g h1)) hb) ?_
      intro σ H Q q
      refine ⟨_, q, ?_⟩
      intro v H' z
      split at z
      · exact ⟨true, rfl, z⟩
      · exact ⟨false, rfl, z⟩
      · exact z.elim
    · cases h
  | .or a b, E, X, e, g, h => by
    simp only [ckE] at h
    split at h
    · simp only [Bool.and_eq_true] at h
      obtain ⟨h1, h2⟩ := h
      rename_i x y r p
      have hb : PE X (.BoolOp .Or (y :: r) p) (wpE (cnOf T X.K k) E b) := by
        split at h2
        · exact pe_one (sE b g h2)
        · exact sE b g h2
      refine PE.imp (pe_or (PE.up (sE a g h1)) hb) ?_
      intro σ H Q q
      refine ⟨_, q, ?_⟩
      intro v H' z
      split at z
      · exact ⟨false, rfl, z⟩
      · exact ⟨true, rfl, z⟩
      · exact z.elim
    · cases h
  | .not a, E, X, e, g, h => by
    simp only [ckE] at h
    split at h
    · refine PE.imp (pe_not (PE.up (sE a g h))) ?_
      intro σ H Q q
      refine ⟨_, q, ?_⟩
      intro v H' z
      split at z
      · exact ⟨_, rfl, z⟩
      · exact z.elim
    · cases h
  | .ite t a b, E, X, e, g, h => by
    simp only [ckE] at h
    split at h
    · simp only [Bool.and_eq_true] at h
      exact pe_ifExp (sT t g h.1.1) (sE a g h.1.2) (sE b g h.2)
    · cases h
  | .tup es, E, X, e, g, h => by
    simp only [ckE] at h
    split at h
    · refine PE.imp (pe_tup (PA.up (sEs es g h))) ?_
      intro σ H Q q
      exact ⟨_, q, fun v H' z => ⟨z.1, z.2.at_⟩⟩
    · cases h
  | .lst es, E, X, e, g, h => by
    simp only [ckE] at h
    split at h
    · refine PE.imp (pe_lst (PA.up (sEs es g h))) ?_
      intro σ H Q q
      exact ⟨_, q, fun v H' z => ⟨z.1, z.2.at_⟩⟩
    · cases h
  | .idx a i, E, X, e, g, h => by
    simp only [ckE] at h
    split at h
    · simp only [Bool.and_eq_true] at h
      exact pe_ix idxW_ok (sE a g h.1.1) (sE i g h.1.2) (noSlice_ok h.2)
    · cases h
  | .sl2 a lo hi, E, X, e, g, h => by
    simp only [ckE] at h
    split at h
    · simp only [Bool.and_eq_true] at h
      refine PE.imp (pe_slice slW_ok (PE.up (sE a g h.1.1)) (po_some (PE.up (sE lo g h.1.2))) (po_some (PE.up (sE hi g h.2)))) ?_
      intro σ H Q q
      refine ⟨_, q, fun x H1 q1 => ⟨_, q1, fun y H2 q2 => ?_⟩⟩
      split at q2
      · refine ⟨_, rfl, _, q2, fun z H3 q3 => ?_⟩
        split at q3
        · exact ⟨_, rfl, q3⟩
        · exact q3.elim
      · exact q2.elim
    · cases h
  | .sl1 a lo, E, X, e, g, h => by
    simp only [ckE] at h
    split at h
    · simp only [Bool.and_eq_true] at h
      refine PE.imp (pe_slice slW_ok (PE.up (sE a g h.1)) (po_some (PE.up (sE lo g h.2))) po_none) ?_
      intro σ H Q q
      refine ⟨_, q, fun x H1 q1 => ⟨_, q1, fun y H2 q2 => ?_⟩⟩
      split at q2
      · exact ⟨_, rfl, q2⟩
      · exact q2.elim
    · cases h
  | .sl0 a hi, E, X, e, g, h => by
    simp only [ckE] at h
    split at h
    · simp only [Bool.and_eq_true] at h
      refine PE.imp (pe_slice slW_ok (PE.up (sE a g h.1)) po_none (po_some (PE.up (sE hi g h.2)))) ?_
      intro σ H Q q
      refine ⟨_, q, fun x H1 q1 => ⟨_, q1, fun y H2 q2 => ?_⟩⟩
      split at q2
      · exact ⟨_, rfl, q2⟩
      · exact q2.elim
    · cases h
  | .rev a, E, X, e, g, h => by
    simp only [ckE] at h
    split at h
    · refine PE.imp (pe_revL (PE.up (sE a g h))) ?_
      intro σ H Q q
      refine ⟨_, q, fun x H1 q1 => ?_⟩
      split at q1
      · obtain ⟨xs, z1, z2⟩ := q1.to
        exact ⟨_, xs, rfl, z1, z2.at_⟩
      · exact q1.elim
    · cases h
  | .stp a lo k, E, X, e, g, h => by
    simp only [ckE] at h
    split at h
    · simp only [Bool.and_eq_true, decide_eq_true_eq] at h
      obtain ⟨⟨rfl, h1⟩, h2⟩ := h
      refine PE.imp (pe_stpL (PE.up (sE a g h1)) (PE.up (sE lo g h2))) ?_
      intro σ H Q q
      refine ⟨_, q, fun x H1 q1 => ⟨_, q1, fun y H2 q2 => ?_⟩⟩
      unfold stpW at q2
      split at q2
      · obtain ⟨xs, z1, z2, z3⟩ := q2.to
        exact ⟨_, xs, _, rfl, rfl, z1, z2, z3.at_⟩
      · exact q2.elim
    · cases h
  | .call f es ks kes, E, X, e, g, h => by
    simp only [ckE] at h
    split at h
    · rename_i x p xs kws pos
      simp only [Bool.and_eq_true, decide_eq_true_eq, beq_iff_eq] at h
      obtain ⟨⟨⟨⟨⟨rfl, h1⟩, h2⟩, h3⟩, h4⟩, h5⟩ := h
      obtain ⟨g1, g2, g3⟩ := glB_ok h1
      cases hF : T.fns.lookup f with
      | none =>
        simp only [Tab.way, hF] at h2
        cases h2
      | some F =>
        obtain ⟨fa, fd, m1, m2, m3, m4⟩ := g.fx.fn f F hF
        have base := pe_callG (p := p) (pos := pos) (ks := ks) (ar := fun {α} d vs zs => arrange F.ps ks d vs zs) m3 g.gu g.room g1 m1 m2 (fun s us ws hk hu hw => m4 _ ks h2 s us ws hk hu hw) (fun vs zs us ws r rz => vals_arrange r rz) g.pass (sEs es g h3)
          (fun e0 => by
            subst e0
            cases es with
            | nil => rfl
            | cons _ _ => cases h3) (sKs kes g h5) (es_star h3) h4 g2
        rw [es_len h3] at base
        refine PE.imp base ?_
        intro σ H Q q
        have e1 : (cnOf T X.K k).ps f = F.ps := by
          show ((T.fns.lookup f).map (·.ps)).getD [] = F.ps
          rw [hF]
          rfl
        simp only [wpE, e1] at q
        exact q
    · cases h
  | .blt f es, E, X, e, g, h => by
    simp only [ckE] at h
    split at h
    · rename_i x p xs pos
      simp only [Bool.and_eq_true, beq_iff_eq, Bool.not_eq_true'] at h
      obtain ⟨⟨⟨⟨rfl, h1⟩, h2⟩, h3⟩, h4⟩ := h
      cases xs with
      | nil => cases h4
      | cons y ys => exact pe_blt g.calm g.gu g.room.units h2 h1 (g.fx.blt _ (blt_name h2)) (sEs es g h3) (es_star h3)
    · cases h
  | .isi a t, E, X, e, g, h => by
    simp only [ckE] at h
    split at h
    · simp only [Bool.and_eq_true, beq_iff_eq] at h
      obtain ⟨⟨⟨⟨⟨⟨rfl, h1⟩, h2⟩, rfl⟩, h3⟩, h4⟩, h5⟩ := h
      obtain ⟨b1, b2⟩ := isi_boot h3
      exact pe_isi h1 (g.fx.blt _ (by decide +kernel)) h2 (g.fx.blt _ b2) b1 (sE a g h4) (noStar_ok h5)
    · cases h
  | .lrg es, E, X, e, g, h => by
    simp only [ckE] at h
    split at h
    · rename_i f p1 gg p2 xs p3 p4
      simp only [Bool.and_eq_true, beq_iff_eq] at h
      obtain ⟨⟨⟨⟨⟨rfl, h1⟩, rfl⟩, h2⟩, hl⟩, h3⟩ := h
      exact sLr es g h1 h2 (of_decide_eq_true hl) h3
    · cases h
  | .lzp a b, E, X, e, g, h => by
    simp only [ckE] at h
    split at h
    · rename_i f p1 gg p2 x y p3 p4
      simp only [Bool.and_eq_true, beq_iff_eq] at h
      obtain ⟨⟨⟨⟨⟨⟨⟨rfl, h1⟩, rfl⟩, h2⟩, h3⟩, h4⟩, h5⟩, h6⟩ := h
      exact pe_lzpW h1 h2 (g.fx.blt _ (by decide +kernel)) (g.fx.blt _ (by decide +kernel)) g.calm (noStar_ok h4) (noStar_ok h6) (sE a g h3) (sE b g h5)
    · cases h
  | .mth m o es, E, X, e, g, h => by
    simp only [ckE] at h
    split at h
    · rename_i x m' apos xs cpos
      simp only [Bool.and_eq_true, beq_iff_eq, decide_eq_true_eq] at h
      obtain ⟨⟨⟨⟨⟨⟨rfl, h1⟩, h2⟩, h3⟩, h4⟩, h5⟩, h6⟩ := h
      obtain ⟨e1, sl, ty⟩ := mth_slot h1
      have line : (apos.endLine == cpos.line) = true := by rw [h4]; simp
      have arec := plainRecv_ok h6 m X.env (eval x X.env)
      cases xs with
      | nil =>
        have e0 : es = .nil := by
          cases es with
          | nil => rfl
          | cons _ _ => cases h3
        subst e0
        refine PE.imp (pe_bm0 PySem.F.plainAttrs_list sl ty (mthW_ok m) (PE.up (sE o g h2)) arec line) ?_
        intro σ H Q q
        refine ⟨_, q, fun v H1 q1 => ?_⟩
        split at q1
        · split at q1
          · exact ⟨.inl ⟨rfl, _, .inl (.inl (by assumption))⟩, q1⟩
          · exact q1.elim
        · exact q1.elim
      | cons y ys =>
        have s1 := star_cons (es := ys) (env := X.env) (es_star h3 y List.mem_cons_self)
        have s2 := noStar_any (pos := cpos) (env := X.env) (es := ys) fun z hz => es_star h3 z (List.mem_cons_of_mem _ hz)
        have s3 := noStar_all (pos := cpos) (env := X.env) (es := y :: ys) (es_star h3)
        refine PE.imp (pe_bm PySem.F.plainAttrs_list sl ty (mthW_ok m) (PE.up (sE o g h2)) (sEs es g h3) arec (by rw [s3]; simpa [keywordEach, backToKw] using h5) line s1 s2) ?_
        intro σ H Q q
        refine ⟨_, q, fun v H1 q1 => ?_⟩
        split at q1
        · split at q1
          · exact ⟨.inl ⟨rfl, _, .inl (.inl (by assumption))⟩, q1⟩
          · exact q1.elim
        · exact q1.elim
    · cases h
  | .comp b tg it cs own, E, X, e, g, h => by
    simp only [ckE] at h
    split at h
    · rename_i x t iter ifs scope pos
      simp only [Bool.and_eq_true] at h
      obtain ⟨⟨⟨⟨⟨⟨h1, h2⟩, h3⟩, h4⟩, h5⟩, h6⟩, h7⟩ := h
      have bk := blkOk_by h1
      obtain ⟨wi', pi, hwi⟩ := sI it (tg := tg) g h2
      have base := pe_lc (pos := pos) (own := own) (g := tgR X.K tg) (tt := wpTs (cnOf T X.K k) cs) (te := wpE (cnOf T X.K k) E0 b) g.calm g.nd pi bk
        (fun s H C cl fp => pg_of (X := X.blk s H scope (compEnvC scope cl C X.env) fp) (g.blk bk.kind s H C cl fp).calm g.nd (by
          intro y hy
          simp only [Bool.and_eq_true, Bool.or_eq_true, decide_eq_true_eq] at hy
          refine ⟨locB_ok hy.1, ?_⟩
          rcases hy.2 with z | z
          · exact .inr (localB_ok z)
          · exact .inl (by show (scope.names.lookup y == some NameKind.cell) = true; rw [z]; rfl)) h4)
        (fun s H C cl fp => sC cs (g.blk bk.kind s H C cl fp) h6)
        (fun s H C cl fp => sE b (g.blk bk.kind s H C cl fp) h7) (fun v => noSet_ok h3 X.env v)
      refine PE.imp base ?_
      intro σ H Q q
      refine hwi σ H _ _ ?_ q
      intro s J H' hs hq D hD
      exact lcW_to hs h5 (hq D hD)
    · cases h
theorem sLr {T : Tab} {k : Nat} : ∀ (es : Exs) {E : XK} {X : Cx} {xs : List Expr} {p1 p2 p3 p4 : Pos}, Gd T k E X → glB X.env.scope "list" = true → glB X.env.scope "range" = true → (1 ≤ xs.length ∧ xs.length ≤ 2) → ckEs T.way X.N X.env.scope es xs = true →
    PE X (.Call (.Name "list" p1) [.Call (.Name "range" p2) xs [] p3] [] p4) (wpE (cnOf T X.K k) E (.lrg es))
  | .cons a .nil, E, X, [x], p1, p2, p3, p4, g, h1, h2, hl, h => by
    simp only [ckEs, Bool.and_eq_true] at h
    have hs := noStar_ok h.1.2
    refine PE.imp (pe_listRg g.calm (glB_ok h1).1 (g.fx.blt _ (by decide +kernel)) (prg_1 (glB_ok h2).1 (g.fx.blt _ (by decide +kernel)) (PE.up (sE a g h.1.1)) (star_cons hs))) ?_
    intro σ H Q q
    refine ⟨_, q, fun v H1 q1 => ?_⟩
    simp only [wpEs] at q1
    cases v with
    | int j => exact ⟨j, rfl, q1.1, q1.2.at_⟩
    | _ => exact q1.elim
  | .cons a (.cons b .nil), E, X, [x, y], p1, p2, p3, p4, g, h1, h2, hl, h => by
    simp only [ckEs, Bool.and_eq_true] at h
    have hs := noStar_ok h.1.2
    have hs2 := noStar_ok h.2.1.2
    refine PE.imp (pe_listRg g.calm (glB_ok h1).1 (g.fx.blt _ (by decide +kernel)) (prg_2 (glB_ok h2).1 (g.fx.blt _ (by decide +kernel)) (PE.up (sE a g h.1.1)) (PE.up (sE b g h.2.1.1)) (star_cons hs) (star_cons hs2) (noStar_any (by intro z hz; simp at hz; subst hz; exact hs2)))) ?_
    intro σ H Q q
    refine ⟨_, q, fun v H1 q1 => ⟨_, q1, fun v2 H2 q2 => ?_⟩⟩
    simp only [wpEs] at q2
    cases v with
    | int i =>
      cases v2 with
      | int j => exact ⟨i, j, rfl, rfl, q2.1, q2.2.at_⟩
      | _ => exact q2.elim
    | _ => exact q2.elim
  | .nil, E, X, [], p1, p2, p3, p4, g, h1, h2, hl, h => by cases hl.1
  | .nil, E, X, _ :: _, p1, p2, p3, p4, g, h1, h2, hl, h => by cases h
  | .cons a r, E, X, [], p1, p2, p3, p4, g, h1, h2, hl, h => by cases h
  | .cons a .nil, E, X, _ :: _ :: _, p1, p2, p3, p4, g, h1, h2, hl, h => by simp [ckEs] at h
  | .cons a (.cons b r), E, X, [_], p1, p2, p3, p4, g, h1, h2, hl, h => by simp [ckEs] at h
  | .cons a (.cons b r), E, X, _ :: _ :: _ :: _, p1, p2, p3, p4, g, h1, h2, hl, h => by simp at hl
  | .cons a (.cons b (.cons c r)), E, X, [_, _], p1, p2, p3, p4, g, h1, h2, hl, h => by simp [ckEs] at h
theorem sC {T : Tab} {k : Nat} : ∀ (a : Cd) {X : Cx} {e : List Expr}, Gd T k E0 X → ckC T.way X.N X.env.scope a e = true → PTs X e (wpTs (cnOf T X.K k) a)
  | .no, X, [], g, h => pts_nil
  | .no, X, _ :: _, g, h => by cases h
  | .one t, X, [x], g, h => pts_one (sT t g h)
  | .one t, X, [], g, h => by cases h
  | .one t, X, _ :: _ :: _, g, h => by cases h
theorem sEs {T : Tab} {k : Nat} : ∀ (a : Exs) {E : XK} {X : Cx} {e : List Expr}, Gd T k E X → ckEs T.way X.N X.env.scope a e = true → PA X e (wpEs (cnOf T X.K k) E a)
  | .nil, E, X, [], g, h => pa_nil
  | .nil, E, X, _ :: _, g, h => by cases h
  | .cons a r, E, X, [], g, h => by cases h
  | .cons a r, E, X, e :: es, g, h => by
    simp only [ckEs, Bool.and_eq_true] at h
    exact pa_cons (sE a g h.1.1) (sEs r g h.2) (star_cons (noStar_ok h.1.2))
theorem sKs {T : Tab} {k : Nat} : ∀ (a : Exs) {E : XK} {X : Cx} {e : List Keyword}, Gd T k E X → ckKs T.way X.N X.env.scope a e = true → PK X e (wpEs (cnOf T X.K k) E a)
  | .nil, E, X, [], g, h => pk_nil
  | .nil, E, X, _ :: _, g, h => by cases h
  | .cons a r, E, X, [], g, h => by cases h
  | .cons a r, E, X, ⟨nm, e, p⟩ :: es, g, h => by
    simp only [ckKs, Bool.and_eq_true] at h
    exact pk_cons (sE a g h.1) (sKs r g h.2)
theorem sT {T : Tab} {k : Nat} : ∀ (a : Ts) {E : XK} {X : Cx} {e : Expr}, Gd T k E X → ckT T.way X.N X.env.scope a e = true → PT X e (wpT (cnOf T X.K k) E a)
  | .us _ a, E, X, e, g, h => sT a g (by simpa only [ckT] using h)
  | .val a, E, X, e, g, h => by
    simp only [ckT, Bool.and_eq_true] at h
    refine PT.imp (pt_val (PE.up (sE a g h.2)) (fun w => plainTest_ok h.1 X.env w)) ?_
    intro σ H Q q
    refine ⟨_, q, fun x H1 q1 => ?_⟩
    split at q1
    · exact ⟨_, rfl, q1⟩
    · exact q1.elim
  | .cmp op a b, E, X, e, g, h => by
    simp only [ckT] at h
    split at h
    · simp only [Bool.and_eq_true, decide_eq_true_eq] at h
      obtain ⟨⟨⟨rfl, h1⟩, h2⟩, h3⟩ := h
      refine PT.imp (pt_cmpR (OpR.up (opCmp_ok (room65 g.room))) (PE.up (sE a g h1)) (PE.up (sE b g h2)) (noSet_marks h3)) ?_
      intro σ H Q q
      refine ⟨_, q, fun x H1 q1 => ⟨_, q1, fun y H2 q2 => ⟨_, q2, fun z H3 q3 => ?_⟩⟩⟩
      split at q3
      · exact ⟨_, rfl, q3⟩
      · exact q3.elim
    · cases h
  | .chn o p a b c, E, X, e, g, h => by
    simp only [ckT] at h
    split at h
    · simp only [Bool.and_eq_true, decide_eq_true_eq] at h
      obtain ⟨⟨⟨⟨⟨⟨rfl, rfl⟩, h1⟩, h2⟩, h3⟩, h4⟩, h5⟩ := h
      refine PT.imp (pt_chain (OpR.up (opCmp_ok (room65 g.room))) (OpR.up (opCmp_ok (room65 g.room))) (PE.up (sE a g h1)) (PE.up (sE b g h2)) (PE.up (sE c g h3)) (noSet_marks h5)) ?_
      intro σ H Q q
      refine ⟨_, q, fun x H1 q1 => ⟨_, q1, fun y H2 q2 => ⟨_, q2, fun z H3 q3 => ?_⟩⟩⟩
      split at q3
      · refine ⟨true, rfl, ?_⟩
        refine ⟨_, q3, fun w H4 q4 => ⟨_, q4, fun z H5 q5 => ?_⟩⟩
        split at q5
        · exact ⟨_, rfl, q5⟩
        · exact q5.elim
      · exact ⟨false, rfl, false, rfl, q3⟩
      · exact q3.elim
    · cases h
  | .not a, E, X, e, g, h => by
    simp only [ckT] at h
    split at h
    · exact pt_not (sT a g h)
    · cases h
  | .and a b, E, X, e, g, h => by
    simp only [ckT] at h
    split at h
    · simp only [Bool.and_eq_true] at h
      obtain ⟨h1, h2⟩ := h
      rename_i x y r p
      have hb : PW X (.BoolOp .And (y :: r) p) (wpT (cnOf T X.K k) E b) := by
        split at h2
        · exact pw_and1 (sT b g h2)
        · exact PT.pw (sT b g h2)
      exact (pw_and (sT a g h1) hb).pt
    · cases h
  | .or a b, E, X, e, g, h => by
    simp only [ckT] at h
    split at h
    · simp only [Bool.and_eq_true] at h
      obtain ⟨h1, h2⟩ := h
      rename_i x y r p
      have hb : PW X (.BoolOp .Or (y :: r) p) (wpT (cnOf T X.K k) E b) := by
        split at h2
        · exact pw_or1 (sT b g h2)
        · exact PT.pw (sT b g h2)
      exact (pw_or (sT a g h1) hb).pt
    · cases h
theorem sI {T : Tab} {k : Nat} : ∀ (a : Ir) {E : XK} {X : Cx} {tg : Tg} {t e : Expr}, Gd T k E X → ckI T.way X.N X.env.scope a t e = true → PIw X tg t e (wpI (cnOf T X.K k) E a)
  | .us _ a, E, X, tg, t, e, g, h => sI a g (by simpa only [ckI] using h)
  | .seq a, E, X, tg, t, e, g, h => piw_seq (sE a g h)
  | .enm a, E, X, tg, t, e, g, h => by
    simp only [ckI] at h
    split at h
    · simp only [Bool.and_eq_true, beq_iff_eq] at h
      obtain ⟨⟨⟨rfl, h1⟩, h2⟩, h3⟩ := h
      exact piw_enm h1 (g.fx.blt _ (by decide +kernel)) (noStar_ok h3) (sE a g h2)
    · cases h
  | .zip a b, E, X, tg, t, e, g, h => by
    simp only [ckI] at h
    split at h
    · simp only [Bool.and_eq_true, beq_iff_eq] at h
      obtain ⟨⟨⟨⟨⟨rfl, h1⟩, h2⟩, h3⟩, h4⟩, h5⟩ := h
      exact piw_zip h1 (g.fx.blt _ (by decide +kernel)) (noStar_ok h3) (noStar_ok h5) (sE a g h2) (sE b g h4)
    · cases h
  | .rng es, E, X, tg, t, e, g, h => by
    simp only [ckI] at h
    split at h
    · rename_i x p xs pos
      simp only [Bool.and_eq_true, beq_iff_eq] at h
      obtain ⟨⟨⟨rfl, h1⟩, hl⟩, h2⟩ := h
      have hm := g.fx.blt "range" (by decide +kernel)
      exact sRg es g h1 hm (of_decide_eq_true hl) h2
    · cases h
theorem sRg {T : Tab} {k : Nat} : ∀ (es : Exs) {E : XK} {X : Cx} {tg : Tg} {t : Expr} {xs : List Expr} {p pos : Pos}, Gd T k E X → glB X.env.scope "range" = true → X.mg "range" = none → (1 ≤ xs.length ∧ xs.length ≤ 3) → ckEs T.way X.N X.env.scope es xs = true →
    PIw X tg t (.Call (.Name "range" p) xs [] pos) (fun σ H R => wpEs (cnOf T X.K k) E es σ H fun vs H1 => rngW vs fun lo st n => R (.rng lo st n) H1)
  | .nil, E, X, tg, t, [], p, pos, g, h1, hm, hl, h => ⟨fun _ _ _ => False, ⟨fun _ _ _ _ _ _ q => q.elim⟩, fun _ _ _ _ _ q => q⟩
  | .cons a .nil, E, X, tg, t, [x], p, pos, g, h1, hm, hl, h => by
    simp only [ckEs, Bool.and_eq_true] at h
    exact piw_rng1 h1 hm (noStar_ok h.1.2) (sE a g h.1.1)
  | .cons a (.cons b .nil), E, X, tg, t, [x, y], p, pos, g, h1, hm, hl, h => by
    simp only [ckEs, Bool.and_eq_true] at h
    exact piw_rng2 h1 hm (noStar_ok h.1.2) (noStar_ok h.2.1.2) (sE a g h.1.1) (sE b g h.2.1.1)
  | .cons a (.cons b (.cons c .nil)), E, X, tg, t, [x, y, z], p, pos, g, h1, hm, hl, h => by
    simp only [ckEs, Bool.and_eq_true] at h
    exact piw_rng3 h1 hm (noStar_ok h.1.2) (noStar_ok h.2.1.2) (noStar_ok h.2.2.1.2) (sE a g h.1.1) (sE b g h.2.1.1) (sE c g h.2.2.1.1)
  | .nil, E, X, tg, t, _ :: _, p, pos, g, h1, hm, hl, h => by cases h
  | .cons a r, E, X, tg, t, [], p, pos, g, h1, hm, hl, h => by cases h
  | .cons a .nil, E, X, tg, t, _ :: _ :: _, p, pos, g, h1, hm, hl, h => by simp [ckEs] at h
  | .cons a (.cons b r), E, X, tg, t, [_], p, pos, g, h1, hm, hl, h => by simp [ckEs] at h
  | .cons a (.cons b .nil), E, X, tg, t, _ :: _ :: _ :: _, p, pos, g, h1, hm, hl, h => by simp [ckEs] at h
  | .cons a (.cons b (.cons c r)), E, X, tg, t, [_, _], p, pos, g, h1, hm, hl, h => by simp [ckEs] at h
  | .cons a (.cons b (.cons c r)), E, X, tg, t, _ :: _ :: _ :: _ :: _, p, pos, g, h1, hm, hl, h => by simp at hl
  | .cons a (.cons b (.cons c (.cons d r))), E, X, tg, t, [_, _, _], p, pos, g, h1, hm, hl, h => by simp [ckEs] at h
end
end VC

namespace VC
open PySem PySem.Spec PyProof.Rows L2

theorem stores_none1 {env : Env} {x y : Expr} {p : Pos} {v : Expr} : swappedStores [.Subscript x y p] v env = pure none := by
  cases v <;> rfl
theorem stores_none2 {env : Env} {ts : List Expr} {k : Nat} {p : Pos} {v : Expr} (h : ∀ vs k2 p2, v ≠ .Tuple vs k2 p2) : swappedStores [.Tuple ts k p] v env = pure none := by
  cases v <;> first | rfl | (exact absurd rfl (h _ _ _))
theorem block_fn {env : Env} (h : env.scope.kind = .function) : env.blockKind = .function := by
  unfold Env.blockKind
  rw [h]
  rfl
theorem fm_len {α β : Type} (f : α → Option β) : ∀ l : List α, (l.filterMap f).length = l.length → ∀ a ∈ l, (f a).isSome = true
  | [], _, _, h => by cases h
  | x :: l, e, a, h => by
    have hle := List.length_filterMap_le f l
    rw [List.filterMap_cons] at e
    cases hx : f x with
    | none =>
      rw [hx] at e
      simp only [List.length_cons] at e
      omega
    | some y =>
      rw [hx] at e
      simp only [List.length_cons, Nat.add_right_cancel_iff] at e
      rcases List.mem_cons.mp h with rfl | h
      · rw [hx]; rfl
      · exact fm_len f l e a h
theorem stores_none3 {env : Env} {ts vs : List Expr} {k k2 : Nat} {p p2 : Pos} (h : allLocal env.scope ts = false) : swappedStores [.Tuple ts k p] (.Tuple vs k2 p2) env = pure none := by
  unfold swappedStores
  simp only
  split
  · rfl
  · split
    · rfl
    · split
      · rfl
      · rename_i h1 h2 h3
        exfalso
        apply Bool.false_ne_true
        rw [← h]
        unfold allLocal
        rw [List.all_eq_true]
        intro t ht
        have e : ∀ z ∈ ts, ((match z with
          | .Name id pos => if env.kindOf id == some .local && pos.line == (ts.head?.map (·.pos.line)).getD 0 then some id else none
          | _ => none) : Option Str).isSome = true := by
          apply fm_len
          simp only [Bool.or_eq_true, bne_iff_ne, ne_eq, not_or, Decidable.not_not] at h3
          exact h3.1
        have et := e t ht
        cases t <;> first | (cases et; done) | skip
        rename_i id pos
        simp only at et
        split at et
        · rename_i hc
          simp only [Bool.and_eq_true, beq_iff_eq] at hc
          show localB env.scope id = true
          unfold localB
          rw [show env.scope.names.lookup id = some .local from hc.1]
        · cases et

theorem noStar_vs : ∀ {vs : List Expr}, vs.all noStar = true → (vs.any fun | .Starred .. => true | _ => false) = false
  | [], _ => rfl
  | v :: vs, h => by
    simp only [List.all_cons, Bool.and_eq_true] at h
    rw [List.any_cons, noStar_vs h.2]
    cases v <;> first | rfl | (cases h.1)
theorem stores_two {env : Env} {x y : Str} {px py p p2 : Pos} {k k2 : Nat} {a b : Expr} (hk : env.scope.kind = .function) (hxy : x ≠ y) (h : swapB env.scope [.Name x px, .Name y py] [a, b] = true) :
    swappedStores [.Tuple [.Name x px, .Name y py] k p] (.Tuple [a, b] k2 p2) env = pure (some [x, y]) ∧ env.scope.names.lookup x = some .local ∧ env.scope.names.lookup y = some .local := by
  simp only [swapB, Bool.and_eq_true, List.all_cons, List.all_nil, Bool.and_true, Bool.not_eq_true', beq_iff_eq] at h
  obtain ⟨⟨⟨⟨_, hs⟩, ⟨⟨l1, q1⟩, l2, q2⟩⟩, f1⟩, f2⟩ := h
  have e1 := localB_ok l1
  have e2 := localB_ok l2
  refine ⟨?_, e1, e2⟩
  have k1 : env.kindOf x = some .local := e1
  have k2' : env.kindOf y = some .local := e2
  have st := noStar_vs (vs := [a, b]) (by simp only [List.all_cons, List.all_nil, Bool.and_true, Bool.and_eq_true]; exact hs)
  have fo : [a, b].all (foldedForSure 8) = false := by simpa using f1
  have co : [a, b].all (constantsAlone 8) = false := by simpa using f2
  have py' : (py.line == px.line) = true := by
    have : py.line = px.line := q2
    rw [this]; simp
  unfold swappedStores
  simp only [block_fn hk, st, fo, co, k1, k2', List.filterMap_cons, List.filterMap_nil, List.head?_cons, Option.map_some, Option.getD_some, Expr.pos, py', beq_self_eq_true, Bool.and_self, if_true, List.length_cons, List.length_nil]
  have hd : [x, y].eraseDups.length = 2 := by
    have : [x, y].eraseDups = [x, y] := by
      simp [List.eraseDups_cons, Ne.symm hxy]
    rw [this]
    rfl
  rw [if_neg (by decide), if_neg (by intro z; exact Bool.false_ne_true (st.symm.trans z)), if_neg (by rw [hd]; decide), if_neg (by decide), if_neg (by decide)]
theorem stores_three {env : Env} {x y z : Str} {px py pz p p2 : Pos} {k k2 : Nat} {a b c : Expr} (hk : env.scope.kind = .function) (hxy : x ≠ y) (hxz : x ≠ z) (hyz : y ≠ z) (h : swapB env.scope [.Name x px, .Name y py, .Name z pz] [a, b, c] = true) :
    swappedStores [.Tuple [.Name x px, .Name y py, .Name z pz] k p] (.Tuple [a, b, c] k2 p2) env = pure (some [x, y, z]) ∧ env.scope.names.lookup x = some .local ∧ env.scope.names.lookup y = some .local ∧ env.scope.names.lookup z = some .local := by
  simp only [swapB, Bool.and_eq_true, List.all_cons, List.all_nil, Bool.and_true, Bool.not_eq_true', beq_iff_eq] at h
  obtain ⟨⟨⟨⟨_, hs⟩, ⟨⟨l1, q1⟩, ⟨l2, q2⟩, l3, q3⟩⟩, f1⟩, f2⟩ := h
  have e1 := localB_ok l1
  have e2 := localB_ok l2
  have e3 := localB_ok l3
  refine ⟨?_, e1, e2, e3⟩
  have k1 : env.kindOf x = some .local := e1
  have k2' : env.kindOf y = some .local := e2
  have k3' : env.kindOf z = some .local := e3
  have st := noStar_vs (vs := [a, b, c]) (by simp only [List.all_cons, List.all_nil, Bool.and_true, Bool.and_eq_true]; exact hs)
  have fo : [a, b, c].all (foldedForSure 8) = false := by simpa using f1
  have co : [a, b, c].all (constantsAlone 8) = false := by simpa using f2
  have py' : (py.line == px.line) = true := by
    have : py.line = px.line := q2
    rw [this]; simp
  have pz' : (pz.line == px.line) = true := by
    have : pz.line = px.line := q3
    rw [this]; simp
  unfold swappedStores
  simp only [block_fn hk, st, fo, co, k1, k2', k3', List.filterMap_cons, List.filterMap_nil, List.head?_cons, Option.map_some, Option.getD_some, Expr.pos, py', pz', beq_self_eq_true, Bool.and_self, if_true, List.length_cons, List.length_nil]
  have hd : [x, y, z].eraseDups.length = 3 := by
    have : [x, y, z].eraseDups = [x, y, z] := by
      simp [List.eraseDups_cons, Ne.symm hxy, Ne.symm hxz, Ne.symm hyz]
    rw [this]
    rfl
  rw [if_neg (by decide), if_neg (by intro z; exact Bool.false_ne_true (st.symm.trans z)), if_neg (by rw [hd]; decide), if_neg (by decide), if_neg (by decide)]

theorem sole_of {t v : Expr} {l : Nat} {env : Env} (h : swapsWith v (some t) l env = pure false) : swapsWithSole [t] v l env = pure false := by
  unfold swapsWithSole
  exact h
theorem len2 {α : Type} {l : List α} (h : l.length = 2) : ∃ a b, l = [a, b] := by
  match l, h with
  | [a, b], _ => exact ⟨a, b, rfl⟩
theorem len3 {α : Type} {l : List α} (h : l.length = 3) : ∃ a b c, l = [a, b, c] := by
  match l, h with
  | [a, b, c], _ => exact ⟨a, b, c, rfl⟩
theorem ts_cons {ok : Str → Bool} {N : List Str} {j : Nat} {js : List Nat} {e : Expr} {es : List Expr} (h : ckTs ok N (j :: js) (e :: es) = true) : ∃ x p, e = .Name x p ∧ N[j]? = some x ∧ ok x = true ∧ ckTs ok N js es = true := by
  cases e <;> first | (cases h; done) | skip
  simp only [ckTs, Bool.and_eq_true, decide_eq_true_eq] at h
  exact ⟨_, _, rfl, h.1.1, h.1.2, h.2⟩
theorem ts_len {ok : Str → Bool} {N : List Str} : ∀ {js : List Nat} {es : List Expr}, ckTs ok N js es = true → js.length = es.length
  | [], [], _ => rfl
  | [], _ :: _, h => by cases h
  | _ :: _, [], h => by cases h
  | j :: js, e :: es, h => by
    obtain ⟨_, _, _, _, _, h'⟩ := ts_cons h
    show js.length + 1 = es.length + 1
    rw [ts_len h']
theorem name_ne {N : List Str} (hN : N.Nodup) {i j : Nat} {x y : Str} (hi : N[i]? = some x) (hj : N[j]? = some y) (h : i ≠ j) : x ≠ y := fun e => h (nodup_ix hN hi (e ▸ hj))

theorem s_par {T : Tab} {k : Nat} {is : List Nat} (es : Exs) {E : XK} {X : Cx} {ts vs : List Expr} {kt k2 : Nat} {pt p2 pos : Pos} (g : Gd T k E X) (h1 : ckTs (localB X.env.scope) X.N is ts = true) (h2 : is.Nodup) (h3 : ckEs T.way X.N X.env.scope es vs = true) (h4 : swapB X.env.scope ts vs = true) :
    PS X (.Assign [.Tuple ts kt pt] (.Tuple vs k2 p2) pos) (fun D σ H => wpEs (cnOf T X.K k) E es σ H fun xs H1 => xs.length = is.length ∧ D.nx (setAll σ is xs) H1) := by
  have hl : (ts.length = 2 ∨ ts.length = 3) ∧ vs.length = ts.length := by
    simp only [swapB, Bool.and_eq_true, Bool.or_eq_true, beq_iff_eq] at h4
    exact ⟨h4.1.1.1.1.1, h4.1.1.1.1.2⟩
  have hil := ts_len h1
  obtain ⟨hl1 | hl1, hl2⟩ := hl
  · obtain ⟨i, j, rfl⟩ := len2 (hil.trans hl1)
    obtain ⟨e1, e2, rfl⟩ := len2 hl1
    obtain ⟨a, b, rfl⟩ := len2 hl2
    · obtain ⟨x, px, rfl, n1, l1, h1⟩ := ts_cons h1
      obtain ⟨y, py, rfl, n2, l2, h1⟩ := ts_cons h1
      have hij : i ≠ j := by simpa using h2
      obtain ⟨sw, e1, e2⟩ := stores_two (k := kt) (p := pt) (k2 := k2) (p2 := p2) g.kind (name_ne g.nd n1 n2 hij) h4
      refine PS.imp (ps_par g.calm g.nd n1 n2 hij e1 e2 (PA.up (sEs es g h3)) sw rfl) ?_
      intro D σ H q
      refine ⟨_, q, fun xs H1 q1 => ?_⟩
      obtain ⟨q1, q2⟩ := q1
      match xs, q1, q2 with
      | [v, w], _, q2 => exact ⟨v, w, rfl, q2⟩
  · obtain ⟨i, j, l, rfl⟩ := len3 (hil.trans hl1)
    obtain ⟨e1, e2, e3, rfl⟩ := len3 hl1
    obtain ⟨a, b, c, rfl⟩ := len3 hl2
    · obtain ⟨x, px, rfl, n1, l1, h1⟩ := ts_cons h1
      obtain ⟨y, py, rfl, n2, l2, h1⟩ := ts_cons h1
      obtain ⟨z, pz, rfl, n3, l3, h1⟩ := ts_cons h1
      have hij : (i ≠ j ∧ i ≠ l) ∧ j ≠ l := by simpa using h2
      obtain ⟨sw, e1, e2, e3⟩ := stores_three (k := kt) (p := pt) (k2 := k2) (p2 := p2) g.kind (name_ne g.nd n1 n2 hij.1.1) (name_ne g.nd n1 n3 hij.1.2) (name_ne g.nd n2 n3 hij.2) h4
      refine PS.imp (ps_par3 g.calm g.nd n1 n2 n3 hij.1.1 hij.1.2 hij.2 e1 e2 e3 (PA.up (sEs es g h3)) sw rfl) ?_
      intro D σ H q
      refine ⟨_, q, fun xs H1 q1 => ?_⟩
      obtain ⟨q1, q2⟩ := q1
      match xs, q1, q2 with
      | [v, w, u], _, q2 => exact ⟨v, w, u, rfl, q2⟩

theorem s_setLc {T : Tab} {k i : Nat} : ∀ (e : Ex) {E : XK} {X : Cx} {x : Str} {p pos vpos : Pos} {elt : Expr} {cm : Comprehension} {scope : Scope}, Gd T k E X → X.N[i]? = some x → X.env.scope.names.lookup x = some .local → swapsWith (.ListComp elt [cm] scope vpos) (some (.Name x p)) pos.line X.env = pure true → ckE T.way X.N X.env.scope e (.ListComp elt [cm] scope vpos) = true →
    PS X (.Assign [.Name x p] (.ListComp elt [cm] scope vpos) pos) (fun D σ H => wpE (cnOf T X.K k) E e σ H fun x H1 => D.nx (σ.set i (some x)) H1)
  | .us _ a, E, X, x, p, pos, vpos, elt, cm, scope, g, h1, hloc, hsw, h3 => s_setLc a g h1 hloc hsw (by simpa only [ckE] using h3)
  | .comp b tg it cs own, E, X, x, p, pos, vpos, elt, cm, scope, g, h1, hloc, hsw, h3 => by
    obtain ⟨t, iter, ifs, as⟩ := cm
    simp only [ckE] at h3
    split at h3
    · rename_i heq
      cases heq
      simp only [Bool.and_eq_true] at h3
      obtain ⟨⟨⟨⟨⟨⟨k1, k2⟩, k3⟩, k4⟩, k5⟩, k6⟩, k7⟩ := h3
      have bk := blkOk_by k1
      obtain ⟨wi', pi, hwi⟩ := sI it (tg := tg) g k2
      have base := ps_setLc (pos := vpos) (spos := pos) (py := p) (own := own) (g := tgR X.K tg) (tt := wpTs (cnOf T X.K k) cs) (te := wpE (cnOf T X.K k) E0 b) g.calm g.nd h1 hloc hsw pi bk
        (fun s H C cl fp => pg_of (X := X.blk s H scope (compEnvC scope cl C X.env) fp) (g.blk bk.kind s H C cl fp).calm g.nd (by
          intro y hy
          simp only [Bool.and_eq_true, Bool.or_eq_true, decide_eq_true_eq] at hy
          refine ⟨locB_ok hy.1, ?_⟩
          rcases hy.2 with z | z
          · exact .inr (localB_ok z)
          · exact .inl (by show (scope.names.lookup y == some NameKind.cell) = true; rw [z]; rfl)) k4)
        (fun s H C cl fp => sC cs (g.blk bk.kind s H C cl fp) k6)
        (fun s H C cl fp => sE b (g.blk bk.kind s H C cl fp) k7) (fun v => noSet_ok k3 X.env v)
      refine PS.imp base ?_
      intro D σ H q
      refine hwi σ H _ _ ?_ q
      intro s J H' hs hq d hd
      exact lcW_to hs k5 (hq d hd)
    · cases h3
  | .var _, E, X, x, p, pos, vpos, elt, cm, scope, g, h1, hloc, hsw, h3 => by simp [ckE] at h3
  | .mv _, E, X, x, p, pos, vpos, elt, cm, scope, g, h1, hloc, hsw, h3 => by simp [ckE] at h3
  | .con _, E, X, x, p, pos, vpos, elt, cm, scope, g, h1, hloc, hsw, h3 => by simp [ckE] at h3
  | .glb _, E, X, x, p, pos, vpos, elt, cm, scope, g, h1, hloc, hsw, h3 => by simp [ckE] at h3
  | .bin _ _ _, E, X, x, p, pos, vpos, elt, cm, scope, g, h1, hloc, hsw, h3 => by simp [ckE] at h3
  | .neg _, E, X, x, p, pos, vpos, elt, cm, scope, g, h1, hloc, hsw, h3 => by simp [ckE] at h3
  | .cmp _ _ _, E, X, x, p, pos, vpos, elt, cm, scope, g, h1, hloc, hsw, h3 => by simp [ckE] at h3
  | .chn _ _ _ _ _, E, X, x, p, pos, vpos, elt, cm, scope, g, h1, hloc, hsw, h3 => by simp [ckE] at h3
  | .and _ _, E, X, x, p, pos, vpos, elt, cm, scope, g, h1, hloc, hsw, h3 => by simp [ckE] at h3
  | .or _ _, E, X, x, p, pos, vpos, elt, cm, scope, g, h1, hloc, hsw, h3 => by simp [ckE] at h3
  | .not _, E, X, x, p, pos, vpos, elt, cm, scope, g, h1, hloc, hsw, h3 => by simp [ckE] at h3
  | .ite _ _ _, E, X, x, p, pos, vpos, elt, cm, scope, g, h1, hloc, hsw, h3 => by simp [ckE] at h3
  | .tup _, E, X, x, p, pos, vpos, elt, cm, scope, g, h1, hloc, hsw, h3 => by simp [ckE] at h3
  | .lst _, E, X, x, p, pos, vpos, elt, cm, scope, g, h1, hloc, hsw, h3 => by simp [ckE] at h3
  | .idx _ _, E, X, x, p, pos, vpos, elt, cm, scope, g, h1, hloc, hsw, h3 => by simp [ckE] at h3
  | .sl2 _ _ _, E, X, x, p, pos, vpos, elt, cm, scope, g, h1, hloc, hsw, h3 => by simp [ckE] at h3
  | .sl1 _ _, E, X, x, p, pos, vpos, elt, cm, scope, g, h1, hloc, hsw, h3 => by simp [ckE] at h3
  | .sl0 _ _, E, X, x, p, pos, vpos, elt, cm, scope, g, h1, hloc, hsw, h3 => by simp [ckE] at h3
  | .rev _, E, X, x, p, pos, vpos, elt, cm, scope, g, h1, hloc, hsw, h3 => by simp [ckE] at h3
  | .stp _ _ _, E, X, x, p, pos, vpos, elt, cm, scope, g, h1, hloc, hsw, h3 => by simp [ckE] at h3
  | .call _ _ _ _, E, X, x, p, pos, vpos, elt, cm, scope, g, h1, hloc, hsw, h3 => by simp [ckE] at h3
  | .blt _ _, E, X, x, p, pos, vpos, elt, cm, scope, g, h1, hloc, hsw, h3 => by simp [ckE] at h3
  | .isi _ _, E, X, x, p, pos, vpos, elt, cm, scope, g, h1, hloc, hsw, h3 => by simp [ckE] at h3
  | .lrg _, E, X, x, p, pos, vpos, elt, cm, scope, g, h1, hloc, hsw, h3 => by simp [ckE] at h3
  | .lzp _ _, E, X, x, p, pos, vpos, elt, cm, scope, g, h1, hloc, hsw, h3 => by simp [ckE] at h3
  | .mth _ _ _, E, X, x, p, pos, vpos, elt, cm, scope, g, h1, hloc, hsw, h3 => by simp [ckE] at h3

mutual
theorem sS {T : Tab} {k : Nat} : ∀ (a : Sm) {E : XK} {X : Cx} {s : Stmt}, Gd T k E X → (∀ x, X.fn x = true) → ckS T.way X.N X.env.scope a s = true → PS X s (wpS (cnOf T X.K k) E a)
  | .expr e, E, X, s, g, hf, h => by
    simp only [ckS] at h
    split at h
    · simp only [Bool.and_eq_true] at h
      exact ps_expr (sE e g h.1) (noComp_ok h.2 _ _ _)
    · cases h
  | .ret e, E, X, s, g, hf, h => by
    simp only [ckS] at h
    split at h
    · exact ps_ret (sE e g h)
    · cases h
  | .retN, E, X, s, g, hf, h => by
    simp only [ckS] at h
    split at h
    · exact ps_retN
    · cases h
  | .asg i e, E, X, s, g, hf, h => by
    simp only [ckS] at h
    split at h
    · rename_i x p v pos
      simp only [Bool.and_eq_true, decide_eq_true_eq, Bool.or_eq_true] at h
      obtain ⟨⟨⟨h1, h2⟩, h3⟩, h4⟩ := h
      rcases h4 with h4 | h4
      · exact ps_set g.nd h1 (locB_ok h2) (sE e g h3) (noComp_ok h4 _ _ _) (.inl (hf x))
      · split at h4
        · rename_i elt cm scope vpos
          cases hb : (X.env.blockKind == .function && X.env.kindOf x == some .local && p.line == vpos.line && !(scope.names.any fun (n, k) => n == x && (k == .local || k == .cell))) with
          | false =>
            refine ps_set g.nd h1 (locB_ok h2) (sE e g h3) ?_ (.inl (hf x))
            show (pure _ : Sem Bool) = pure false
            exact congrArg pure hb
          | true =>
            have hsw : swapsWith (.ListComp elt [cm] scope vpos) (some (.Name x p)) pos.line X.env = pure true := congrArg pure hb
            simp only [Bool.and_eq_true, beq_iff_eq] at hb
            have hloc : X.env.scope.names.lookup x = some .local := hb.1.1.2
            exact s_setLc e g h1 hloc hsw h3
        · cases h4
    · cases h
  | .unp is e, E, X, s, g, hf, h => by
    simp only [ckS] at h
    split at h
    · rename_i ts kk p v pos
      simp only [Bool.and_eq_true] at h
      obtain ⟨⟨⟨h1, h2⟩, h3⟩, h4⟩ := h
      have pg : PG X (.Tuple ts kk p) (tgR X.K (.tup is)) := pg_of g.calm g.nd (ok := locB X.env.scope) (fun x hx => ⟨locB_ok hx, .inl (hf x)⟩) h1
      have hw : swappedStores [.Tuple ts kk p] v X.env = pure none := by
        split at h4
        · exact stores_none3 (by simpa using h4)
        · rename_i hne
          exact stores_none2 (fun vs k2 p2 e => hne vs k2 p2 e)
      refine PS.imp (ps_asg (PE.up (sE e g h2)) pg (sole_of (noComp_ok h3 (some (.Tuple ts kk p)) pos.line X.env)) hw rfl) ?_
      intro D σ H q
      refine ⟨_, q, fun x H1 q1 => ?_⟩
      split at q1
      · obtain ⟨xs, z1, z2, z3⟩ := q1.to
        exact gTup_of z1 z2 z3
      · exact q1.elim
    · cases h
  | .par is es, E, X, s, g, hf, h => by
    simp only [ckS] at h
    split at h
    · rename_i ts kt pt vs k2 p2 pos
      simp only [Bool.and_eq_true, decide_eq_true_eq] at h
      obtain ⟨⟨⟨h1, h2⟩, h3⟩, h4⟩ := h
      exact s_par es g h1 h2 h3 h4
    · cases h
  | .setI o i e, E, X, s, g, hf, h => by
    simp only [ckS] at h
    split at h
    · rename_i x y p v pos
      simp only [Bool.and_eq_true] at h
      obtain ⟨⟨⟨⟨h1, h2⟩, h3⟩, h4⟩, h5⟩ := h
      have pg := pg_sub (pos := p) (PE.up (sE o g h2)) (PE.up (sE i g h3)) (set_list (X := X)) (by intro w; cases y <;> first | rfl | (cases h4; done))
      refine PS.imp (ps_asg (PE.up (sE e g h1)) pg (sole_of (noComp_ok h5 (some (.Subscript x y p)) pos.line X.env)) stores_none1 rfl) ?_
      intro D σ H q
      refine ⟨_, q, fun w H1 q1 => ⟨_, q1, fun a H2 q2 => ⟨_, q2, fun b H3 q3 => ?_⟩⟩⟩
      split at q3
      · obtain ⟨xs, j, z1, z2, z3⟩ := q3
        exact ⟨_, xs, _, j, rfl, rfl, z1, z2, z3⟩
      · exact q3.elim
    · cases h
  | .setI2 o i o2 i2 e, E, X, s, g, hf, h => by
    simp only [ckS] at h
    split at h
    · rename_i x y p x2 y2 p2 kk pt v pos
      simp only [Bool.and_eq_true] at h
      obtain ⟨⟨⟨⟨⟨h1, h2⟩, h3⟩, h4⟩, ⟨h5, h6⟩, h7⟩, h8⟩ := h
      have pg1 := pg_sub (pos := p) (PE.up (sE o g h2)) (PE.up (sE i g h3)) (set_list (X := X)) (by intro w; cases y <;> first | rfl | (cases h4; done))
      have pg2 := pg_sub (pos := p2) (PE.up (sE o2 g h5)) (PE.up (sE i2 g h6)) (set_list (X := X)) (by intro w; cases y2 <;> first | rfl | (cases h7; done))
      have pg := pg_tup (k := kk) (pos := pt) g.calm (pgs_cons pg1 (pgs_cons pg2 pgs_nil))
      have hw : swappedStores [.Tuple [.Subscript x y p, .Subscript x2 y2 p2] kk pt] v X.env = pure none := by
        cases v <;> first | exact stores_none3 rfl | (refine stores_none2 ?_; intro _ _ _ z; cases z; done)
      refine PS.imp (ps_asg (PE.up (sE e g h1)) pg (sole_of (noComp_ok h8 (some (.Tuple [.Subscript x y p, .Subscript x2 y2 p2] kk pt)) pos.line X.env)) hw rfl) ?_
      intro D σ H q
      refine ⟨_, q, fun x H1 q1 => ?_⟩
      split at q1
      · obtain ⟨ys, z1, z2⟩ := q1.to
        split at z2
        · refine ⟨_, _, rfl, z1, rfl, _, _, rfl, ⟨_, z2, fun a H2 q2 => ⟨_, q2, fun b H3 q3 => ?_⟩⟩⟩
          split at q3
          · obtain ⟨xs, j, w1, w2, w3⟩ := q3
            refine ⟨_, xs, _, j, rfl, rfl, w1, w2, _, _, rfl, ⟨_, w3, fun a H4 q4 => ⟨_, q4, fun b H5 q5 => ?_⟩⟩⟩
            split at q5
            · obtain ⟨xs, j, u1, u2, u3⟩ := q5
              exact ⟨_, xs, _, j, rfl, rfl, u1, u2, rfl, u3⟩
            · exact q5.elim
          · exact q3.elim
        · exact z2.elim
      · exact q1.elim
    · cases h
  | .aug i op e, E, X, s, g, hf, h => by
    simp only [ckS] at h
    split at h
    · rename_i x p op' v pos
      simp only [Bool.and_eq_true, decide_eq_true_eq] at h
      obtain ⟨⟨⟨h1, h2⟩, rfl⟩, h3⟩ := h
      refine PS.imp (ps_aug g.nd h1 (locB_ok h2) (sE e g h3) opIp_ok (.inl (hf x))) ?_
      intro D σ H q
      simp only [wpS] at q
      split at q
      · exact ⟨_, by assumption, q⟩
      · exact q.elim
    · cases h
  | .augI o i op e, E, X, s, g, hf, h => by
    simp only [ckS] at h
    split at h
    · simp only [Bool.and_eq_true, decide_eq_true_eq] at h
      obtain ⟨⟨⟨⟨h1, h2⟩, h3⟩, rfl⟩, h4⟩ := h
      refine PS.imp (ps_augS (PE.up (sE o g h1)) (PE.up (sE i g h2)) get_list (PE.up (sE e g h4)) (OpR.up opIp_ok) set_list (noSlice_aug h3)) ?_
      intro D σ H q
      refine ⟨_, q, fun x H1 q1 => ⟨_, q1, fun y H2 q2 => ?_⟩⟩
      split at q2
      · obtain ⟨xs, u, z1, z2, z3, z4⟩ := q2
        refine ⟨_, xs, _, _, u, rfl, rfl, z1, z2, rfl, z3, _, z4, fun w H3 q3 => ⟨_, q3, fun z H4 q4 => ?_⟩⟩
        obtain ⟨ys, w1, w2, w3⟩ := q4
        refine ⟨_, ys, _, _, rfl, rfl, w1, ?_, w3⟩
        unfold ixN
        rw [if_pos z2, if_pos w2]
      · exact q2.elim
    · cases h
  | .ife t a b, E, X, s, g, hf, h => by
    simp only [ckS] at h
    split at h
    · simp only [Bool.and_eq_true] at h
      exact ps_if (sT t g h.1.1) (sSs a g hf h.1.2) (sSs b g hf h.2)
    · cases h
  | .forI tg it b, E, X, s, g, hf, h => by
    simp only [ckS] at h
    split at h
    · simp only [Bool.and_eq_true] at h
      obtain ⟨⟨⟨h1, h2⟩, h3⟩, h4⟩ := h
      obtain ⟨wi', pi, hwi⟩ := sI it (tg := tg) g h1
      refine PS.imp (ps_for g.own g.calm pi (pg_of g.calm g.nd (ok := locB X.env.scope) (fun x hx => ⟨locB_ok hx, .inl (hf x)⟩) h3) (sSs b g hf h4) (fun v => noSet_ok h2 X.env v)) ?_
      intro D σ H q
      refine hwi σ H _ _ ?_ q
      intro s J H' hs hq
      exact forW_to hs hq
    · cases h
  | .whl t b, E, X, s, g, hf, h => by
    simp only [ckS] at h
    split at h
    · simp only [Bool.and_eq_true] at h
      refine PS.imp (ps_while g.own (PT.up (sT t g h.1)) (sSs b g hf h.2)) ?_
      intro D σ H q
      obtain ⟨W, w0, wt⟩ := q
      refine ⟨W, w0, ?_⟩
      intro m σ' H' q'
      refine ⟨_, wt m σ' H' q', fun c H1 q1 => ?_⟩
      cases c with
      | true => exact ⟨_, fun σ2 H2 z => z, q1⟩
      | false => exact q1
    · cases h
  | .pass, E, X, s, g, hf, h => by
    simp only [ckS] at h
    split at h
    · exact ps_pass
    · cases h
  | .brk, E, X, s, g, hf, h => by
    simp only [ckS] at h
    split at h
    · exact ps_break
    · cases h
  | .cont, E, X, s, g, hf, h => by
    simp only [ckS] at h
    split at h
    · exact ps_continue
    · cases h
  | .never, E, X, s, g, hf, h => ps_never
theorem sSs {T : Tab} {k : Nat} : ∀ (a : Ss) {E : XK} {X : Cx} {s : List Stmt}, Gd T k E X → (∀ x, X.fn x = true) → ckSs T.way X.N X.env.scope a s = true → PSs X s (wpSs (cnOf T X.K k) E a)
  | .nil, E, X, [], g, hf, h => pss_nil
  | .nil, E, X, _ :: _, g, hf, h => by cases h
  | .cons a r, E, X, [], g, hf, h => by cases h
  | .cons a r, E, X, s :: ss, g, hf, h => by
    simp only [ckSs, Bool.and_eq_true] at h
    exact pss_cons (sS a g hf h.1) (sSs r g hf h.2)
end
end VC

namespace VC
open PySem PySem.Spec PyProof.Rows L2

structure DefF (T : Tab) (K : PySem.W.Frag) (mg : Str → Option Value) (x : Str) (F : Fn) : Prop where
  ex : ∃ (f : Addr) (fd : FuncData) (qual : Str) (params : Arguments) (body : List Stmt) (scope : Scope) (kws : List (Str × V)), mg x = some (.ref f) ∧ FunD K x qual params body scope [] kws f fd ∧ FnScope F.N F.ps scope ∧
    ckSs T.way F.N scope F.body body = true ∧
    ∀ (n : Nat) (ks : List Str), T.way x n ks = true → ∀ (s : Shared) (us ws : List Value), K.In s.heap → us.length = n → ws.length = ks.length →
      BindsTo s fd ⟨us, ks.zip ws⟩ (F.ps.zip (arrange F.ps ks Value.none us ws))

theorem fnG_tab {T : Tab} {P : Program} {w : World} {K : PySem.W.Frag} {mg : Str → Option Value} {base : Heap} {k : Nat} {x qual : Str} {F : Fn} {params : Arguments} {body : List Stmt} {scope : Scope} {dvs : List V} {kws : List (Str × V)} {f : Addr} {fd : FuncData}
    (ih : Facts T P w K mg base k) (hx : T.fns.lookup x = some F) (h2 : FunD K x qual params body scope dvs kws f fd) (h3 : FnScope F.N F.ps scope) (h4 : ckSs T.way F.N scope F.body body = true) :
    FnG P w K mg base (k + 1) f fd F.ps (SPn T K (k + 1) x) := by
  refine fnG_of h2 h3 ?_ ?_
  · intro vs H Q E h
    simp only [SPn, hx] at h
    exact h.1
  · intro cdv A outer s H vs Q E hgu hr h
    simp only [SPn, hx] at h
    refine ⟨wpSs (cnOf T K k) E F.body, ?_, h.2⟩
    refine sSs (T := T) (k := k) F.body (X := cxOf (L2.CX P w) P w K mg base F.N qual scope f cdv A outer s H E) ?_ (fun _ => rfl) h4
    exact { calm := rfl, nd := h3.nd, kind := h3.kind, room := hr, gu := hgu,
            pass := passes_call (takes_of rfl rfl rfl rfl) (fun _ _ _ _ z => z),
            own := passes_of rfl, fx := ih }

theorem facts_of {T : Tab} {P : Program} {w : World} {K : PySem.W.Frag} {mg : Str → Option Value} {base : Heap}
    (hF : ∀ x F, T.fns.lookup x = some F → DefF T K mg x F) (hc : ∀ x v, T.cons.lookup x = some v → ∃ u, mg x = some u ∧ RelV v u) (hb : ∀ x ∈ bltNames, mg x = none) :
    ∀ k, Facts T P w K mg base k
  | 0 => by
    refine ⟨fun x F hx => ?_, hc, hb⟩
    obtain ⟨f, fd, qual, params, body, scope, kws, h1, h2, h3, h4, h5⟩ := (hF x F hx).ex
    exact ⟨f, fd, h1, h2.kp, ⟨fun _ _ _ _ z => z.elim, fun _ _ _ _ _ _ _ _ _ _ _ _ _ _ z => z.elim⟩, h5⟩
  | k + 1 => by
    refine ⟨fun x F hx => ?_, hc, hb⟩
    obtain ⟨f, fd, qual, params, body, scope, kws, h1, h2, h3, h4, h5⟩ := (hF x F hx).ex
    exact ⟨f, fd, h1, h2.kp, fnG_tab (facts_of hF hc hb k) hx h2 h3 h4, h5⟩

theorem way_none {T : Tab} {x : Str} {n : Nat} {ks : List Str} {F : Fn} (hx : T.fns.lookup x = some F) (h : T.way x n ks = true) : (ks = [] ∧ n = F.ps.length) ∨ (x, n, ks) ∈ T.kp := by
  simp only [Tab.way, hx, Bool.or_eq_true, Bool.and_eq_true, List.isEmpty_iff, beq_iff_eq, List.contains_iff_mem] at h
  exact h
end VC

namespace VC
open PySem PySem.Spec PyProof.Rows L2

def fscB (N ps : List Str) (sc : Scope) : Bool :=
  (match sc.kind with
    | .function => true
    | _ => false) && !sc.isCoroutine && !sc.isGenerator && decide N.Nodup && decide (N.take ps.length = ps) && ps.all (locB sc) && sc.names.all fun y => decide (y.2 ≠ .free)
theorem fscB_ok {N ps : List Str} {sc : Scope} (h : fscB N ps sc = true) : FnScope N ps sc := by
  simp only [fscB, Bool.and_eq_true, Bool.not_eq_true', decide_eq_true_eq, List.all_eq_true] at h
  obtain ⟨⟨⟨⟨⟨⟨h1, h2⟩, h3⟩, h4⟩, h5⟩, h6⟩, h7⟩ := h
  refine ⟨?_, h2, h3, h4, h5, fun x hx => locB_ok (h6 x hx), h7⟩
  split at h1
  · assumption
  · cases h1

def bindsB (x qual : Str) (a : Arguments) (body : List Stmt) (sc : Scope) (ps : List Str) (n : Nat) (ks : List Str) : Prop :=
  ∀ (kV doc pm : Value) (an : Option Addr) (cdv ct : Value) (us ws : List Value), us.length = n → ws.length = ks.length →
    bindArgs (PySem.W.fnOf x qual a body sc .none kV doc pm an cdv ct) ⟨us, ks.zip ws⟩ = pure (ps.zip (arrange ps ks Value.none us ws))

theorem defF_of {T : Tab} {K : PySem.W.Frag} {mg : Str → Option Value} {x qual : Str} {F : Fn} {a : Arguments} {body : List Stmt} {sc : Scope} {kws : List (Str × V)} {f : Addr} {fd : FuncData}
    (hx : T.fns.lookup x = some F) (hm : mg x = some (.ref f)) (D : FunD K x qual a body sc [] kws f fd) (hs : fscB F.N F.ps sc = true) (hc : ckSs T.way F.N sc F.body body = true)
    (hb : bindsB x qual a body sc F.ps F.ps.length []) (hk : ∀ n ks, (x, n, ks) ∈ T.kp → bindsB x qual a body sc F.ps n ks) : DefF T K mg x F := by
  refine ⟨f, fd, qual, a, body, sc, kws, hm, D, fscB_ok hs, hc, ?_⟩
  intro n ks h s us ws hK hu hw
  obtain ⟨oc, od, dV, kV, doc, pm, an, cdv, ct, osl, rfl, lk, hcd, hD, hKw⟩ := D.ex
  rcases hD with ⟨_, rfl⟩ | ⟨e, _⟩
  · rcases way_none hx h with ⟨rfl, rfl⟩ | hm'
    · exact .of_eq (hb kV doc pm an cdv ct us ws hu hw)
    · exact .of_eq (hk n ks hm' kV doc pm an cdv ct us ws hu hw)
  · exact absurd rfl e

theorem lookup_mem' {α : Type} : ∀ {l : List (Str × α)} {x : Str} {v : α}, l.lookup x = some v → (x, v) ∈ l
  | (k, w) :: r, x, v, h => by
    rw [List.lookup_cons] at h
    cases hb : x == k with
    | true =>
      rw [hb] at h
      have e := eq_of_beq hb
      cases h
      subst e
      exact List.mem_cons_self
    | false =>
      rw [hb] at h
      exact List.mem_cons_of_mem _ (lookup_mem' h)
end VC

namespace VC
open PySem PySem.Spec PyProof.Rows L2

def Tab.has (T : Tab) (x : Str) (F : Fn) : Prop := T.fns.lookup x = some F
theorem SPn_of {T : Tab} {K : PySem.W.Frag} {k : Nat} {x : Str} {F : Fn} {vs : List V} {H : Hp} {Q : VK} {E : XK} (hx : T.has x F) (hl : vs.length = F.ps.length)
    (h : wpSs (cnOf T K k) E F.body { nx := fun _ H' => Q .non H', rt := Q } (L2.start F.N vs) H) : SPn T K (k + 1) x vs H Q E := by
  show (match T.fns.lookup x with
    | none => False
    | some F => vs.length = F.ps.length ∧ _)
  rw [show T.fns.lookup x = some F from hx]
  exact ⟨hl, h⟩

def nl (ns : List Nat) : List V := ns.map fun (n : Nat) => V.int (n : Int)
theorem ixN_of {n : Nat} {j : Int} (h0 : 0 ≤ j) (h1 : j < n) : ixN n j = some j.toNat := by
  unfold ixN
  rw [if_pos h0, if_pos h1]
theorem fit {n : Nat} (h : n ≤ 100000) : n ≤ sizeLine := Nat.le_trans h (by decide)
theorem fit1 {n : Nat} (h : n < 100000) : n < sizeLine := Nat.lt_of_lt_of_le h (by decide)

theorem if_dec {p : Prop} [Decidable p] {A B : Prop} (h1 : p → A) (h2 : ¬ p → B) : if decide p = true then A else B := by
  by_cases h : p
  · rw [if_pos (decide_eq_true h)]; exact h1 h
  · rw [if_neg (by rw [decide_eq_false h]; decide)]; exact h2 h
theorem if_ndec {p : Prop} [Decidable p] {A B : Prop} (h1 : ¬ p → A) (h2 : p → B) : if (!decide p) = true then A else B := by
  by_cases h : p
  · rw [if_neg (by rw [decide_eq_true h]; decide)]; exact h2 h
  · rw [if_pos (by rw [decide_eq_false h]; decide)]; exact h1 h
theorem if_T {A B : Prop} (h : A) : if true = true then A else B := by rw [if_pos rfl]; exact h
theorem if_F {A B : Prop} (h : B) : if false = true then A else B := by rw [if_neg (by decide)]; exact h
theorem if_nT {A B : Prop} (h : B) : if (!true) = true then A else B := by rw [if_neg (by decide)]; exact h
theorem if_nF {A B : Prop} (h : A) : if (!false) = true then A else B := by rw [if_pos (by decide)]; exact h

section
variable {c : Cn} {E : XK} {σ : L2.St} {H H' : Hp} {Q : VK} {D : Ends} {i j : Int} {v x y : V}

theorem e_var {n : Nat} (h : σ[n]? = some (some v)) (q : Q v H) : wpE c E (.var n) σ H Q := by
  simp only [wpE, h]; exact q
theorem e_int {n : Int} (q : Q (.int n) H) : wpE c E (.con (.int n)) σ H Q := q
theorem e_idx {a b : Ex} (q : wpE c E a σ H fun x H1 => wpE c E b σ H1 fun y H2 => idxW c.K x y H2 Q) : wpE c E (.idx a b) σ H Q := q
theorem e_callP {T : Tab} {K : PySem.W.Frag} {k : Nat} {f : Str} {es : Exs} (q : wpEs (cnOf T K k) E es σ H fun vs H1 => vs.length = es.len ∧ SPn T K k f vs H1 Q E) : wpE (cnOf T K k) E (.call f es [] .nil) σ H Q := by
  have e : ∀ (ps : List Str) (vs : List V), arrange ps [] V.non vs [] = vs := fun _ _ => rfl
  simp only [wpE, wpEs, List.length_nil, true_and, e]
  exact q
theorem e_mth {m : Str} {o : Ex} {es : Exs} (q : wpE c E o σ H fun x H1 => match x with
    | .ref a => match H1 a with
      | some (.lst _) => wpEs c E es σ H1 fun vs H2 => mthW c.K m x vs H2 Q
      | _ => False
    | _ => False) : wpE c E (.mth m o es) σ H Q := q
theorem es_nil {P : List V → Hp → Prop} (q : P [] H) : wpEs c E .nil σ H P := q
theorem es_cons {e : Ex} {es : Exs} {P : List V → Hp → Prop} (q : wpE c E e σ H fun x H1 => wpEs c E es σ H1 fun xs H2 => P (x :: xs) H2) : wpEs c E (.cons e es) σ H P := q

theorem i_l {K : PySem.W.Frag} {p : Addr} {xs : List V} (hp : H p = some (.lst xs)) (ha : atI xs j = some v) (q : Q v H) : idxW K (.ref p) (.int j) H Q := by
  show onS K H p _
  rw [onS_l hp]
  exact ⟨_, ha, q⟩
theorem i_t {K : PySem.W.Frag} {p : Addr} {xs : List V} (hp : H p = some (.tup xs)) (ha : atI xs j = some v) (q : Q v H) : idxW K (.ref p) (.int j) H Q := by
  show onS K H p _
  rw [onS_t hp]
  exact ⟨_, ha, q⟩
variable {P : Bool → Hp → Prop}
variable {R : Src → Hp → Prop}
theorem s_aug {n : Nat} {op : Operator} {e : Ex} (h : σ[n]? = some (some x)) (q : wpE c E e σ H fun y H1 => opIp op x y H1 fun z H2 => D.nx (σ.set n (some z)) H2) : wpS c E (.aug n op e) D σ H := by
  simp only [wpS, h]; exact q
end

section
variable {K : PySem.W.Frag} {σ : L2.St} {H : Hp} {D : Ends} {tb : TS} {a b : Addr} {xs ys : List V} {j l : Nat}
end
section
variable {K : PySem.W.Frag} {σ : L2.St} {H : Hp} {tt : TT} {te : TE} {Q : VK} {a b d : Addr} {xs ys : List V} {j l : Nat}
end

theorem cmul_of {i j : Int} (hi : -1267650600228229401496703205376 < i ∧ i < 1267650600228229401496703205376) (hj : -1267650600228229401496703205376 < j ∧ j < 1267650600228229401496703205376) : CMulW i j := by
  refine wide_mul (a := 100) (b := 100) ?_ ?_ (by omega) (by omega) (by omega)
  · have e : (2 : Nat) ^ 100 = 1267650600228229401496703205376 := by decide +kernel
    omega
  · have e : (2 : Nat) ^ 100 = 1267650600228229401496703205376 := by decide +kernel
    omega
theorem cdiv_of {i j : Int} (hj : 0 < j ∧ j < 1267650600228229401496703205376) : CDivW i j := by
  refine wide_div (b := 100) hj.1 ?_ (by omega) (by omega)
  have e : (2 : Nat) ^ 100 = 1267650600228229401496703205376 := by decide +kernel
  omega
theorem mul_bd {a b A B : Int} (h0 : 0 ≤ a) (h1 : a ≤ A) (h2 : 0 ≤ b) (h3 : b ≤ B) : 0 ≤ a * b ∧ a * b ≤ A * B :=
  ⟨Int.mul_nonneg h0 h2, Int.mul_le_mul h1 h3 h2 (by omega)⟩
end VC

namespace VC
open PySem PySem.Spec PyProof.Rows L2

mutual
def okD : PyData → Bool
  | .none | .bool _ => true
  | .int i => decide (i.natAbs < 10000000000000000000000000000000000000000)
  | .str x => PyData.strOk x
  | .list xs | .tuple xs => okAll xs
  | .dict _ => false
def okAll : List PyData → Bool
  | [] => true
  | x :: xs => okD x && okAll xs
end
theorem shown_int_len {i : Int} (h : i.natAbs < 10000000000000000000000000000000000000000) : (PyData.shown (.int i)).length ≤ 41 := by
  have e := int_text_length_le10 (k := 40) (by decide) (show i.natAbs < 10 ^ 40 by
    have : (10 : Nat) ^ 40 = 10000000000000000000000000000000000000000 := by decide +kernel
    omega)
  show (Str.ofString (toString i)).length ≤ 41
  rw [PySem.ofString_length]; exact e
theorem log_big {i : Int} (h : i.natAbs < 10000000000000000000000000000000000000000) : i.natAbs.log2 < 133 := by
  by_cases h0 : i.natAbs = 0
  · rw [h0]; decide
  · exact (Nat.log2_lt h0).mpr (by have : (2 : Nat) ^ 133 = 10889035741470030830827987437816582766592 := by decide +kernel
                                   omega)
theorem log_int {i : Int} (h : 0 ≤ i ∧ i < 1000000000000) : i.natAbs.log2 < 40 := by
  by_cases h0 : i.natAbs = 0
  · rw [h0]; decide
  · exact (Nat.log2_lt h0).mpr (by have : (2 : Nat) ^ 40 = 1099511627776 := by decide +kernel
                                   omega)
mutual
theorem okD_all : ∀ d : PyData, okD d = true → d.showable = true ∧ d.canLay0 = true ∧ d.intsShort 41 = true
  | .none, _ => ⟨rfl, rfl, rfl⟩
  | .bool _, _ => ⟨rfl, rfl, rfl⟩
  | .int i, h => by
    have h' : i.natAbs < 10000000000000000000000000000000000000000 := by
      rw [okD] at h
      exact of_decide_eq_true h
    refine ⟨?_, rfl, ?_⟩
    · rw [PyData.showable]; exact decide_eq_true (Nat.lt_trans (log_big h') (by decide))
    · rw [PyData.intsShort]; exact decide_eq_true (shown_int_len h')
  | .str x, h => by
    have h' : PyData.strOk x = true := by simpa [okD] using h
    exact ⟨rfl, by rw [PyData.canLay0]; exact h', rfl⟩
  | .list xs, h => by
    have := okAll_all xs (by simpa [okD] using h)
    exact ⟨by rw [PyData.showable]; exact this.1, by rw [PyData.canLay0]; exact this.2.1, by rw [PyData.intsShort]; exact this.2.2⟩
  | .tuple xs, h => by
    have := okAll_all xs (by simpa [okD] using h)
    exact ⟨by rw [PyData.showable]; exact this.1, by rw [PyData.canLay0]; exact this.2.1, by rw [PyData.intsShort]; exact this.2.2⟩
  | .dict _, h => by simp [okD] at h
theorem okAll_all : ∀ xs : List PyData, okAll xs = true → PyData.showableAll xs = true ∧ PyData.canLayAll0 xs = true ∧ PyData.intsShortAll 41 xs = true
  | [], _ => ⟨rfl, rfl, rfl⟩
  | x :: xs, h => by
    have h' : okD x = true ∧ okAll xs = true := by simpa [okAll] using h
    have h1 := okD_all x h'.1
    have h2 := okAll_all xs h'.2
    refine ⟨?_, ?_, ?_⟩
    · rw [PyData.showableAll, h1.1, h2.1]; rfl
    · rw [PyData.canLayAll0, h1.2.1, h2.2.1]; rfl
    · rw [PyData.intsShortAll, h1.2.2, h2.2.2]; rfl
end
structure DOk (d : PyData) (n w : Nat) : Prop where
  ok : okD d = true
  dp : d.depth ≤ n
  wt : d.weight ≤ w
theorem DOk.mono {d : PyData} {n w m u : Nat} (h : DOk d n w) (hn : n ≤ m) (hw : w ≤ u) : DOk d m u := ⟨h.ok, Nat.le_trans h.dp hn, Nat.le_trans h.wt hw⟩
theorem DOk.eqv {d : PyData} {n w : Nat} (h : DOk d n w) : PyData.eqv d d = true := SeqAt.eqv_refl d (okD_all d h.ok).2.1
theorem DOk.shaped {d : PyData} {n w : Nat} (h : DOk d n w) (hn : n ≤ 60) : SeqAt.shaped d = true := by
  unfold SeqAt.shaped
  rw [(okD_all d h.ok).2.1, decide_eq_true (by have := h.dp; omega)]; rfl
theorem DOk.repr {d : PyData} {n w : Nat} (h : DOk d n w) (hn : n ≤ 60) (hw : w ≤ 300000) : d.showable = true ∧ d.hasDict = false ∧ d.depth ≤ 60 ∧ d.shown.length ≤ sizeLine := by
  have a := okD_all d h.ok
  refine ⟨a.1, PyData.hasDict_of_canLay d a.2.1, Nat.le_trans h.dp hn, ?_⟩
  have h2 := PyData.shown_le 41 (by decide) d (PyData.leavesShort_of_canLay0 41 d a.2.1 a.2.2)
  have h3 := h.wt
  rw [sizeLine_eq]
  omega
def dN (ns : List Nat) : PyData := .list (ns.map fun (n : Nat) => .int (n : Int))
theorem dOk_int {i : Int} (h : 0 ≤ i ∧ i < 1000000000000) : DOk (.int i) 0 41 := by
  refine ⟨by rw [okD]; exact decide_eq_true (by omega), by rw [PyData.depth]; exact Nat.le_refl _, ?_⟩
  rw [PyData.weight]
  have := log_int h
  split <;> omega
structure DsOk (ds : List PyData) (n w : Nat) : Prop where
  ok : okAll ds = true
  dp : PyData.depthAll ds ≤ n
  wt : PyData.weightAll ds ≤ w
theorem DsOk.nil {n w : Nat} : DsOk [] n w := ⟨rfl, Nat.zero_le _, Nat.zero_le _⟩
theorem DsOk.cons {d : PyData} {ds : List PyData} {n w u : Nat} (h : DOk d n w) (hs : DsOk ds n u) : DsOk (d :: ds) n (w + 1 + u) := by
  refine ⟨?_, ?_, ?_⟩
  · rw [okAll, h.ok, hs.ok]; rfl
  · rw [PyData.depthAll]; have := h.dp; have := hs.dp; omega
  · rw [PyData.weightAll]; have := h.wt; have := hs.wt; omega
theorem DsOk.list {ds : List PyData} {n w : Nat} (h : DsOk ds n w) : DOk (.list ds) (n + 1) w := ⟨by rw [okD]; exact h.ok, by rw [PyData.depth]; have := h.dp; omega, by rw [PyData.weight]; exact h.wt⟩
theorem DsOk.tuple {ds : List PyData} {n w : Nat} (h : DsOk ds n w) : DOk (.tuple ds) (n + 1) w := ⟨by rw [okD]; exact h.ok, by rw [PyData.depth]; have := h.dp; omega, by rw [PyData.weight]; exact h.wt⟩
theorem DsOk.of_all {n w : Nat} : ∀ {ds : List PyData}, (∀ d, d ∈ ds → DOk d n w) → DsOk ds n ((w + 1) * ds.length)
  | [], _ => DsOk.nil
  | d :: ds, h => by
    have e : (w + 1) * (d :: ds).length = w + 1 + (w + 1) * ds.length := by rw [List.length_cons, Nat.mul_succ]; omega
    rw [e]
    exact DsOk.cons (h d (by simp)) (DsOk.of_all fun x hx => h x (by simp [hx]))
theorem dOk_dN {ns : List Nat} (h : ∀ n, n ∈ ns → n < 1000000000000) : DOk (dN ns) 1 (42 * ns.length) := by
  have := (DsOk.of_all (n := 0) (w := 41) (ds := ns.map fun (n : Nat) => PyData.int (n : Int)) (fun d hd => by
    obtain ⟨n, hn, rfl⟩ := List.mem_map.mp hd
    have := h n hn
    exact dOk_int (by omega))).list
  rw [List.length_map] at this
  exact this
theorem dp_l {K : PySem.W.Frag} {H : Hp} {a : Addr} {xs : List V} {ds : List PyData} (h : H a = some (.lst xs)) (hs : DpAll K H xs ds) : Dp K H (.ref a) (.list ds) := Dp.lst (.inl (.inl h)) hs
theorem eqv_dN (a b : List Nat) : PyData.eqv (dN a) (dN b) = decide (a = b) := by
  unfold dN
  rw [PyData.eqv]
  induction a generalizing b with
  | nil => cases b <;> simp [PyData.eqvAll]
  | cons x xs ih => cases b with
    | nil => simp [PyData.eqvAll]
    | cons y ys =>
      rw [List.map_cons, List.map_cons, PyData.eqvAll, ih, PyData.eqv]
      by_cases h : x = y
      · subst h; simp
      · have : ((x : Int) == (y : Int)) = false := by simp; omega
        simp [this, h]

section
variable {c : Cn} {E : XK} {σ : L2.St} {H H' : Hp} {Q : VK} {D : Ends} {i j : Int} {v x y : V}
theorem o_rep {a : Addr} {xs : List V} {k : Int} (h : H a = some (.lst xs)) (hk : 0 ≤ k ∧ k ≤ 1000) (hx : xs.length ≤ 100) (q : alloc H (.lst (List.replicate k.toNat xs).flatten) Q) : opBin .Mult (.ref a) (.int k) H Q := by
  refine ⟨xs, h, by omega, by omega, ?_, q⟩
  refine fit ?_

  exact Nat.le_trans (Nat.mul_le_mul hx (show k.toNat ≤ 1000 by omega)) (by decide)
end
end VC

namespace VC
open PySem PySem.Spec PyProof.Rows L2

structure RowsAt (H : Hp) (a : Addr) (as : List Addr) (xss : List (List V)) : Prop where
  top : H a = some (.lst (as.map V.ref))
  len : as.length = xss.length
  row : ∀ (i : Nat) (p : Addr) (xs : List V), as[i]? = some p → xss[i]? = some xs → H p = some (.lst xs)
  nd : (a :: as).Nodup
theorem RowsAt.same {H H1 : Hp} {a : Addr} {as : List Addr} {xss : List (List V)} (h : RowsAt H a as xss) (s : Same H H1) : RowsAt H1 a as xss :=
  ⟨s _ _ h.top, h.len, fun i p xs h1 h2 => s _ _ (h.row i p xs h1 h2), h.nd⟩
theorem RowsAt.nil {H : Hp} {a : Addr} (h : H a = some (.lst [])) : RowsAt H a [] [] := ⟨h, rfl, fun i p xs h1 => by simp at h1, by simp⟩
theorem RowsAt.mem {H : Hp} {a : Addr} {as : List Addr} {xss : List (List V)} (h : RowsAt H a as xss) {p : Addr} (hp : p ∈ as) : ∃ xs, H p = some (.lst xs) := by
  obtain ⟨i, hi, e⟩ := List.getElem_of_mem hp
  have h2 : i < xss.length := by have := h.len; omega
  exact ⟨_, h.row i p _ (by rw [List.getElem?_eq_getElem hi, e]) (List.getElem?_eq_getElem h2)⟩
theorem RowsAt.out {H : Hp} {a : Addr} {as : List Addr} {xss : List (List V)} (h : RowsAt H a as xss) {p : Addr} (hp : H p = none) : p ∉ a :: as := by
  intro hm
  rcases List.mem_cons.mp hm with e | e
  · rw [e, h.top] at hp; cases hp
  · obtain ⟨xs, e'⟩ := h.mem e
    rw [e'] at hp; cases hp
theorem RowsAt.snoc {H : Hp} {a p : Addr} {as : List Addr} {xss : List (List V)} {xs : List V} (h : RowsAt H a as xss) (hp : p ∉ a :: as) (e : H p = some (.lst xs)) : RowsAt (upd H a (.lst (as.map V.ref ++ [.ref p]))) a (as ++ [p]) (xss ++ [xs]) := by
  have hpa : p ≠ a := fun z => hp (by rw [z]; simp)
  refine ⟨?_, by simp [h.len], ?_, ?_⟩
  · rw [upd_same]; simp
  · intro i q ys h1 h2
    rw [List.getElem?_append] at h1 h2
    by_cases hi : i < as.length
    · have hi2 : i < xss.length := by have := h.len; omega
      rw [if_pos hi] at h1
      rw [if_pos hi2] at h2
      have hqa : q ≠ a := fun z => by
        have := (List.nodup_cons.mp h.nd).1
        exact this (by rw [← z]; exact List.mem_of_getElem? h1)
      rw [upd_ne hqa]
      exact h.row i q ys h1 h2
    · have hi2 : ¬ i < xss.length := by have := h.len; omega
      rw [if_neg hi] at h1
      rw [if_neg hi2] at h2
      have l := h.len
      have e1 : i - as.length = 0 := by
        have := (List.getElem?_eq_some_iff.mp h1).1
        simpa using this
      have e2 : i - xss.length = 0 := by omega
      rw [e1] at h1
      rw [e2] at h2
      simp at h1 h2
      rw [← h1, ← h2, upd_ne hpa]
      exact e
  · have hn := h.nd
    rw [show a :: (as ++ [p]) = (a :: as) ++ [p] from rfl]
    refine List.nodup_append.mpr ⟨hn, by simp, ?_⟩
    intro x hx y hy
    rw [List.mem_singleton.mp hy]
    intro z
    exact hp (z ▸ hx)
theorem RowsAt.get {H : Hp} {a : Addr} {as : List Addr} {xss : List (List V)} (h : RowsAt H a as xss) {i : Nat} (hi : i < xss.length) : ∃ p, as[i]? = some p ∧ p ∈ as ∧ H p = some (.lst (xss[i]'hi)) := by
  have h1 : i < as.length := by have := h.len; omega
  exact ⟨as[i], List.getElem?_eq_getElem h1, List.getElem_mem h1, h.row i _ _ (List.getElem?_eq_getElem h1) (List.getElem?_eq_getElem hi)⟩
theorem RowsAt.at_ {H : Hp} {a : Addr} {as : List Addr} {xss : List (List V)} (h : RowsAt H a as xss) {i : Nat} {x : V} (e : (as.map V.ref)[i]? = some x) : ∃ p, ∃ hi : i < xss.length, x = .ref p ∧ as[i]? = some p ∧ p ∈ as ∧ H p = some (.lst (xss[i]'hi)) := by
  have hi : i < xss.length := by
    have := (List.getElem?_eq_some_iff.mp e).1
    have l := h.len
    rw [List.length_map] at this
    omega
  obtain ⟨p, h1, h2, h3⟩ := h.get hi
  rw [List.getElem?_map, h1] at e
  exact ⟨p, hi, (Option.some.inj e).symm, h1, h2, h3⟩
theorem dpAll_of {K : PySem.W.Frag} {H : Hp} : ∀ {vs : List V} {ds : List PyData}, vs.length = ds.length → (∀ (i : Nat) (v : V) (d : PyData), vs[i]? = some v → ds[i]? = some d → Dp K H v d) → DpAll K H vs ds
  | [], [], _, _ => DpAll.nil
  | [], _ :: _, h, _ => by cases h
  | _ :: _, [], h, _ => by cases h
  | v :: vs, d :: ds, h, hh => DpAll.cons (hh 0 v d rfl rfl) (dpAll_of (by simpa using h) fun i v d h1 h2 => hh (i + 1) v d h1 h2)
theorem RowsAt.dp {K : PySem.W.Frag} {H : Hp} {a : Addr} {as : List Addr} {xss : List (List V)} {ds : List PyData} (h : RowsAt H a as xss) (hl : xss.length = ds.length) (hh : ∀ (i : Nat) (xs : List V) (d : PyData), xss[i]? = some xs → ds[i]? = some d → ∃ es, d = PyData.list es ∧ DpAll K H xs es) : Dp K H (.ref a) (.list ds) := by
  refine dp_l h.top (dpAll_of (by rw [List.length_map, h.len, hl]) ?_)
  intro i v d h1 h2
  obtain ⟨p, hi, rfl, h3, _, h4⟩ := h.at_ h1
  obtain ⟨es, rfl, h5⟩ := hh i _ d (List.getElem?_eq_getElem hi) h2
  exact dp_l h4 h5
theorem RowsAt.set {H : Hp} {a p : Addr} {as : List Addr} {xss : List (List V)} {ys : List V} {i : Nat} (h : RowsAt H a as xss) (hp : as[i]? = some p) : RowsAt (upd H p (.lst ys)) a as (xss.set i ys) := by
  have hn := List.nodup_cons.mp h.nd
  have hpm := List.mem_of_getElem? hp
  have hap : a ≠ p := fun e => hn.1 (e ▸ hpm)
  refine ⟨by rw [upd_ne hap]; exact h.top, by rw [List.length_set]; exact h.len, ?_, h.nd⟩
  intro j q xs h1 h2
  by_cases hij : i = j
  · subst hij
    rw [hp] at h1
    cases h1
    rw [List.getElem?_set] at h2
    have hi : i < xss.length := by
      have := (List.getElem?_eq_some_iff.mp hp).1
      have l := h.len
      omega
    rw [if_pos rfl, if_pos hi] at h2
    cases h2
    exact upd_same
  · rw [List.getElem?_set, if_neg hij] at h2
    have hqp : q ≠ p := fun e => by
      subst e
      have h3 := (List.getElem?_eq_some_iff.mp hp)
      have h4 := (List.getElem?_eq_some_iff.mp h1)
      obtain ⟨i1, e1⟩ := h3
      obtain ⟨i2, e2⟩ := h4
      have hpw := List.pairwise_iff_getElem.mp hn.2
      rcases Nat.lt_or_gt_of_ne hij with hlt | hlt
      · exact hpw i j i1 i2 hlt (e1.trans e2.symm)
      · exact hpw j i i2 i1 hlt (e2.trans e1.symm)
    rw [upd_ne hqp]
    exact h.row j q xs h1 h2
section
variable {K : PySem.W.Frag} {c : Cn} {σ : L2.St} {H : Hp} {te : TE} {Q : VK} {a b d : Addr} {xs ys : List V} {j l : Nat}
end
end VC

namespace VC
open PySem PySem.Spec PyProof.Rows L2

end VC

namespace VC
open PySem PySem.Spec PyProof.Rows L2

inductive Kd where
  | lst
  | tup
  | dT (ks : List (List Key))
  | dK (ks : List Key)
  /-- the script -/
  | scr (o : Obj)
def Kd.isL : Kd → Bool
  | .lst => true
  | _ => false
def Kd.isT : Kd → Bool
  | .tup => true
  | _ => false
theorem Kd.isL_ok {k : Kd} (h : k.isL = true) : k = .lst := by cases k <;> first | rfl | cases h
theorem Kd.isT_ok {k : Kd} (h : k.isT = true) : k = .tup := by cases k <;> first | rfl | cases h
def Kd.mut : Kd → Bool
  | .tup => false
  | _ => true
def Kd.ho : Kd → List V → HO
  | .lst, vs => .lst vs
  | .tup, vs => .tup vs
  | .dT ks, vs => .dT (ks.zip vs)
  | .dK ks, vs => .dK (ks.zip vs)
  | .scr o, vs => .frz o (.lst vs)
def Kd.fits : Kd → Nat → Bool
  | .dT ks, n => ks.length == n
  | .dK ks, n => ks.length == n
  | _, _ => true
theorem zip_inj {α β : Type} : ∀ {ks : List α} {vs ws : List β}, ks.length = vs.length → ks.length = ws.length → ks.zip vs = ks.zip ws → vs = ws
  | [], [], [], _, _, _ => rfl
  | [], _ :: _, _, h, _, _ => by cases h
  | [], _, _ :: _, _, h, _ => by cases h
  | _ :: _, [], _, h, _, _ => by cases h
  | _ :: _, _, [], _, h, _ => by cases h
  | k :: ks, v :: vs, w :: ws, h1, h2, e => by
    simp only [List.zip_cons_cons, List.cons.injEq, Prod.mk.injEq, true_and] at e
    rw [e.1, zip_inj (by simpa using h1) (by simpa using h2) e.2]
theorem Kd.ho_inj {k : Kd} {vs ws : List V} (h1 : k.fits vs.length = true) (h2 : k.fits ws.length = true) (h : k.ho vs = k.ho ws) : vs = ws := by
  cases k with
  | lst => simpa [Kd.ho] using h
  | tup => simpa [Kd.ho] using h
  | dT ks => simp only [Kd.ho, HO.dT.injEq] at h; exact zip_inj (by simpa [Kd.fits] using h1) (by simpa [Kd.fits] using h2) h
  | dK ks => simp only [Kd.ho, HO.dK.injEq] at h; exact zip_inj (by simpa [Kd.fits] using h1) (by simpa [Kd.fits] using h2) h
  | scr o => simpa [Kd.ho] using h
theorem Kd.mut_tup {k : Kd} {vs ws : List V} (h : k.mut = true) : k.ho vs ≠ .tup ws := by
  cases k <;> simp [Kd.ho, Kd.mut] at h ⊢
theorem Kd.imm_tup {k : Kd} (h : k.mut = false) : k = .tup := by
  cases k <;> simp [Kd.mut] at h ⊢

inductive PV where
  | non | bl (b : Bool) | int (i : Int) | str (x : Str)
  | nod (k : Kd) (t : Bool) (xs : List PV)

mutual
def sh : PV → PV
  | .nod k _ xs => .nod k false (shs xs)
  | p => p
def shs : List PV → List PV
  | [] => []
  | x :: xs => sh x :: shs xs
end
mutual
def cln : PV → Bool
  | .nod k t xs => (t || !k.mut) && clns xs
  | _ => true
def clns : List PV → Bool
  | [] => true
  | x :: xs => cln x && clns xs
end
def shI : PV → PV
  | .nod k t xs => .nod k t (shs xs)
  | p => p
theorem shs_eq : ∀ xs : List PV, shs xs = xs.map sh
  | [] => rfl
  | x :: xs => by rw [shs, shs_eq xs]; rfl
mutual
theorem sh_sh : ∀ p : PV, sh (sh p) = sh p
  | .nod k t xs => by rw [sh, sh, shs_shs xs]
  | .non => rfl
  | .bl _ => rfl
  | .int _ => rfl
  | .str _ => rfl
theorem shs_shs : ∀ xs : List PV, shs (shs xs) = shs xs
  | [] => rfl
  | x :: xs => by rw [shs, shs, sh_sh x, shs_shs xs]
end

inductive RA (H : Hp) : List (PV × V) → List Addr → List Addr → Prop
  | nil : RA H [] [] []
  | non {Γ O S} : RA H Γ O S → RA H ((.non, .non) :: Γ) O S
  | bl {Γ O S} (b : Bool) : RA H Γ O S → RA H ((.bl b, .bl b) :: Γ) O S
  | int {Γ O S} (i : Int) : RA H Γ O S → RA H ((.int i, .int i) :: Γ) O S
  | str {Γ O S} (x : Str) : RA H Γ O S → RA H ((.str x, .str x) :: Γ) O S
  | own {k : Kd} {xs : List PV} {vs : List V} {a : Addr} {Γ O S} : k.mut = true → H a = some (k.ho vs) → vs.length = xs.length → k.fits xs.length = true → RA H (xs.zip vs ++ Γ) O S → RA H ((.nod k true xs, .ref a) :: Γ) (a :: O) S
  | shr {k : Kd} {xs : List PV} {vs : List V} {a : Addr} {Γ O S} : k.mut = true → H a = some (k.ho vs) → vs.length = xs.length → k.fits xs.length = true → RA H (xs.zip vs ++ Γ) O S → RA H ((.nod k false xs, .ref a) :: Γ) O (a :: S)
  | imm {k : Kd} {t : Bool} {xs : List PV} {vs : List V} {a : Addr} {Γ O S} : k.mut = false → H a = some (k.ho vs) → vs.length = xs.length → k.fits xs.length = true → RA H (xs.zip vs ++ Γ) O S → RA H ((.nod k t xs, .ref a) :: Γ) O S

section
variable {H H1 : Hp} {Γ Γ' Γ1 Γ2 : List (PV × V)} {O O' S S' : List Addr}
theorem RA.app {O1 S1 O2 S2 : List Addr} (h : RA H Γ1 O1 S1) (g : RA H Γ2 O2 S2) : RA H (Γ1 ++ Γ2) (O1 ++ O2) (S1 ++ S2) := by
  induction h with
  | nil => exact g
  | non _ ih => exact .non ih
  | bl b _ ih => exact .bl b ih
  | int b _ ih => exact .int b ih
  | str b _ ih => exact .str b ih
  | own h1 h2 h3 h4 _ ih => exact .own h1 h2 h3 h4 (by rw [List.append_assoc] at ih; exact ih)
  | shr h1 h2 h3 h4 _ ih => exact .shr h1 h2 h3 h4 (by rw [List.append_assoc] at ih; exact ih)
  | imm h1 h2 h3 h4 _ ih => exact .imm h1 h2 h3 h4 (by rw [List.append_assoc] at ih; exact ih)
theorem RA.split (h : RA H Γ O S) : ∀ Γ1, Γ = Γ1 ++ Γ2 → ∃ O1 O2 S1 S2, RA H Γ1 O1 S1 ∧ RA H Γ2 O2 S2 ∧ O = O1 ++ O2 ∧ S = S1 ++ S2 := by
  induction h with
  | nil =>
    intro Γ1 e
    have e' := List.nil_eq_append_iff.mp e
    obtain ⟨rfl, rfl⟩ := e'
    exact ⟨[], [], [], [], .nil, .nil, rfl, rfl⟩
  | non h ih =>
    intro Γ1 e
    cases Γ1 with
    | nil => cases e; exact ⟨[], _, [], _, .nil, .non h, rfl, rfl⟩
    | cons g Γ1 =>
      cases e
      obtain ⟨O1, O2, S1, S2, r1, r2, e1, e2⟩ := ih Γ1 rfl
      exact ⟨O1, O2, S1, S2, .non r1, r2, e1, e2⟩
  | bl b h ih =>
    intro Γ1 e
    cases Γ1 with
    | nil => cases e; exact ⟨[], _, [], _, .nil, .bl b h, rfl, rfl⟩
    | cons g Γ1 =>
      cases e
      obtain ⟨O1, O2, S1, S2, r1, r2, e1, e2⟩ := ih Γ1 rfl
      exact ⟨O1, O2, S1, S2, .bl b r1, r2, e1, e2⟩
  | int b h ih =>
    intro Γ1 e
    cases Γ1 with
    | nil => cases e; exact ⟨[], _, [], _, .nil, .int b h, rfl, rfl⟩
    | cons g Γ1 =>
      cases e
      obtain ⟨O1, O2, S1, S2, r1, r2, e1, e2⟩ := ih Γ1 rfl
      exact ⟨O1, O2, S1, S2, .int b r1, r2, e1, e2⟩
  | str b h ih =>
    intro Γ1 e
    cases Γ1 with
    | nil => cases e; exact ⟨[], _, [], _, .nil, .str b h, rfl, rfl⟩
    | cons g Γ1 =>
      cases e
      obtain ⟨O1, O2, S1, S2, r1, r2, e1, e2⟩ := ih Γ1 rfl
      exact ⟨O1, O2, S1, S2, .str b r1, r2, e1, e2⟩
  | own h1 h2 h3 h4 h ih =>
    intro Γ1 e
    cases Γ1 with
    | nil => cases e; exact ⟨[], _, [], _, .nil, .own h1 h2 h3 h4 h, rfl, rfl⟩
    | cons g Γ1 =>
      cases e
      obtain ⟨O1, O2, S1, S2, r1, r2, e1, e2⟩ := ih (_ ++ Γ1) (List.append_assoc _ _ _).symm
      exact ⟨_ :: O1, O2, S1, S2, .own h1 h2 h3 h4 r1, r2, by rw [e1]; rfl, e2⟩
  | shr h1 h2 h3 h4 h ih =>
    intro Γ1 e
    cases Γ1 with
    | nil => cases e; exact ⟨[], _, [], _, .nil, .shr h1 h2 h3 h4 h, rfl, rfl⟩
    | cons g Γ1 =>
      cases e
      obtain ⟨O1, O2, S1, S2, r1, r2, e1, e2⟩ := ih (_ ++ Γ1) (List.append_assoc _ _ _).symm
      exact ⟨O1, O2, _ :: S1, S2, .shr h1 h2 h3 h4 r1, r2, e1, by rw [e2]; rfl⟩
  | imm h1 h2 h3 h4 h ih =>
    intro Γ1 e
    cases Γ1 with
    | nil => cases e; exact ⟨[], _, [], _, .nil, .imm h1 h2 h3 h4 h, rfl, rfl⟩
    | cons g Γ1 =>
      cases e
      obtain ⟨O1, O2, S1, S2, r1, r2, e1, e2⟩ := ih (_ ++ Γ1) (List.append_assoc _ _ _).symm
      exact ⟨O1, O2, S1, S2, .imm h1 h2 h3 h4 r1, r2, e1, e2⟩
theorem RA.mono (h : RA H Γ O S) (hk : ∀ a, (a ∈ O ∨ a ∈ S ∨ ∃ vs, H a = some (.tup vs)) → H1 a = H a) : RA H1 Γ O S := by
  induction h with
  | nil => exact .nil
  | non _ ih => exact .non (ih hk)
  | bl b _ ih => exact .bl b (ih hk)
  | int b _ ih => exact .int b (ih hk)
  | str b _ ih => exact .str b (ih hk)
  | own h1 h2 h3 h4 _ ih => exact .own h1 (by rw [hk _ (.inl List.mem_cons_self)]; exact h2) h3 h4 (ih fun a ha => hk a (by rcases ha with z | z | z; exact .inl (List.mem_cons_of_mem _ z); exact .inr (.inl z); exact .inr (.inr z)))
  | shr h1 h2 h3 h4 _ ih => exact .shr h1 (by rw [hk _ (.inr (.inl List.mem_cons_self))]; exact h2) h3 h4 (ih fun a ha => hk a (by rcases ha with z | z | z; exact .inl z; exact .inr (.inl (List.mem_cons_of_mem _ z)); exact .inr (.inr z)))
  | imm h1 h2 h3 h4 _ ih =>
    have e := Kd.imm_tup h1
    subst e
    exact .imm h1 (by rw [hk _ (.inr (.inr ⟨_, h2⟩))]; exact h2) h3 h4 (ih hk)
theorem RA.dom (h : RA H Γ O S) : ∀ a, (a ∈ O ∨ a ∈ S) → ∃ k vs, Kd.mut k = true ∧ H a = some (k.ho vs) := by
  induction h with
  | nil => intro a ha; rcases ha with z | z <;> cases z
  | non _ ih => exact ih
  | bl b _ ih => exact ih
  | int b _ ih => exact ih
  | str b _ ih => exact ih
  | own h1 h2 h3 h4 _ ih =>
    intro b hb
    rcases hb with z | z
    · rcases List.mem_cons.mp z with rfl | z
      · exact ⟨_, _, h1, h2⟩
      · exact ih b (.inl z)
    · exact ih b (.inr z)
  | shr h1 h2 h3 h4 _ ih =>
    intro b hb
    rcases hb with z | z
    · exact ih b (.inl z)
    · rcases List.mem_cons.mp z with rfl | z
      · exact ⟨_, _, h1, h2⟩
      · exact ih b (.inr z)
  | imm h1 h2 h3 h4 _ ih => exact ih
theorem RA.same (h : RA H Γ O S) (s : Same H H1) : RA H1 Γ O S := by
  refine h.mono fun a ha => ?_
  have : ∃ o, H a = some o := by
    rcases ha with z | z | ⟨vs, z⟩
    · obtain ⟨k, vs, _, e⟩ := h.dom a (.inl z); exact ⟨_, e⟩
    · obtain ⟨k, vs, _, e⟩ := h.dom a (.inr z); exact ⟨_, e⟩
    · exact ⟨_, z⟩
  obtain ⟨o, e⟩ := this
  rw [e, s a o e]
theorem RA.upd_ {b : Addr} {o : HO} (h : RA H Γ O S) (h1 : b ∉ O) (h2 : b ∉ S) (h3 : ∀ vs, H b ≠ some (.tup vs)) : RA (upd H b o) Γ O S := by
  refine h.mono fun a ha => upd_ne fun e => ?_
  subst e
  rcases ha with z | z | ⟨vs, z⟩
  · exact h1 z
  · exact h2 z
  · exact h3 vs z
theorem RA.cons {g : PV × V} (h : RA H (g :: Γ) O S) : ∃ O1 O2 S1 S2, RA H [g] O1 S1 ∧ RA H Γ O2 S2 ∧ O = O1 ++ O2 ∧ S = S1 ++ S2 := h.split [g] rfl
theorem RA.perm (p : Γ.Perm Γ') : ∀ {O S : List Addr}, RA H Γ O S → ∃ O' S', RA H Γ' O' S' ∧ O.Perm O' ∧ S.Perm S' := by
  induction p with
  | nil => intro O S h; exact ⟨O, S, h, .refl _, .refl _⟩
  | cons g _ ih =>
    intro O S h
    obtain ⟨O1, O2, S1, S2, r1, r2, rfl, rfl⟩ := h.cons
    obtain ⟨O', S', r, pO, pS⟩ := ih r2
    exact ⟨O1 ++ O', S1 ++ S', r1.app r, pO.append_left _, pS.append_left _⟩
  | swap a b l =>
    intro O S h
    obtain ⟨O1, O2, S1, S2, r1, r2, rfl, rfl⟩ := h.cons
    obtain ⟨O3, O4, S3, S4, r3, r4, rfl, rfl⟩ := r2.cons
    refine ⟨O3 ++ (O1 ++ O4), S3 ++ (S1 ++ S4), r3.app (r1.app r4), ?_, ?_⟩
    · rw [← List.append_assoc, ← List.append_assoc]; exact List.perm_append_comm.append_right _
    · rw [← List.append_assoc, ← List.append_assoc]; exact List.perm_append_comm.append_right _
  | trans _ _ ih1 ih2 =>
    intro O S h
    obtain ⟨O1, S1, r1, p1, q1⟩ := ih1 h
    obtain ⟨O2, S2, r2, p2, q2⟩ := ih2 r1
    exact ⟨O2, S2, r2, p1.trans p2, q1.trans q2⟩
def shG (Γ : List (PV × V)) : List (PV × V) := Γ.map fun g => (sh g.1, g.2)
theorem shG_zip : ∀ (xs : List PV) (vs : List V), shG (xs.zip vs) = (shs xs).zip vs
  | [], _ => by rw [shs]; rfl
  | _ :: _, [] => by rw [shs]; rfl
  | x :: xs, v :: vs => by
    rw [shs, List.zip_cons_cons, List.zip_cons_cons, ← shG_zip xs vs]
    rfl
theorem shs_length (xs : List PV) : (shs xs).length = xs.length := by rw [shs_eq, List.length_map]
theorem RA.shr_ (h : RA H Γ O S) : ∃ S', RA H (shG Γ) [] S' ∧ ∀ a, a ∈ S' ↔ (a ∈ O ∨ a ∈ S) := by
  induction h with
  | nil => exact ⟨[], .nil, by simp⟩
  | non _ ih => obtain ⟨S', r, m⟩ := ih; exact ⟨S', .non r, m⟩
  | bl b _ ih => obtain ⟨S', r, m⟩ := ih; exact ⟨S', .bl b r, m⟩
  | int b _ ih => obtain ⟨S', r, m⟩ := ih; exact ⟨S', .int b r, m⟩
  | str b _ ih => obtain ⟨S', r, m⟩ := ih; exact ⟨S', .str b r, m⟩
  | @own _ _ _ b _ _ _ h1 h2 h3 h4 _ ih =>
    obtain ⟨S', r, m⟩ := ih
    rw [shG, List.map_append, ← shG, ← shG, shG_zip] at r
    refine ⟨b :: S', ?_, ?_⟩
    · rw [shG, List.map_cons, sh]
      exact .shr h1 h2 (by rw [shs_length]; exact h3) (by rw [shs_length]; exact h4) r
    · intro a; simp only [List.mem_cons, m]; constructor
      · rintro (z | z | z); exact .inl (.inl z); exact .inl (.inr z); exact .inr z
      · rintro ((z | z) | z); exact .inl z; exact .inr (.inl z); exact .inr (.inr z)
  | @shr _ _ _ b _ _ _ h1 h2 h3 h4 _ ih =>
    obtain ⟨S', r, m⟩ := ih
    rw [shG, List.map_append, ← shG, ← shG, shG_zip] at r
    refine ⟨b :: S', ?_, ?_⟩
    · rw [shG, List.map_cons, sh]
      exact .shr h1 h2 (by rw [shs_length]; exact h3) (by rw [shs_length]; exact h4) r
    · intro a; simp only [List.mem_cons, m]; constructor
      · rintro (z | z | z); exact .inr (.inl z); exact .inl z; exact .inr (.inr z)
      · rintro (z | z | z); exact .inr (.inl z); exact .inl z; exact .inr (.inr z)
  | imm h1 h2 h3 h4 _ ih =>
    obtain ⟨S', r, m⟩ := ih
    rw [shG, List.map_append, ← shG, ← shG, shG_zip] at r
    refine ⟨S', ?_, m⟩
    rw [shG, List.map_cons, sh]
    exact .imm h1 h2 (by rw [shs_length]; exact h3) (by rw [shs_length]; exact h4) r
end
theorem cln_zip : ∀ {xs : List PV} {vs : List V}, clns xs = true → ∀ g ∈ xs.zip vs, cln g.1 = true
  | [], _, _, g, hg => by simp at hg
  | _ :: _, [], _, g, hg => by simp at hg
  | x :: xs, v :: vs, h, g, hg => by
    rw [clns, Bool.and_eq_true] at h
    rw [List.zip_cons_cons] at hg
    rcases List.mem_cons.mp hg with rfl | hg
    · exact h.1
    · exact cln_zip h.2 g hg
theorem RA.clean {H : Hp} {Γ : List (PV × V)} {O S : List Addr} (h : RA H Γ O S) (hc : ∀ g ∈ Γ, cln g.1 = true) : S = [] := by
  induction h with
  | nil => rfl
  | non _ ih => exact ih fun g hg => hc g (List.mem_cons_of_mem _ hg)
  | bl b _ ih => exact ih fun g hg => hc g (List.mem_cons_of_mem _ hg)
  | int b _ ih => exact ih fun g hg => hc g (List.mem_cons_of_mem _ hg)
  | str b _ ih => exact ih fun g hg => hc g (List.mem_cons_of_mem _ hg)
  | own h1 h2 h3 h4 _ ih =>
    refine ih fun g hg => ?_
    have z := hc _ List.mem_cons_self
    rw [cln, Bool.and_eq_true] at z
    rcases List.mem_append.mp hg with y | y
    · exact cln_zip z.2 g y
    · exact hc g (List.mem_cons_of_mem _ y)
  | shr h1 h2 h3 h4 _ ih =>
    have z := hc _ List.mem_cons_self
    rw [cln, h1] at z
    cases z
  | imm h1 h2 h3 h4 _ ih =>
    refine ih fun g hg => ?_
    have z := hc _ List.mem_cons_self
    rw [cln, Bool.and_eq_true] at z
    rcases List.mem_append.mp hg with y | y
    · exact cln_zip z.2 g y
    · exact hc g (List.mem_cons_of_mem _ y)
theorem RA.det {H : Hp} {Γ : List (PV × V)} {O S : List Addr} (h : RA H Γ O S) : ∀ {O' S' : List Addr}, RA H Γ O' S' → O = O' ∧ S = S' := by
  induction h with
  | nil => intro O' S' g; cases g; exact ⟨rfl, rfl⟩
  | non _ ih => intro O' S' g; cases g with | non g => exact ih g
  | bl b _ ih => intro O' S' g; cases g with | bl _ g => exact ih g
  | int b _ ih => intro O' S' g; cases g with | int _ g => exact ih g
  | str b _ ih => intro O' S' g; cases g with | str _ g => exact ih g
  | own h1 h2 h3 h4 _ ih =>
    intro O' S' g
    cases g with
    | own g1 g2 g3 g4 g =>
      have e := Kd.ho_inj (by rw [h3]; exact h4) (by rw [g3]; exact g4) (Option.some.inj (h2.symm.trans g2))
      subst e
      obtain ⟨rfl, rfl⟩ := ih g
      exact ⟨rfl, rfl⟩
    | imm g1 _ _ _ _ => rw [h1] at g1; cases g1
  | shr h1 h2 h3 h4 _ ih =>
    intro O' S' g
    cases g with
    | shr g1 g2 g3 g4 g =>
      have e := Kd.ho_inj (by rw [h3]; exact h4) (by rw [g3]; exact g4) (Option.some.inj (h2.symm.trans g2))
      subst e
      obtain ⟨rfl, rfl⟩ := ih g
      exact ⟨rfl, rfl⟩
    | imm g1 _ _ _ _ => rw [h1] at g1; cases g1
  | imm h1 h2 h3 h4 _ ih =>
    intro O' S' g
    cases g with
    | own g1 _ _ _ _ => rw [h1] at g1; cases g1
    | shr g1 _ _ _ _ => rw [h1] at g1; cases g1
    | imm g1 g2 g3 g4 g =>
      have e := Kd.ho_inj (by rw [h3]; exact h4) (by rw [g3]; exact g4) (Option.some.inj (h2.symm.trans g2))
      subst e
      exact ih g
end VC

namespace VC
open PySem PySem.Spec PyProof.Rows L2

structure Iv (X : Hp) (M : Addr → Prop) (Γ : List (PV × V)) (H : Hp) : Prop where
  same : Same X H
  ex : ∃ O S, RA H Γ O S ∧ O.Nodup ∧ (∀ a ∈ O, a ∉ S ∧ X a = none) ∧ ∀ a ∈ S, M a ∨ X a = none

section
variable {X : Hp} {M : Addr → Prop} {Γ Γ' Γ1 Γ2 : List (PV × V)} {H H1 : Hp} {k : Kd} {xs ys : List PV} {vs ws : List V} {p q : PV} {v w : V} {a b : Addr}

theorem Iv.perm (h : Iv X M Γ H) (p : Γ.Perm Γ') : Iv X M Γ' H := by
  obtain ⟨O, S, r, n, c1, c2⟩ := h.ex
  obtain ⟨O', S', r', pO, pS⟩ := r.perm p
  exact ⟨h.same, O', S', r', pO.nodup_iff.mp n, fun a ha => ⟨fun z => (c1 a (pO.mem_iff.mpr ha)).1 (pS.mem_iff.mpr z), (c1 a (pO.mem_iff.mpr ha)).2⟩, fun a ha => c2 a (pS.mem_iff.mpr ha)⟩
theorem Iv.right (h : Iv X M (Γ1 ++ Γ2) H) : Iv X M Γ2 H := by
  obtain ⟨O, S, r, n, c1, c2⟩ := h.ex
  obtain ⟨O1, O2, S1, S2, r1, r2, rfl, rfl⟩ := r.split _ rfl
  exact ⟨h.same, O2, S2, r2, (List.nodup_append.mp n).2.1, fun a ha => ⟨fun z => (c1 a (List.mem_append_right _ ha)).1 (List.mem_append_right _ z), (c1 a (List.mem_append_right _ ha)).2⟩, fun a ha => c2 a (List.mem_append_right _ ha)⟩
theorem Iv.left (h : Iv X M (Γ1 ++ Γ2) H) : Iv X M Γ1 H := (h.perm List.perm_append_comm).right
theorem Iv.tail (h : Iv X M ((p, v) :: Γ) H) : Iv X M Γ H := Iv.right (Γ1 := [(p, v)]) h
theorem Iv.swap (h : Iv X M (Γ1 ++ Γ2) H) : Iv X M (Γ2 ++ Γ1) H := h.perm List.perm_append_comm
theorem Iv.keep (h : Iv X M Γ H) (s : Same H H1) : Iv X M Γ H1 := by
  obtain ⟨O, S, r, n, c1, c2⟩ := h.ex
  exact ⟨h.same.trans s, O, S, r.same s, n, c1, c2⟩
theorem Iv.alloc (h : Iv X M (xs.zip vs ++ Γ) H) (hp : H a = none) (s : Same H H1) (e : H1 a = some (k.ho vs)) (hk : k.mut = true) (hl : vs.length = xs.length) (hf : k.fits xs.length = true) : Iv X M ((.nod k true xs, .ref a) :: Γ) H1 := by
  obtain ⟨O, S, r, n, c1, c2⟩ := h.ex
  have fr : ∀ b, (b ∈ O ∨ b ∈ S) → b ≠ a := fun b hb z => by
    obtain ⟨_, _, _, e⟩ := r.dom b hb
    rw [z, hp] at e; cases e
  refine ⟨h.same.trans s, a :: O, S, .own hk e hl hf (r.same s), List.nodup_cons.mpr ⟨fun z => fr a (.inl z) rfl, n⟩, ?_, c2⟩
  intro b hb
  rcases List.mem_cons.mp hb with rfl | hb
  · refine ⟨fun z => fr b (.inr z) rfl, ?_⟩
    exact h.same.free hp
  · exact c1 b hb
theorem Iv.allocT (h : Iv X M (xs.zip vs ++ Γ) H) (s : Same H H1) (e : H1 a = some (.tup vs)) (hl : vs.length = xs.length) : Iv X M ((.nod .tup false xs, .ref a) :: Γ) H1 := by
  obtain ⟨O, S, r, n, c1, c2⟩ := h.ex
  exact ⟨h.same.trans s, O, S, .imm rfl e hl rfl (r.same s), n, c1, c2⟩
theorem Iv.shr_ (h : Iv X M (Γ1 ++ Γ) H) : Iv X M (shG Γ1 ++ Γ) H := by
  obtain ⟨O, S, r, n, c1, c2⟩ := h.ex
  obtain ⟨O1, O2, S1, S2, r1, r2, rfl, rfl⟩ := r.split _ rfl
  obtain ⟨S', r', m⟩ := r1.shr_
  have n' := List.nodup_append.mp n
  refine ⟨h.same, [] ++ O2, S' ++ S2, r'.app r2, n'.2.1, ?_, ?_⟩
  · intro b hb
    have hb' := c1 b (List.mem_append_right _ hb)
    refine ⟨fun z => ?_, hb'.2⟩
    rcases List.mem_append.mp z with z | z
    · rcases (m b).mp z with z | z
      · exact n'.2.2 b z b hb rfl
      · exact hb'.1 (List.mem_append_left _ z)
    · exact hb'.1 (List.mem_append_right _ z)
  · intro b hb
    rcases List.mem_append.mp hb with z | z
    · rcases (m b).mp z with z | z
      · exact .inr (c1 b (List.mem_append_left _ z)).2
      · exact c2 b (List.mem_append_left _ z)
    · exact c2 b (List.mem_append_right _ z)
theorem Iv.sh1 (h : Iv X M ((p, v) :: Γ) H) : Iv X M ((sh p, v) :: Γ) H := Iv.shr_ (Γ1 := [(p, v)]) h
theorem Iv.dup (h : Iv X M Γ H) (hm : (p, v) ∈ Γ) (hs : sh p = p) : Iv X M ((p, v) :: Γ) H := by
  obtain ⟨O, S, r, n, c1, c2⟩ := h.ex
  obtain ⟨Γa, Γb, rfl⟩ := List.append_of_mem hm
  obtain ⟨O1, O2, S1, S2, r1, r2, rfl, rfl⟩ := r.split _ rfl
  obtain ⟨O3, O4, S3, S4, r3, r4, rfl, rfl⟩ := r2.cons
  obtain ⟨S', r', m⟩ := r3.shr_
  have e : shG [(p, v)] = [(p, v)] := by simp [shG, hs]
  rw [e] at r'
  obtain ⟨rfl, rfl⟩ := r3.det r'
  refine ⟨h.same, _, _, r3.app r, n, ?_, ?_⟩
  · intro b hb
    have := c1 b hb
    refine ⟨fun z => ?_, this.2⟩
    rcases List.mem_append.mp z with z | z
    · exact this.1 (List.mem_append_right _ (List.mem_append_left _ z))
    · exact this.1 z
  · intro b hb
    rcases List.mem_append.mp hb with z | z
    · exact c2 b (List.mem_append_right _ (List.mem_append_left _ z))
    · exact c2 b z
theorem RA.open_ {t : Bool} {O S : List Addr} (r : RA H ((.nod k t xs, v) :: Γ) O S) : ∃ a vs O1 S1, v = .ref a ∧ H a = some (k.ho vs) ∧ vs.length = xs.length ∧ k.fits xs.length = true ∧ RA H (xs.zip vs ++ Γ) O1 S1 ∧ (∀ b ∈ O1, b ∈ O) ∧ (∀ b ∈ S1, b ∈ S) ∧ (O.Nodup → O1.Nodup) := by
  cases r with
  | own h1 h2 h3 h4 r => exact ⟨_, _, _, _, rfl, h2, h3, h4, r, fun b hb => List.mem_cons_of_mem _ hb, fun b hb => hb, fun n => (List.nodup_cons.mp n).2⟩
  | shr h1 h2 h3 h4 r => exact ⟨_, _, _, _, rfl, h2, h3, h4, r, fun b hb => hb, fun b hb => List.mem_cons_of_mem _ hb, fun n => n⟩
  | imm h1 h2 h3 h4 r => exact ⟨_, _, _, _, rfl, h2, h3, h4, r, fun b hb => hb, fun b hb => hb, fun n => n⟩
theorem Iv.open_ {t : Bool} (h : Iv X M ((.nod k t xs, v) :: Γ) H) : ∃ a vs, v = .ref a ∧ H a = some (k.ho vs) ∧ vs.length = xs.length ∧ Iv X M (xs.zip vs ++ Γ) H := by
  obtain ⟨O, S, r, n, c1, c2⟩ := h.ex
  obtain ⟨a, vs, O1, S1, e, h2, h3, h4, r1, i1, i2, n1⟩ := r.open_
  exact ⟨a, vs, e, h2, h3, h.same, O1, S1, r1, n1 n, fun b hb => ⟨fun z => (c1 b (i1 b hb)).1 (i2 b z), (c1 b (i1 b hb)).2⟩, fun b hb => c2 b (i2 b hb)⟩
theorem Iv.write {Γ0 : List (PV × V)} {k' : Kd} (h : Iv X M ((.nod k true xs, .ref a) :: Γ) H) (hk : k.mut = true) (e : H a = some (k.ho vs)) (hvs : vs.length = xs.length) (hp : (ys.zip ws ++ Γ' ++ Γ0).Perm (xs.zip vs ++ Γ))
    (hl : ws.length = ys.length) (hf : k'.fits ys.length = true) (hk' : k'.mut = true) : Iv X M ((.nod k' true ys, .ref a) :: Γ') (upd H a (k'.ho ws)) := by
  obtain ⟨O, S, r, n, c1, c2⟩ := h.ex
  cases r with
  | imm h1 _ _ _ _ => rw [hk] at h1; cases h1
  | own h1 h2 h3 h4 r =>
    rename_i vs' O
    have n' := List.nodup_cons.mp n
    have e1 := Kd.ho_inj (by rw [hvs]; exact h4) (by rw [h3]; exact h4) (Option.some.inj (e.symm.trans h2))
    subst e1
    obtain ⟨O', S', r', pO, pS⟩ := r.perm hp.symm
    obtain ⟨O1, O2, S1, S2, r1, r2, rfl, rfl⟩ := r'.split _ rfl
    have iO : ∀ b ∈ O1, b ∈ O := fun b hb => pO.mem_iff.mpr (List.mem_append_left _ hb)
    have iS : ∀ b ∈ S1, b ∈ S := fun b hb => pS.mem_iff.mpr (List.mem_append_left _ hb)
    have aO : a ∉ O1 := fun z => n'.1 (iO a z)
    have aS : a ∉ S1 := fun z => (c1 a List.mem_cons_self).1 (iS a z)
    refine ⟨fun b o hb => ?_, a :: O1, S1, .own hk' upd_same hl hf (r1.upd_ aO aS fun ws z => Kd.mut_tup hk (Option.some.inj (e.symm.trans z))), List.nodup_cons.mpr ⟨aO, (List.nodup_append.mp (pO.nodup_iff.mp n'.2)).1⟩, ?_, fun b hb => c2 b (iS b hb)⟩
    · have : b ≠ a := fun z => by
        have := (c1 a List.mem_cons_self).2
        rw [z, this] at hb; cases hb
      rw [upd_ne this]
      exact h.same b o hb
    · intro b hb
      rcases List.mem_cons.mp hb with rfl | hb
      · exact ⟨aS, (c1 b List.mem_cons_self).2⟩
      · have := c1 b (List.mem_cons_of_mem _ (iO b hb))
        exact ⟨fun z => this.1 (iS b z), this.2⟩
theorem Iv.focus (h : Iv X M ((.nod k true xs, v) :: Γ) H) (hk : k.mut = true) : ∃ a vs, v = .ref a ∧ H a = some (k.ho vs) ∧ vs.length = xs.length ∧ k.fits xs.length = true ∧ X a = none ∧ Iv (upd X a (k.ho vs)) (fun b => M b ∧ b ≠ a) (xs.zip vs ++ Γ) H := by
  obtain ⟨O, S, r, n, c1, c2⟩ := h.ex
  cases r with
  | imm h1 _ _ _ _ => rw [hk] at h1; cases h1
  | @own _ _ vs a _ O _ h1 h2 h3 h4 r =>
    have n' := List.nodup_cons.mp n
    have xa := (c1 a List.mem_cons_self).2
    refine ⟨a, vs, rfl, h2, h3, h4, xa, ?_, O, S, r, n'.2, ?_, ?_⟩
    · intro b o hb
      by_cases hba : b = a
      · subst hba; rw [upd_same] at hb; rw [h2]; exact hb
      · rw [upd_ne hba] at hb; exact h.same b o hb
    · intro b hb
      have hba : b ≠ a := fun z => n'.1 (z ▸ hb)
      exact ⟨(c1 b (List.mem_cons_of_mem _ hb)).1, by rw [upd_ne hba]; exact (c1 b (List.mem_cons_of_mem _ hb)).2⟩
    · intro b hb
      have hba : b ≠ a := fun z => (c1 a List.mem_cons_self).1 (z ▸ hb)
      rcases c2 b hb with z | z
      · exact .inl ⟨z, hba⟩
      · exact .inr (by rw [upd_ne hba]; exact z)
theorem Iv.unfocus (h : Iv (upd X a (k.ho vs)) (fun b => M b ∧ b ≠ a) (ys.zip vs ++ Γ) H) (xa : X a = none) (hk : k.mut = true) (hl : vs.length = ys.length) (hf : k.fits ys.length = true) : Iv X M ((.nod k true ys, .ref a) :: Γ) H := by
  obtain ⟨O, S, r, n, c1, c2⟩ := h.ex
  have aO : a ∉ O := fun z => by have := (c1 a z).2; rw [upd_same] at this; cases this
  have aS : a ∉ S := fun z => by
    rcases c2 a z with y | y
    · exact y.2 rfl
    · rw [upd_same] at y; cases y
  refine ⟨fun b o hb => h.same b o (by rw [upd_ne fun z => by rw [z, xa] at hb; cases hb]; exact hb), a :: O, S, .own hk (h.same a _ upd_same) hl hf r, List.nodup_cons.mpr ⟨aO, n⟩, ?_, ?_⟩
  · intro b hb
    rcases List.mem_cons.mp hb with rfl | hb
    · exact ⟨aS, xa⟩
    · have hba : b ≠ a := fun z => aO (z ▸ hb)
      have := c1 b hb
      rw [upd_ne hba] at this
      exact this
  · intro b hb
    have hba : b ≠ a := fun z => aS (z ▸ hb)
    rcases c2 b hb with y | y
    · exact .inl y.1
    · rw [upd_ne hba] at y; exact .inr y
theorem Iv.focusT {t : Bool} (h : Iv X M ((.nod .tup t xs, v) :: Γ) H) : ∃ a vs, v = .ref a ∧ H a = some (.tup vs) ∧ vs.length = xs.length ∧ Iv (upd X a (.tup vs)) M (xs.zip vs ++ Γ) H := by
  obtain ⟨O, S, r, n, c1, c2⟩ := h.ex
  cases r with
  | own h1 _ _ _ _ => cases h1
  | shr h1 _ _ _ _ => cases h1
  | @imm _ _ _ vs a _ _ _ h1 h2 h3 h4 r =>
    have na : ∀ b, (b ∈ O ∨ b ∈ S) → b ≠ a := fun b hb z => by
      obtain ⟨k, ws, hk, e⟩ := r.dom b hb
      rw [z, h2] at e
      exact Kd.mut_tup hk (Option.some.inj e).symm
    refine ⟨a, vs, rfl, h2, h3, ?_, O, S, r, n, ?_, ?_⟩
    · intro b o hb
      by_cases hba : b = a
      · subst hba; rw [upd_same] at hb; rw [h2]; exact hb
      · rw [upd_ne hba] at hb; exact h.same b o hb
    · intro b hb
      exact ⟨(c1 b hb).1, by rw [upd_ne (na b (.inl hb))]; exact (c1 b hb).2⟩
    · intro b hb
      rcases c2 b hb with z | z
      · exact .inl z
      · exact .inr (by rw [upd_ne (na b (.inr hb))]; exact z)
theorem Iv.unfocusT {t : Bool} (h : Iv (upd X a (.tup vs)) M (ys.zip vs ++ Γ) H) (xs0 : ∀ o, X a = some o → o = .tup vs) (hl : vs.length = ys.length) : Iv X M ((.nod .tup t ys, .ref a) :: Γ) H := by
  obtain ⟨O, S, r, n, c1, c2⟩ := h.ex
  have ha : H a = some (.tup vs) := h.same a _ upd_same
  have na : ∀ b, (b ∈ O ∨ b ∈ S) → b ≠ a := fun b hb z => by
    obtain ⟨k, ws, hk, e⟩ := r.dom b hb
    rw [z, ha] at e
    exact Kd.mut_tup hk (Option.some.inj e).symm
  refine ⟨fun b o hb => ?_, O, S, .imm rfl ha hl rfl r, n, ?_, ?_⟩
  · by_cases hba : b = a
    · subst hba; rw [ha, xs0 o hb]
    · exact h.same b o (by rw [upd_ne hba]; exact hb)
  · intro b hb
    have := c1 b hb
    rw [upd_ne (na b (.inl hb))] at this
    exact this
  · intro b hb
    have := c2 b hb
    rw [upd_ne (na b (.inr hb))] at this
    exact this
theorem Iv.start {S : List Addr} (r : RA H Γ [] S) : Iv H (fun b => b ∈ S) Γ H := ⟨Same.refl H, [], S, r, List.nodup_nil, (fun b hb => by cases hb), fun b hb => .inl hb⟩
theorem Iv.back {Δ : List (PV × V)} {A : List (PV × V)} {Sa : List Addr} (h : Iv X M (A ++ Γ) H) (ra : RA H A [] Sa) (d : Iv H (fun b => b ∈ Sa) Δ H1) : Iv X M (Δ ++ Γ) H1 := by
  obtain ⟨O, S, r, n, c1, c2⟩ := h.ex
  obtain ⟨O1, O2, S1, S2, r1, r2, rfl, rfl⟩ := r.split _ rfl
  obtain ⟨rfl, rfl⟩ := ra.det r1
  obtain ⟨Od, Sd, rd, nd, d1, d2⟩ := d.ex
  have dom2 : ∀ b, (b ∈ O2 ∨ b ∈ S2) → H b ≠ none := fun b hb z => by
    obtain ⟨_, _, _, e⟩ := r2.dom b hb
    rw [z] at e; cases e
  have fr : ∀ b, H b = none → X b = none := fun b hb => h.same.free hb
  refine ⟨h.same.trans d.same, Od ++ O2, Sd ++ S2, rd.app (r2.same d.same), ?_, ?_, ?_⟩
  · refine List.nodup_append.mpr ⟨nd, n, fun x hx y hy e => ?_⟩
    exact dom2 y (.inl hy) (e ▸ (d1 x hx).2)
  · intro b hb
    rcases List.mem_append.mp hb with hb | hb
    · refine ⟨fun z => ?_, fr b (d1 b hb).2⟩
      rcases List.mem_append.mp z with z | z
      · exact (d1 b hb).1 z
      · exact dom2 b (.inr z) (d1 b hb).2
    · have := c1 b hb
      refine ⟨fun z => ?_, this.2⟩
      rcases List.mem_append.mp z with z | z
      · rcases d2 b z with y | y
        · exact this.1 (List.mem_append_left _ y)
        · exact dom2 b (.inl hb) y
      · exact this.1 (List.mem_append_right _ z)
  · intro b hb
    rcases List.mem_append.mp hb with hb | hb
    · rcases d2 b hb with y | y
      · exact c2 b (List.mem_append_left _ y)
      · exact .inr (fr b y)
    · exact c2 b (List.mem_append_right _ hb)
theorem Iv.clean_back {M' : Addr → Prop} (h : Iv X M Γ H) (d : Iv H M' ((p, v) :: Γ1) H1) (hc : cln p = true) : Iv X M ((p, v) :: Γ) H1 := by
  obtain ⟨O, S, r, n, c1, c2⟩ := h.ex
  obtain ⟨Od, Sd, rd, nd, d1, d2⟩ := d.ex
  obtain ⟨O1, O2, S1, S2, r1, r2, rfl, rfl⟩ := rd.cons
  have e := r1.clean (fun g hg => by rw [List.mem_singleton.mp hg]; exact hc)
  subst e
  have dom2 : ∀ b, (b ∈ O ∨ b ∈ S) → H b ≠ none := fun b hb z => by
    obtain ⟨_, _, _, e⟩ := r.dom b hb
    rw [z] at e; cases e
  refine ⟨h.same.trans d.same, O1 ++ O, [] ++ S, r1.app (r.same d.same), ?_, ?_, c2⟩
  · refine List.nodup_append.mpr ⟨(List.nodup_append.mp nd).1, n, fun x hx y hy e => ?_⟩
    exact dom2 y (.inl hy) (e ▸ (d1 x (List.mem_append_left _ hx)).2)
  · intro b hb
    rcases List.mem_append.mp hb with hb | hb
    · have z := (d1 b (List.mem_append_left _ hb)).2
      exact ⟨fun y => dom2 b (.inr y) z, h.same.free z⟩
    · exact c1 b hb
end
end VC

namespace VC
open PySem PySem.Spec PyProof.Rows L2

structure PX where
  cls : Str
  fs : List (Str × PV)
inductive Rx (α : Type) where
  | ok (a : α)
  | ex (x : PX)
abbrev PSt := List (Option PV)
abbrev LL (t : Bool) (xs : List PV) : PV := .nod .lst t xs
abbrev TT_ (xs : List PV) : PV := .nod .tup false xs
@[inline] def bnd {α β : Type} (m : Option (Rx α)) (f : α → Option (Rx β)) : Option (Rx β) := match m with
  | some (.ok a) => f a
  | some (.ex x) => some (.ex x)
  | none => none
@[inline] def bnX {α β : Type} (m : Option (Rx α × PSt)) (f : α → PSt → Option (Rx β × PSt)) : Option (Rx β × PSt) := match m with
  | some (.ok a, σ) => f a σ
  | some (.ex x, σ) => some (.ex x, σ)
  | none => none
structure PCn where
  G : Str → List PV → Option (Rx PV × List (Option PV))
  ps : Str → List Str
  cs : Str → Option V
  io : Str → List Bool
  fu : Nat

def vP : V → Option PV
  | .non => some .non
  | .bl b => some (.bl b)
  | .int i => some (.int i)
  | .str x => some (.str x)
  | _ => none
def flP : PV → Option V
  | .non => some .non
  | .bl b => some (.bl b)
  | .int i => some (.int i)
  | .str x => some (.str x)
  | .nod _ _ _ => none
def flPs : List PV → Option (List V)
  | [] => some []
  | x :: xs => match flP x, flPs xs with
    | some v, some vs => some (v :: vs)
    | _, _ => none
mutual
def toD : PV → Option PyData
  | .non => some .none
  | .bl b => some (.bool b)
  | .int i => some (.int i)
  | .str x => some (.str x)
  | .nod k _ xs => match k, toDs xs with
    | .lst, some ds => some (.list ds)
    | .tup, some ds => some (.tuple ds)
    | _, _ => none
def toDs : List PV → Option (List PyData)
  | [] => some []
  | x :: xs => match toD x, toDs xs with
    | some d, some ds => some (d :: ds)
    | _, _ => none
end
def intsP : List PV → Option (List Int)
  | [] => some []
  | .int i :: xs => (intsP xs).map (i :: ·)
  | _ => none
def boolsP : List PV → Option (List Bool)
  | [] => some []
  | .bl i :: xs => (boolsP xs).map (i :: ·)
  | _ => none
def okI (i : Int) : Bool := decide (i.natAbs < 1267650600228229401496703205376)
def fitB (n : Nat) : Bool := decide (n ≤ 100000)
def fitW (n : Nat) : Bool := decide (n ≤ 16000000)

def opB (op : Operator) (x y : PV) : Option PV := match op, x, y with
  | .Add, .int i, .int j => some (.int (i + j))
  | .Add, .str s, .str t => if fitB (s.length + t.length) then some (.str (s ++ t)) else none
  | .Add, .nod .lst _ xs, .nod .lst _ ys => if fitB (xs.length + ys.length) then some (LL true (xs ++ ys)) else none
  | .Sub, .int i, .int j => some (.int (i - j))
  | .Mult, .int i, .int j => if okI i && okI j then some (.int (i * j)) else none
  | .Mult, .nod .lst _ xs, .int k => if decide (0 ≤ k ∧ k ≤ 1000) && decide (xs.length ≤ 100) then some (LL true (List.replicate k.toNat (shs xs)).flatten) else none
  | .FloorDiv, .int i, .int j => if decide (0 < j) && okI j then some (.int (i / j)) else none
  | .Mod, .int i, .int j => if decide (0 < j) then some (.int (i % j)) else none
  | .Pow, .int i, .int j => if decide (0 ≤ j ∧ (Builtin.Int.intBits i : Int) * j ≤ 2 ^ 27) then some (.int (i ^ j.toNat)) else none
  | _, _, _ => none
def eqP (x y : PV) : Option Bool := match x, y with
  | .int i, .int j => some (decide (i = j))
  | .bl i, .bl j => some (decide (i = j))
  | .str i, .str j => some (decide (i = j))
  | _, _ => match toD x, toD y with
    | some d, some e => if SeqAt.shaped d && SeqAt.shaped e then some (PyData.eqv d e) else none
    | _, _ => none
def inD (x y : PV) : Option Bool := match toD x, toD y with
  | some d, some (.list ds) => if SeqAt.shaped d && SeqAt.shaped (.list ds) then some (ds.any fun z => PyData.eqv z d) else none
  | _, _ => none
def inP (x y : PV) : Option Bool := match y with
  | .nod k t xs => match k with
    | .lst => match flP x, flPs xs with
      | some v, some vs => some (inV v vs)
      | _, _ => inD x (.nod .lst t xs)
    | .tup => match flP x, flPs xs with
      | some v, some vs => some (inV v vs)
      | _, _ => none
    | _ => none
  | _ => none
def opC (op : CmpOp) (x y : PV) : Option Bool := match op with
  | .Lt => match x, y with
    | .int i, .int j => some (decide (i < j))
    | _, _ => none
  | .LtE => match x, y with
    | .int i, .int j => some (decide (i ≤ j))
    | _, _ => none
  | .Gt => match x, y with
    | .int i, .int j => some (decide (j < i))
    | _, _ => none
  | .GtE => match x, y with
    | .int i, .int j => some (decide (j ≤ i))
    | _, _ => none
  | .Eq => eqP x y
  | .NotEq => (eqP x y).map (!·)
  | .In => inP x y
  | .NotIn => (inP x y).map (!·)
  | .Is => match y with
    | .non => match x with
      | .non => some true
      | _ => some false
    | _ => none
  | .IsNot => match y with
    | .non => match x with
      | .non => some false
      | _ => some true
    | _ => none
def idxP (x y : PV) : Option PV := match x, y with
  | .nod .lst _ xs, .int i => atI xs i
  | .nod .tup _ xs, .int i => atI xs i
  | .str z, .int i => if fitB z.length then (atI z.cps.toList i).map fun c => .str ⟨#[c]⟩ else none
  | _, _ => none
def cutP {α : Type} (xs : List α) (lo hi : Option Int) : List α := (xs.drop (HT.sIx xs.length 0 lo)).take (HT.sIx xs.length xs.length hi - HT.sIx xs.length 0 lo)
def slP (x : PV) (lo hi : Option Int) : Option PV := match x with
  | .nod .lst _ xs => some (LL true (cutP xs lo hi))
  | .nod (.scr _) _ xs => some (LL true (cutP xs lo hi))
  | _ => none
def stpP (x y : PV) (k : Int) : Option PV := match x, y with
  | .nod .lst _ xs, .int i => if decide (0 < k) then some (LL true (pickA xs (some i) none (some k))) else none
  | _, _ => none
def tyP : PV → Option String
  | .non => some "NoneType"
  | .bl _ => some "bool"
  | .int _ => some "int"
  | .str _ => some "str"
  | .nod .lst _ _ => some "list"
  | .nod .tup _ _ => some "tuple"
  | .nod (.dT _) _ _ => some "dict"
  | .nod (.dK _) _ _ => some "dict"
  | .nod (.scr _) _ _ => none
def maxI : Int → List Int → Int
  | m, [] => m
  | m, x :: xs => maxI (if m < x then x else m) xs
def minI : Int → List Int → Int
  | m, [] => m
  | m, x :: xs => minI (if x < m then x else m) xs
def insI (x : Int) : List Int → List Int
  | [] => [x]
  | y :: ys => if x ≤ y then x :: y :: ys else y :: insI x ys
def sortI : List Int → List Int
  | [] => []
  | x :: xs => insI x (sortI xs)
def prP : PV → Option (Int × Int)
  | .nod .tup false [.int a, .int b] => some (a, b)
  | _ => none
def prsP : List PV → Option (List (Int × Int))
  | [] => some []
  | x :: xs => match prP x, prsP xs with
    | some k, some ks => some (k :: ks)
    | _, _ => none
def leP (a b : Int × Int) : Prop := a.1 < b.1 ∨ (a.1 = b.1 ∧ a.2 ≤ b.2)
instance (a b : Int × Int) : Decidable (leP a b) := by unfold leP; exact inferInstance
def insQ (x : Int × Int) : List (Int × Int) → List (Int × Int)
  | [] => [x]
  | y :: ys => if leP x y then x :: y :: ys else y :: insQ x ys
def sortQ : List (Int × Int) → List (Int × Int)
  | [] => []
  | x :: xs => insQ x (sortQ xs)
def catP : List PV → Option (List PV)
  | [] => some []
  | .nod .lst _ xs :: ys => (catP ys).map (xs ++ ·)
  | _ => none
def isT1 : PyData → Bool
  | .tuple (_ :: _) => true
  | _ => false
def noTN : PyData → Bool
  | .tuple _ => false
  | .none => false
  | _ => true
def okS (ds : List PyData) : Bool := (ds.all fun d => ds.all fun e => PySem.W.alike d e) && (ds.all isT1 || ds.all noTN) && ds.all fun d => decide (d.depth ≤ 60)
def srtP (ys : List PV) : Option PV := match toDs ys with
  | some ds => if okS ds then some (LL true (sortD ys ds)) else none
  | none => none
def bltP (f : Str) (xs : List PV) : Option PV :=
  if f = "len" then match xs with
    | [.nod .lst _ ys] => some (.int ys.length)
    | [.nod .tup _ ys] => some (.int ys.length)
    | [.str z] => if fitB z.length then some (.int z.length) else none
    | _ => none
  else if f = "int" then match xs with
    | [.int i] => some (.int i)
    | [.bl b] => some (.int (if b then 1 else 0))
    | _ => none
  else if f = "repr" then match xs with
    | [.nod k t ys] => match toD (.nod k t ys) with
      | some d => if d.showable && !d.hasDict && decide (d.depth ≤ 60) && fitW d.shown.length then some (.str d.shown) else none
      | none => none
    | _ => none
  else if f = "list" then match xs with
    | [.nod .lst _ ys] => some (LL true ys)
    | [.nod .tup _ ys] => some (LL true ys)
    | _ => none
  else if f = "sum" then match xs with
    | [.nod .lst _ ys] => (intsP ys).map fun ns => .int ns.sum
    | [.nod .lst _ ys, .nod .lst true zs] => match catP ys with
      | some xs => if fitB (zs.length + xs.length) then some (LL true (zs ++ xs)) else none
      | none => none
    | _ => none
  else if f = "max" then match xs with
    | [.int i, .int j] => some (.int (if j > i then j else i))
    | [.nod .lst _ ys] => match intsP ys with
      | some (n :: ns) => some (.int (maxI n ns))
      | _ => none
    | _ => none
  else if f = "min" then match xs with
    | [.int i, .int j] => some (.int (if j < i then j else i))
    | [.nod .lst _ ys] => match intsP ys with
      | some (n :: ns) => some (.int (minI n ns))
      | _ => none
    | _ => none
  else if f = "all" then match xs with
    | [.nod .lst _ ys] => (boolsP ys).map fun bs => .bl (bs.all id)
    | _ => none
  else if f = "sorted" then match xs with
    | [.nod .lst _ ys] => match intsP ys with
      | some ns => if decide (ns.length < 64) then some (LL true ((sortI ns).map .int)) else none
      | none => match prsP ys with
        | some ks => some (LL true ((sortQ ks).map fun t => TT_ [.int t.1, .int t.2]))
        | none => srtP ys
    | _ => none
  else none
def ixP (x : V) : List V → Option Nat
  | [] => none
  | y :: ys => if eqV y x then some 0 else (ixP x ys).map (· + 1)
def mthP (m : Str) (x : PV) (xs : List PV) : Option PV :=
  if m = "index" then match x, xs with
    | .nod .lst _ ys, [y] => match flP y, flPs ys with
      | some v, some vs => (ixP v vs).map fun (n : Nat) => .int (n : Int)
      | _, _ => none
    | _, _ => none
  else none

inductive Itm where
  | one (p : PV)
  | two (p q : PV)
def setP (σ : PSt) : List Nat → List PV → PSt
  | j :: js, v :: vs => setP (σ.set j (some v)) js vs
  | _, _ => σ
def bndT (tg : Tg) (i : Itm) (σ : PSt) : Option PSt := match tg, i with
  | .name j, .one p => some (σ.set j (some p))
  | .tup js, .one (.nod .tup _ ys) => if ys.length == js.length then some (setP σ js ys) else none
  | .tup [j, k], .two p q => some ((σ.set j (some p)).set k (some q))
  | _, _ => none
def rngP (xs : List PV) : Option (List PV) := match xs with
  | [.int j] => if decide (-(2 ^ 62) ≤ j ∧ j < 2 ^ 62) then some ((List.range j.toNat).map fun (i : Nat) => .int (0 + (i : Nat) * 1)) else none
  | [.int i, .int j] => if decide (-(2 ^ 62) ≤ i ∧ i < 2 ^ 62 ∧ -(2 ^ 62) ≤ j ∧ j < 2 ^ 62) then some ((List.range (j - i).toNat).map fun (n : Nat) => .int (i + (n : Nat) * 1)) else none
  | [.int i, .int j, .int c] => if decide (c = -1 ∧ -(2 ^ 62) ≤ i ∧ i < 2 ^ 62 ∧ -(2 ^ 62) ≤ j ∧ j < 2 ^ 62) then some ((List.range (i - j).toNat).map fun (n : Nat) => .int (i + (n : Nat) * (-1))) else none
  | _ => none
def enmP : Nat → List PV → List Itm
  | _, [] => []
  | n, x :: xs => .two (.int (n : Nat)) x :: enmP (n + 1) xs
def zipP : List PV → List PV → List Itm
  | x :: xs, y :: ys => .two x y :: zipP xs ys
  | _, _ => []
def wipeP (σ : PSt) : List Nat → PSt
  | [] => σ
  | v :: vs => (wipeP σ vs).set v none
def compP (f : Itm → Option (Option PV)) : List Itm → Option (List PV)
  | [] => some []
  | i :: is => match f i with
    | none => none
    | some none => compP f is
    | some (some p) => match compP f is with
      | some ps => some (p :: ps)
      | none => none

mutual
def evP (c : PCn) : Ex → PSt → Option (Rx PV)
  | .var i => fun σ => match σ[i]? with
    | some (some p) => some (.ok (sh p))
    | _ => none
  | .mv _ => fun _ => none
  | .us _ e => evP c e
  | .con k => fun _ => match conV k with
    | some v => (vP v).map .ok
    | none => none
  | .glb x => fun _ => match c.cs x with
    | some v => (vP v).map .ok
    | none => none
  | .bin op a b => fun σ => bnd (evP c a σ) fun x => bnd (evP c b σ) fun y => (opB op x y).map .ok
  | .neg a => fun σ => bnd (evP c a σ) fun x => match x with
    | .int i => some (.ok (.int (-i)))
    | _ => none
  | .cmp op a b => fun σ => bnd (evP c a σ) fun x => bnd (evP c b σ) fun y => (opC op x y).map fun k => .ok (.bl k)
  | .chn o p a b d => fun σ => bnd (evP c a σ) fun x => bnd (evP c b σ) fun y => match opC o x y with
    | some true => bnd (evP c d σ) fun w => (opC p y w).map fun k => .ok (.bl k)
    | some false => some (.ok (.bl false))
    | none => none
  | .and a b => fun σ => bnd (evP c a σ) fun x => match x with
    | .bl true => evP c b σ
    | .bl false => some (.ok (.bl false))
    | _ => none
  | .or a b => fun σ => bnd (evP c a σ) fun x => match x with
    | .bl false => evP c b σ
    | .bl true => some (.ok (.bl true))
    | _ => none
  | .not a => fun σ => bnd (evP c a σ) fun x => match x with
    | .bl b => some (.ok (.bl (!b)))
    | _ => none
  | .ite t a b => fun σ => bnd (evT c t σ) fun k => match k with
    | true => evP c a σ
    | false => evP c b σ
  | .tup es => fun σ => bnd (evPs c es σ) fun xs => if fitB xs.length then some (.ok (TT_ xs)) else none
  | .lst es => fun σ => bnd (evPs c es σ) fun xs => if fitB xs.length then some (.ok (LL true xs)) else none
  | .idx a i => fun σ => bnd (evP c a σ) fun x => bnd (evP c i σ) fun y => (idxP x y).map .ok
  | .sl2 a lo hi => fun σ => bnd (evP c a σ) fun x => bnd (evP c lo σ) fun y => match y with
    | .int i => bnd (evP c hi σ) fun z => match z with
      | .int j => (slP x (some i) (some j)).map .ok
      | _ => none
    | _ => none
  | .sl1 a lo => fun σ => bnd (evP c a σ) fun x => bnd (evP c lo σ) fun y => match y with
    | .int i => (slP x (some i) none).map .ok
    | _ => none
  | .sl0 a hi => fun σ => bnd (evP c a σ) fun x => bnd (evP c hi σ) fun y => match y with
    | .int j => (slP x none (some j)).map .ok
    | _ => none
  | .stp a lo k => fun σ => bnd (evP c a σ) fun x => bnd (evP c lo σ) fun y => (stpP x y k).map .ok
  | .rev a => fun σ => bnd (evP c a σ) fun x => match x with
    | .nod .lst _ xs => some (.ok (LL true xs.reverse))
    | _ => none
  | .call f es ks kes => fun σ => bnd (evPs c es σ) fun vs => bnd (evPs c kes σ) fun zs =>
    if (c.io f).any id || !(zs.length == ks.length) then none else match c.G f (shs (arrange (c.ps f) ks .non vs zs)) with
      | some (r, _) => some r
      | none => none
  | .blt f es => fun σ => bnd (evPs c es σ) fun vs => (bltP f vs).map .ok
  | .isi a t => fun σ => bnd (evP c a σ) fun x => match tyP x with
    | some n => (kitB n t.toString).map fun b => .ok (.bl b)
    | none => none
  | .lrg es => fun σ => bnd (evPs c es σ) fun vs => match vs with
    | [.int j] => if decide (0 ≤ j ∧ j ≤ 100000) then some (.ok (LL true ((List.range j.toNat).map fun (i : Nat) => .int (0 + (i : Nat))))) else none
    | [.int i, .int j] => if decide (0 ≤ i ∧ i ≤ 100000 ∧ 0 ≤ j ∧ j ≤ 100000) then some (.ok (LL true ((List.range (j - i).toNat).map fun (n : Nat) => .int (i + (n : Nat))))) else none
    | _ => none
  | .lzp a b => fun σ => bnd (evP c a σ) fun x => bnd (evP c b σ) fun y => match x, y with
    | .nod .lst _ xs, .nod .lst _ ys => some (.ok (LL true ((xs.zip ys).map fun g => TT_ [g.1, g.2])))
    | _, _ => none
  | .mth m o es => fun σ => bnd (evP c o σ) fun x => match x with
    | .nod .lst t xs => bnd (evPs c es σ) fun vs => (mthP m (.nod .lst t xs) vs).map .ok
    | _ => none
  | .comp e tg it cs own => fun σ => bnd (evI c it σ) fun is => if fitB is.length then
      match compP (fun i => match bndT tg i (wipeP σ (own.map (·.2))) with
        | none => none
        | some σ1 => match evC c cs σ1 with
          | some (.ok true) => match evP c e σ1 with
            | some (.ok p) => some (some p)
            | _ => none
          | some (.ok false) => some none
          | _ => none) is with
      | some ps => some (.ok (LL true ps))
      | none => none else none
def evPs (c : PCn) : Exs → PSt → Option (Rx (List PV))
  | .nil => fun _ => some (.ok [])
  | .cons e es => fun σ => bnd (evP c e σ) fun x => bnd (evPs c es σ) fun xs => some (.ok (x :: xs))
def evT (c : PCn) : Ts → PSt → Option (Rx Bool)
  | .us _ t => evT c t
  | .val e => fun σ => bnd (evP c e σ) fun x => match x with
    | .bl b => some (.ok b)
    | _ => none
  | .cmp op a b => fun σ => bnd (evP c a σ) fun x => bnd (evP c b σ) fun y => (opC op x y).map .ok
  | .chn o p a b d => fun σ => bnd (evP c a σ) fun x => bnd (evP c b σ) fun y => match opC o x y with
    | some true => bnd (evP c d σ) fun w => (opC p y w).map .ok
    | some false => some (.ok false)
    | none => none
  | .not a => fun σ => bnd (evT c a σ) fun b => some (.ok (!b))
  | .and a b => fun σ => bnd (evT c a σ) fun k => match k with
    | true => evT c b σ
    | false => some (.ok false)
  | .or a b => fun σ => bnd (evT c a σ) fun k => match k with
    | true => some (.ok true)
    | false => evT c b σ
def evC (c : PCn) : Cd → PSt → Option (Rx Bool)
  | .no => fun _ => some (.ok true)
  | .one t => evT c t
def evI (c : PCn) : Ir → PSt → Option (Rx (List Itm))
  | .us _ it => evI c it
  | .seq e => fun σ => bnd (evP c e σ) fun x => match x with
    | .nod .lst _ xs => some (.ok ((shs xs).map .one))
    | .nod .tup _ xs => some (.ok ((shs xs).map .one))
    | _ => none
  | .rng es => fun σ => bnd (evPs c es σ) fun vs => match rngP vs with
    | some xs => some (.ok (xs.map .one))
    | none => none
  | .enm e => fun σ => bnd (evP c e σ) fun x => match x with
    | .nod .lst _ xs => some (.ok (enmP 0 (shs xs)))
    | _ => none
  | .zip a b => fun σ => bnd (evP c a σ) fun x => bnd (evP c b σ) fun y => match x, y with
    | .nod .lst _ xs, .nod .lst _ ys => some (.ok (zipP (shs xs) (shs ys)))
    | _, _ => none
end
end VC

namespace VC
open PySem PySem.Spec PyProof.Rows L2

section
variable {X : Hp} {M : Addr → Prop} {Γ Γ' Γ1 Γ2 : List (PV × V)} {H H1 : Hp} {k : Kd} {xs ys : List PV} {vs ws : List V} {p q : PV} {v w : V} {a b : Addr} {K : PySem.W.Frag}

theorem Iv.int_ {i : Int} (h : Iv X M ((.int i, v) :: Γ) H) : v = .int i := by
  obtain ⟨O, S, r, _⟩ := h.ex
  cases r; rfl
theorem Iv.bl_ {i : Bool} (h : Iv X M ((.bl i, v) :: Γ) H) : v = .bl i := by
  obtain ⟨O, S, r, _⟩ := h.ex
  cases r; rfl
theorem Iv.str_ {i : Str} (h : Iv X M ((.str i, v) :: Γ) H) : v = .str i := by
  obtain ⟨O, S, r, _⟩ := h.ex
  cases r; rfl
theorem Iv.non_ (h : Iv X M ((.non, v) :: Γ) H) : v = .non := by
  obtain ⟨O, S, r, _⟩ := h.ex
  cases r; rfl
theorem Iv.addI (h : Iv X M Γ H) (i : Int) : Iv X M ((.int i, .int i) :: Γ) H := by
  obtain ⟨O, S, r, n, c1, c2⟩ := h.ex
  exact ⟨h.same, O, S, .int i r, n, c1, c2⟩
theorem Iv.addB (h : Iv X M Γ H) (i : Bool) : Iv X M ((.bl i, .bl i) :: Γ) H := by
  obtain ⟨O, S, r, n, c1, c2⟩ := h.ex
  exact ⟨h.same, O, S, .bl i r, n, c1, c2⟩
theorem Iv.addS (h : Iv X M Γ H) (i : Str) : Iv X M ((.str i, .str i) :: Γ) H := by
  obtain ⟨O, S, r, n, c1, c2⟩ := h.ex
  exact ⟨h.same, O, S, .str i r, n, c1, c2⟩
theorem Iv.addN (h : Iv X M Γ H) : Iv X M ((.non, .non) :: Γ) H := by
  obtain ⟨O, S, r, n, c1, c2⟩ := h.ex
  exact ⟨h.same, O, S, .non r, n, c1, c2⟩
theorem Iv.addF (h : Iv X M Γ H) (e : flP p = some v) : Iv X M ((p, v) :: Γ) H := by
  cases p <;> simp [flP] at e <;> subst e
  · exact h.addN
  · exact h.addB _
  · exact h.addI _
  · exact h.addS _
theorem Iv.addV (h : Iv X M Γ H) (e : vP v = some p) : Iv X M ((p, v) :: Γ) H := by
  cases v <;> simp [vP] at e <;> subst e
  · exact h.addN
  · exact h.addB _
  · exact h.addI _
  · exact h.addS _
theorem Iv.fl (h : Iv X M ((p, v) :: Γ) H) (e : flP p = some w) : v = w := by
  cases p <;> simp [flP] at e <;> subst e
  · exact h.non_
  · exact h.bl_
  · exact h.int_
  · exact h.str_
theorem Iv.tail2 (h : Iv X M ((p, v) :: (q, w) :: Γ) H) : Iv X M Γ H := h.tail.tail
theorem Iv.sw (h : Iv X M ((p, v) :: (q, w) :: Γ) H) : Iv X M ((q, w) :: (p, v) :: Γ) H := h.perm (List.Perm.swap _ _ _)
theorem Iv.mid (h : Iv X M (Γ1 ++ (p, v) :: Γ) H) : Iv X M (Γ1 ++ Γ) H :=
  (h.perm (List.perm_middle (l₁ := Γ1) (l₂ := Γ) (a := (p, v)))).tail
theorem Iv.midA (h : Iv X M (Γ1 ++ (Γ2 ++ Γ)) H) : Iv X M (Γ1 ++ Γ) H := by
  have : (Γ1 ++ (Γ2 ++ Γ)).Perm (Γ2 ++ (Γ1 ++ Γ)) := by
    rw [← List.append_assoc, ← List.append_assoc]
    exact List.perm_append_comm.append_right _
  exact (h.perm this).right
theorem Iv.fls : ∀ {xs : List PV} {vs us : List V}, Iv X M (xs.zip vs ++ Γ) H → vs.length = xs.length → flPs xs = some us → vs = us
  | [], [], _, _, _, e => by simp [flPs] at e; exact e.symm
  | [], _ :: _, _, _, h, _ => by cases h
  | _ :: _, [], _, _, h, _ => by cases h
  | x :: xs, v :: vs, us, h, hl, e => by
    simp only [flPs] at e
    split at e
    · rename_i u us' h1 h2
      cases e
      rw [Iv.fl h h1, Iv.fls (vs := vs) h.tail (by simpa using hl) h2]
    · cases e
mutual
theorem dp_of : ∀ {p : PV} {v : V} {d : PyData} {Γ : List (PV × V)}, Iv X M ((p, v) :: Γ) H → toD p = some d → Dp K H v d
  | .non, v, d, Γ, h, e => by cases h.non_; simp [toD] at e; subst e; exact .non
  | .bl _, v, d, Γ, h, e => by cases h.bl_; simp [toD] at e; subst e; exact .bl _
  | .int _, v, d, Γ, h, e => by cases h.int_; simp [toD] at e; subst e; exact .int _
  | .str _, v, d, Γ, h, e => by cases h.str_; simp [toD] at e; subst e; exact .str _
  | .nod k t xs, v, d, Γ, h, e => by
    obtain ⟨a, vs, rfl, h2, h3, h4⟩ := h.open_
    simp only [toD] at e
    split at e
    · rename_i ds hk
      cases e
      exact .lst (.inl (.inl h2)) (dps_of h4 h3 hk)
    · rename_i ds hk
      cases e
      exact .tup (.inl (.inl h2)) (dps_of h4 h3 hk)
    · cases e
theorem dps_of : ∀ {xs : List PV} {vs : List V} {ds : List PyData} {Γ : List (PV × V)}, Iv X M (xs.zip vs ++ Γ) H → vs.length = xs.length → toDs xs = some ds → DpAll K H vs ds
  | [], [], ds, Γ, h, _, e => by simp [toDs] at e; subst e; exact .nil
  | [], _ :: _, _, _, _, h, _ => by cases h
  | _ :: _, [], _, _, _, h, _ => by cases h
  | x :: xs, v :: vs, ds, Γ, h, hl, e => by
    simp only [toDs] at e
    split at e
    · rename_i d ds' h1 h2
      cases e
      exact .cons (dp_of h h1) (dps_of (vs := vs) h.tail (by simpa using hl) h2)
    · cases e
end
theorem fitB_ok {n : Nat} (h : fitB n = true) : n ≤ sizeLine := fit (of_decide_eq_true h)
theorem okI_ok {i : Int} (h : okI i = true) : -1267650600228229401496703205376 < i ∧ i < 1267650600228229401496703205376 := by
  have := of_decide_eq_true h
  omega
theorem zip_app {α β : Type} : ∀ {xs ys : List α} {vs ws : List β}, vs.length = xs.length → (xs ++ ys).zip (vs ++ ws) = xs.zip vs ++ ys.zip ws
  | [], _, [], _, _ => rfl
  | [], _, _ :: _, _, h => by cases h
  | _ :: _, _, [], _, h => by cases h
  | x :: xs, ys, v :: vs, ws, h => by
    simp only [List.cons_append, List.zip_cons_cons]
    rw [zip_app (by simpa using h)]
theorem Iv.dupA (h : Iv X M Γ H) : ∀ {Δ : List (PV × V)}, (∀ g ∈ Δ, g ∈ Γ ∧ sh g.1 = g.1) → Iv X M (Δ ++ Γ) H
  | [], _ => h
  | (p, v) :: Δ, hd => by
    have h1 := hd _ List.mem_cons_self
    exact Iv.dup (Iv.dupA h fun g hg => hd g (List.mem_cons_of_mem _ hg)) (List.mem_append_right _ h1.1) h1.2
theorem shG_sh {g : PV × V} {Δ : List (PV × V)} (h : g ∈ shG Δ) : sh g.1 = g.1 := by
  obtain ⟨x, _, rfl⟩ := List.mem_map.mp h
  exact sh_sh _
theorem Iv.open2 {t u : Bool} {k' : Kd} (h : Iv X M ((.nod k' u ys, w) :: (.nod k t xs, v) :: Γ) H) : ∃ a vs b ws, v = .ref a ∧ H a = some (k.ho vs) ∧ vs.length = xs.length ∧ w = .ref b ∧ H b = some (k'.ho ws) ∧ ws.length = ys.length ∧ Iv X M (xs.zip vs ++ (ys.zip ws ++ Γ)) H := by
  obtain ⟨b, ws, e1, h1, h2, h3⟩ := h.open_
  have h4 : Iv X M ((.nod k t xs, v) :: (ys.zip ws ++ Γ)) H := h3.perm List.perm_middle
  obtain ⟨a, vs, e2, h5, h6, h7⟩ := h4.open_
  exact ⟨a, vs, b, ws, e2, h5, h6, e1, h1, h2, h7⟩
theorem rep_zip : ∀ (n : Nat) (xs : List PV) (vs : List V), vs.length = xs.length → (List.replicate n xs).flatten.zip (List.replicate n vs).flatten = (List.replicate n (xs.zip vs)).flatten
  | 0, _, _, _ => rfl
  | n + 1, xs, vs, h => by
    simp only [List.replicate_succ, List.flatten_cons]
    rw [zip_app h, rep_zip n xs vs h]

theorem opB_ok {op : Operator} {x y z : PV} {vx vy : V} {Q : VK} (h : opB op x y = some z) (iv : Iv X M ((y, vy) :: (x, vx) :: Γ) H) (hq : ∀ v H1, Iv X M ((z, v) :: Γ) H1 → Q v H1) : opBin op vx vy H Q := by
  unfold opB at h
  split at h
  · cases h; cases iv.int_; cases iv.tail.int_
    exact hq _ _ (iv.tail2.addI _)
  · split at h
    · rename_i hf
      cases h; cases iv.str_; cases iv.tail.str_
      exact ⟨fitB_ok hf, hq _ _ (iv.tail2.addS _)⟩
    · cases h
  · split at h
    · rename_i hf
      cases h
      obtain ⟨a, vs, b, ws, rfl, ha, hl, rfl, hb, hm, iv'⟩ := iv.open2
      refine ⟨vs, ws, ha, hb, by rw [hl, hm]; exact fitB_ok hf, fun p H1 hp s e => hq _ _ ?_⟩
      refine Iv.alloc (k := .lst) (vs := vs ++ ws) (H := H) ?_ hp s e rfl (by simp [hl, hm]) rfl
      rw [zip_app hl, List.append_assoc]
      exact iv'
    · cases h
  · cases h; cases iv.int_; cases iv.tail.int_
    exact hq _ _ (iv.tail2.addI _)
  · split at h
    · rename_i hf
      cases h; cases iv.int_; cases iv.tail.int_
      rw [Bool.and_eq_true] at hf
      exact ⟨cmul_of (okI_ok hf.1) (okI_ok hf.2), hq _ _ (iv.tail2.addI _)⟩
    · cases h
  · split at h
    · rename_i hf
      cases h; cases iv.int_
      rw [Bool.and_eq_true] at hf
      obtain ⟨a, vs, rfl, ha, hl, iv'⟩ := iv.tail.open_
      have h1 := of_decide_eq_true hf.1
      have h2 := of_decide_eq_true hf.2
      refine o_rep ha h1 (by rw [hl]; exact h2) fun p H1 hp s e => hq _ _ ?_
      refine Iv.alloc (k := .lst) (vs := (List.replicate _ vs).flatten) (H := H) ?_ hp s e rfl ?_ rfl
      · rw [rep_zip _ _ _ (by rw [shs_length]; exact hl)]
        have iv2 := Iv.shr_ iv'
        rw [shG_zip] at iv2
        refine Iv.midA (Γ2 := (shs _).zip vs) (Iv.dupA iv2 fun g hg => ?_)
        obtain ⟨l, hl1, hl2⟩ := List.mem_flatten.mp hg
        have := List.eq_of_mem_replicate hl1
        subst this
        exact ⟨List.mem_append_left _ hl2, by rw [← shG_zip] at hl2; exact shG_sh hl2⟩
      · simp only [List.length_flatten, List.map_replicate, List.sum_replicate_nat, shs_length, hl]
    · cases h
  · split at h
    · rename_i hf
      cases h; cases iv.int_; cases iv.tail.int_
      rw [Bool.and_eq_true] at hf
      exact ⟨cdiv_of ⟨of_decide_eq_true hf.1, (okI_ok hf.2).2⟩, hq _ _ (iv.tail2.addI _)⟩
    · cases h
  · split at h
    · rename_i hf
      cases h; cases iv.int_; cases iv.tail.int_
      exact ⟨of_decide_eq_true hf, hq _ _ (iv.tail2.addI _)⟩
    · cases h
  · split at h
    · rename_i hf
      cases h; cases iv.int_; cases iv.tail.int_
      exact ⟨of_decide_eq_true hf, hq _ _ (iv.tail2.addI _)⟩
    · cases h
  · cases h
theorem eqP_ok {x y : PV} {vx vy : V} {b neg : Bool} {Q : VK} (h : eqP x y = some b) (iv : Iv X M ((y, vy) :: (x, vx) :: Γ) H) (hq : Q (.bl (neg ^^ b)) H) : eqW K neg vx vy H Q := by
  unfold eqP at h
  split at h
  · cases h; cases iv.int_; cases iv.tail.int_; exact hq
  · cases h; cases iv.bl_; cases iv.tail.bl_; exact hq
  · cases h; cases iv.str_; cases iv.tail.str_; exact hq
  · rename_i n1 n2 n3
    split at h
    · rename_i d e h1 h2
      split at h
      · rename_i hs
        cases h
        rw [Bool.and_eq_true] at hs
        have d1 := dp_of (K := K) iv.tail h1
        have d2 := dp_of (K := K) iv h2
        unfold eqW
        split
        · rename_i i j
          cases d1; cases d2
          have : PyData.eqv (.int i) (.int j) = decide (i = j) := by rw [PyData.eqv]; rfl
          rw [this] at hq; exact hq
        · rename_i i j
          cases d1; cases d2
          have : PyData.eqv (.bool i) (.bool j) = decide (i = j) := by rw [PyData.eqv]; cases i <;> cases j <;> rfl
          rw [this] at hq; exact hq
        · rename_i i j
          cases d1; cases d2
          have : PyData.eqv (.str i) (.str j) = decide (i = j) := by rw [PyData.eqv]; rfl
          rw [this] at hq; exact hq
        · exact ⟨d, e, d1, d2, hs.1, hs.2, hq⟩
      · cases h
    · cases h
theorem inP_ok {x y : PV} {vx vy : V} {b neg : Bool} {Q : VK} (h : inP x y = some b) (iv : Iv X M ((y, vy) :: (x, vx) :: Γ) H) (hq : Q (.bl (if neg then !b else b)) H) :
    opCmp K (if neg then .NotIn else .In) vx vy H Q := by
  have main : ∀ {k : Kd} {t : Bool} {xs : List PV} {us : List V} {v : V}, y = .nod k t xs → (k = .lst ∨ k = .tup) → flP x = some v → flPs xs = some us → b = inV v us → opCmp K (if neg then .NotIn else .In) vx vy H Q := by
    intro k t xs us v e hk h1 h2 hb
    subst e
    obtain ⟨a, vs, rfl, ha, hl, iv'⟩ := iv.open_
    have e1 := Iv.fls iv' hl h2
    subst e1
    have e2 := iv.tail.fl h1
    subst e2
    have fx : flatV vx = true := by cases x <;> simp [flP] at h1 <;> subst h1 <;> rfl
    have fs : ∀ {xs : List PV} {us : List V}, flPs xs = some us → us.all flatV = true := by
      intro xs
      induction xs with
      | nil => intro us e; simp [flPs] at e; subst e; rfl
      | cons x xs ih =>
        intro us e
        simp only [flPs] at e
        split at e
        · rename_i u us' q1 q2
          cases e
          rw [List.all_cons, ih q2]
          have : flatV u = true := by cases x <;> simp [flP] at q1 <;> subst q1 <;> rfl
          rw [this]; rfl
        · cases e
    subst hb
    cases neg
    · refine .inl ?_
      rcases hk with rfl | rfl
      · rw [onS_l ha]; exact ⟨fx, fs h2, hq⟩
      · rw [onS_t ha]; exact ⟨fx, fs h2, hq⟩
    · refine .inl ?_
      rcases hk with rfl | rfl
      · rw [onS_l ha]; exact ⟨fx, fs h2, hq⟩
      · rw [onS_t ha]; exact ⟨fx, fs h2, hq⟩
  unfold inP at h
  split at h
  · rename_i k t xs
    split at h
    · split at h
      · rename_i h1 h2; cases h; exact main rfl (.inl rfl) h1 h2 rfl
      · unfold inD at h
        split at h
        · rename_i d ds h1 h2
          split at h
          · rename_i hs
            cases h
            rw [Bool.and_eq_true] at hs
            have d1 := dp_of (K := K) iv.tail h1
            have d2 := dp_of (K := K) iv h2
            obtain ⟨a, vs, rfl, ha, hl, iv'⟩ := iv.open_
            cases neg
            · exact .inr ⟨d, ds, d1, d2, hs.1, hs.2, hq⟩
            · exact .inr ⟨d, ds, d1, d2, hs.1, hs.2, hq⟩
          · cases h
        · cases h
    · split at h
      · rename_i h1 h2; cases h; exact main rfl (.inr rfl) h1 h2 rfl
      · cases h
    · cases h
  · cases h
theorem opC_ok {op : CmpOp} {x y : PV} {vx vy : V} {b : Bool} {Q : VK} (h : opC op x y = some b) (iv : Iv X M ((y, vy) :: (x, vx) :: Γ) H) (hq : Q (.bl b) H) : opCmp K op vx vy H Q := by
  unfold opC at h
  split at h
  · split at h
    · cases h; cases iv.int_; cases iv.tail.int_; exact hq
    · cases h
  · split at h
    · cases h; cases iv.int_; cases iv.tail.int_; exact hq
    · cases h
  · split at h
    · cases h; cases iv.int_; cases iv.tail.int_; exact hq
    · cases h
  · split at h
    · cases h; cases iv.int_; cases iv.tail.int_; exact hq
    · cases h
  · exact eqP_ok h iv (by simpa using hq)
  · cases he : eqP x y with
    | none => rw [he] at h; cases h
    | some d =>
      rw [he] at h
      cases h
      exact eqP_ok he iv (by simpa using hq)
  · exact inP_ok (neg := false) h iv hq
  · cases he : inP x y with
    | none => rw [he] at h; cases h
    | some d =>
      rw [he] at h
      cases h
      exact inP_ok (neg := true) he iv hq
  · split at h
    · cases iv.non_
      split at h
      · cases h; cases iv.tail.non_; exact ⟨rfl, hq⟩
      · rename_i hn
        cases h
        refine ⟨rfl, ?_⟩
        have : vx ≠ .non := fun e => by
          subst e
          obtain ⟨O, S, r, _⟩ := iv.tail.ex
          cases r
          exact hn rfl
        rw [decide_eq_false this]; exact hq
    · cases h
  · split at h
    · cases iv.non_
      split at h
      · cases h; cases iv.tail.non_; exact ⟨rfl, hq⟩
      · rename_i hn
        cases h
        refine ⟨rfl, ?_⟩
        have : vx ≠ .non := fun e => by
          subst e
          obtain ⟨O, S, r, _⟩ := iv.tail.ex
          cases r
          exact hn rfl
        rw [decide_eq_false this]; exact hq
    · cases h
end
end VC

namespace VC
open PySem PySem.Spec PyProof.Rows L2

section
variable {X : Hp} {M : Addr → Prop} {Γ Γ' Γ1 Γ2 : List (PV × V)} {H H1 : Hp} {k : Kd} {xs ys : List PV} {vs ws : List V} {p q : PV} {v w : V} {a b : Addr} {K : PySem.W.Frag}

theorem zip_get {α β : Type} {xs : List α} {vs : List β} {j : Nat} {x : α} {v : β} (h1 : xs[j]? = some x) (h2 : vs[j]? = some v) : (x, v) ∈ xs.zip vs := by
  have : (xs.zip vs)[j]? = some (x, v) := by simp [List.getElem?_zip_eq_some, h1, h2]
  exact List.mem_of_getElem? this
theorem Iv.pick (h : Iv X M (Γ1 ++ Γ) H) (hm : (p, v) ∈ Γ1) : Iv X M ((p, v) :: Γ) H := by
  obtain ⟨Γa, Γb, rfl⟩ := List.append_of_mem hm
  rw [List.append_assoc] at h
  have h2 := h.right
  exact Iv.midA (Γ1 := [(p, v)]) h2
theorem atI_len {α β : Type} {xs : List α} {vs : List β} {i : Int} {x : α} (hl : vs.length = xs.length) (h : atI xs i = some x) : ∃ v, atI vs i = some v ∧ (x, v) ∈ xs.zip vs := by
  unfold atI at h ⊢
  rw [hl]
  cases e : ixN xs.length i with
  | none => rw [e] at h; cases h
  | some j =>
    rw [e] at h
    have h' : xs[j]? = some x := h
    have hj : j < vs.length := by rw [hl]; exact (List.getElem?_eq_some_iff.mp h').1
    exact ⟨vs[j], List.getElem?_eq_getElem hj, zip_get h' (List.getElem?_eq_getElem hj)⟩
theorem idxP_ok {x y z : PV} {vx vy : V} {Q : VK} (h : idxP x y = some z) (iv : Iv X M ((y, vy) :: (x, vx) :: Γ) H) (hq : ∀ v, Iv X M ((z, v) :: Γ) H → Q v H) : idxW K vx vy H Q := by
  unfold idxP at h
  split at h
  · cases iv.int_
    obtain ⟨a, vs, rfl, ha, hl, iv'⟩ := iv.tail.open_
    obtain ⟨v, e, m⟩ := atI_len hl h
    exact i_l ha e (hq v (iv'.pick m))
  · cases iv.int_
    obtain ⟨a, vs, rfl, ha, hl, iv'⟩ := iv.tail.open_
    obtain ⟨v, e, m⟩ := atI_len hl h
    exact i_t ha e (hq v (iv'.pick m))
  · split at h
    · rename_i z0 i hf
      cases iv.int_; cases iv.tail.str_
      cases e : atI z0.cps.toList i with
      | none => rw [e] at h; cases h
      | some c =>
        rw [e] at h
        cases h
        exact ⟨fitB_ok hf, c, e, hq _ (iv.tail2.addS _)⟩
    · cases h
  · cases h
theorem Iv.shI_ {t : Bool} (h : Iv X M ((.nod k t xs, v) :: Γ) H) : Iv X M ((.nod k t (shs xs), v) :: Γ) H := by
  obtain ⟨O, S, r, n, c1, c2⟩ := h.ex
  have main : ∀ (a : Addr) (vs : List V) (O1 S1 : List Addr), RA H (xs.zip vs ++ Γ) O1 S1 → O1.Nodup → (∀ b ∈ O1, b ∈ O) → (∀ b ∈ S1, b ∈ S) → ∃ O2 S2, RA H ((shs xs).zip vs ++ Γ) O2 S2 ∧ O2.Nodup ∧ (∀ b ∈ O2, b ∈ O1 ∧ b ∉ S2) ∧ (∀ b ∈ S2, b ∈ O1 ∨ b ∈ S1) := by
    intro a vs O1 S1 r1 n1 i1 i2
    obtain ⟨Oa, Ob, Sa, Sb, ra, rb, rfl, rfl⟩ := r1.split _ rfl
    obtain ⟨S', r', m⟩ := ra.shr_
    rw [shG_zip] at r'
    have n' := List.nodup_append.mp n1
    refine ⟨[] ++ Ob, S' ++ Sb, r'.app rb, n'.2.1, fun b hb => ⟨List.mem_append_right _ hb, fun z => ?_⟩, fun b hb => ?_⟩
    · rcases List.mem_append.mp z with z | z
      · rcases (m b).mp z with z | z
        · exact n'.2.2 b z b hb rfl
        · exact (c1 b (i1 b (List.mem_append_right _ hb))).1 (i2 b (List.mem_append_left _ z))
      · exact (c1 b (i1 b (List.mem_append_right _ hb))).1 (i2 b (List.mem_append_right _ z))
    · rcases List.mem_append.mp hb with z | z
      · rcases (m b).mp z with z | z
        · exact .inl (List.mem_append_left _ z)
        · exact .inr (List.mem_append_left _ z)
      · exact .inr (List.mem_append_right _ z)
  have sx : ∀ b, b ∈ O ∨ b ∈ S → M b ∨ X b = none := fun b hb => by
    rcases hb with z | z
    · exact .inr (c1 b z).2
    · exact c2 b z
  cases r with
  | @own _ _ vs a _ O0 _ h1 h2 h3 h4 r =>
    have n' := List.nodup_cons.mp n
    obtain ⟨O2, S2, r2, n2, d1, d2⟩ := main a vs O0 S r n'.2 (fun b hb => List.mem_cons_of_mem _ hb) (fun b hb => hb)
    refine ⟨h.same, a :: O2, S2, .own h1 h2 (by rw [shs_length]; exact h3) (by rw [shs_length]; exact h4) r2, List.nodup_cons.mpr ⟨fun z => n'.1 (d1 a z).1, n2⟩, fun b hb => ?_, fun b hb => sx b ((d2 b hb).imp (List.mem_cons_of_mem _) id)⟩
    rcases List.mem_cons.mp hb with rfl | hb
    · refine ⟨fun z => ?_, (c1 b List.mem_cons_self).2⟩
      rcases d2 b z with y | y
      · exact n'.1 y
      · exact (c1 b List.mem_cons_self).1 y
    · exact ⟨(d1 b hb).2, (c1 b (List.mem_cons_of_mem _ (d1 b hb).1)).2⟩
  | @shr _ _ vs a _ _ S0 h1 h2 h3 h4 r =>
    obtain ⟨O2, S2, r2, n2, d1, d2⟩ := main a vs O S0 r n (fun b hb => hb) (fun b hb => List.mem_cons_of_mem _ hb)
    refine ⟨h.same, O2, a :: S2, .shr h1 h2 (by rw [shs_length]; exact h3) (by rw [shs_length]; exact h4) r2, n2, fun b hb => ⟨fun z => ?_, (c1 b (d1 b hb).1).2⟩, fun b hb => ?_⟩
    · rcases List.mem_cons.mp z with rfl | z
      · exact (c1 b (d1 b hb).1).1 List.mem_cons_self
      · exact (d1 b hb).2 z
    · rcases List.mem_cons.mp hb with rfl | hb
      · exact c2 b List.mem_cons_self
      · exact sx b ((d2 b hb).imp id (List.mem_cons_of_mem _))
  | @imm _ _ _ vs a _ _ _ h1 h2 h3 h4 r =>
    obtain ⟨O2, S2, r2, n2, d1, d2⟩ := main a vs O S r n (fun b hb => hb) (fun b hb => hb)
    exact ⟨h.same, O2, S2, .imm h1 h2 (by rw [shs_length]; exact h3) (by rw [shs_length]; exact h4) r2, n2, fun b hb => ⟨(d1 b hb).2, (c1 b (d1 b hb).1).2⟩, fun b hb => sx b (d2 b hb)⟩
theorem Iv.dupIn {t : Bool} (h : Iv X M ((.nod k t xs, .ref a) :: Γ) H) (ha : H a = some (k.ho vs)) (hl : vs.length = xs.length) (hm : (p, v) ∈ xs.zip vs) (hs : sh p = p) : Iv X M ((p, v) :: (.nod k t xs, .ref a) :: Γ) H := by
  obtain ⟨O, S, r, n, c1, c2⟩ := h.ex
  have r0 := r
  obtain ⟨a', vs', O1, S1, e, h2, h3, h4, r1, i1, i2, _⟩ := r0.open_
  cases e
  have e1 := Kd.ho_inj (by rw [hl]; exact h4) (by rw [h3]; exact h4) (Option.some.inj (ha.symm.trans h2))
  subst e1
  obtain ⟨Γa, Γb, eg⟩ := List.append_of_mem (List.mem_append_left Γ hm)
  obtain ⟨Oa, Ob, Sa, Sb, ra, rb, eO, eS⟩ := r1.split Γa eg
  obtain ⟨Oc, Od, Sc, Sd, rc, rd, eO2, eS2⟩ := rb.cons
  obtain ⟨S', r', m⟩ := rc.shr_
  have eq : shG [(p, v)] = [(p, v)] := by simp [shG, hs]
  rw [eq] at r'
  obtain ⟨e3, e4⟩ := rc.det r'
  subst e3 e4
  have sub : ∀ b ∈ Sc, b ∈ S := fun b hb => i2 b (by rw [eS, eS2]; exact List.mem_append_right _ (List.mem_append_left _ hb))
  refine ⟨h.same, [] ++ O, Sc ++ S, rc.app r, n, fun b hb => ⟨fun z => ?_, (c1 b hb).2⟩, fun b hb => ?_⟩
  · rcases List.mem_append.mp z with z | z
    · exact (c1 b hb).1 (sub b z)
    · exact (c1 b hb).1 z
  · rcases List.mem_append.mp hb with z | z
    · exact c2 b (sub b z)
    · exact c2 b z
theorem shs_fix {xs : List PV} {z : PV} (h : z ∈ shs xs) : sh z = z := by
  rw [shs_eq] at h
  obtain ⟨w, _, rfl⟩ := List.mem_map.mp h
  exact sh_sh w
theorem atI_mem {α : Type} {xs : List α} {i : Int} {x : α} (h : atI xs i = some x) : x ∈ xs := by
  unfold atI at h
  cases e : ixN xs.length i with
  | none => rw [e] at h; cases h
  | some j => rw [e] at h; exact List.mem_of_getElem? h
theorem idxP_in {x y z : PV} {vx vy : V} {Q : VK} (h : idxP (sh x) y = some z) (hz : cln z = false) (iv : Iv X M ((x, vx) :: (y, vy) :: Γ) H) (hq : ∀ w, Iv X M ((z, w) :: (shI x, vx) :: Γ) H → Q w H) : idxW K vx vy H Q := by
  cases x with
  | nod k t xs =>
    cases k with
    | lst =>
      cases y with
      | int i =>
        have h : atI (shs xs) i = some z := h
        cases (iv.sw).int_
        have iv1 : Iv X M ((.nod .lst t (shs xs), vx) :: Γ) H := Iv.shI_ (iv.sw.tail)
        obtain ⟨a, vs, rfl, ha, hl, _⟩ := iv1.open_
        obtain ⟨v, h1, h2⟩ := atI_len hl h
        show onS K H a _
        rw [onS_l ha]
        exact ⟨v, h1, hq v (Iv.dupIn iv1 ha hl h2 (shs_fix (atI_mem h)))⟩
      | _ => simp [sh, idxP] at h
    | tup =>
      cases y with
      | int i =>
        have h : atI (shs xs) i = some z := h
        cases (iv.sw).int_
        have iv1 : Iv X M ((.nod .tup t (shs xs), vx) :: Γ) H := Iv.shI_ (iv.sw.tail)
        obtain ⟨a, vs, rfl, ha, hl, _⟩ := iv1.open_
        obtain ⟨v, h1, h2⟩ := atI_len hl h
        show onS K H a _
        rw [onS_t ha]
        exact ⟨v, h1, hq v (Iv.dupIn iv1 ha hl h2 (shs_fix (atI_mem h)))⟩
      | _ => simp [sh, idxP] at h
    | _ => simp [sh, idxP] at h
  | str s =>
    cases y with
    | int i =>
      have h : (if fitB s.length then (atI s.cps.toList i).map fun c => PV.str ⟨#[c]⟩ else none) = some z := h
      split at h
      · cases ho : atI s.cps.toList i with
        | none => rw [ho] at h; cases h
        | some c => rw [ho] at h; cases h; cases hz
      · cases h
    | _ => simp [sh, idxP] at h
  | non => simp [sh, idxP] at h
  | bl b => simp [sh, idxP] at h
  | int b => simp [sh, idxP] at h
theorem zip_drop {α β : Type} : ∀ {xs : List α} {vs : List β} (n : Nat), (xs.zip vs).drop n = (xs.drop n).zip (vs.drop n)
  | [], _, n => by simp
  | _ :: _, [], n => by simp
  | x :: xs, v :: vs, 0 => rfl
  | x :: xs, v :: vs, n + 1 => by simp only [List.zip_cons_cons, List.drop_succ_cons]; exact zip_drop n
theorem zip_take {α β : Type} : ∀ {xs : List α} {vs : List β} (n : Nat), (xs.zip vs).take n = (xs.take n).zip (vs.take n)
  | [], _, n => by simp
  | _ :: _, [], n => by simp
  | x :: xs, v :: vs, 0 => rfl
  | x :: xs, v :: vs, n + 1 => by simp only [List.zip_cons_cons, List.take_succ_cons]; rw [zip_take n]
theorem Iv.subl (h : Iv X M (Γ1 ++ Γ) H) (hs : Γ2.Sublist Γ1) : Iv X M (Γ2 ++ Γ) H := by
  induction hs generalizing Γ with
  | slnil => exact h
  | cons a _ ih => exact ih h.tail
  | @cons_cons l1 l2 a _ ih =>
    obtain ⟨p, v⟩ := a
    have h2 : Iv X M (l2 ++ (p, v) :: Γ) H := h.perm List.perm_middle.symm
    exact (ih h2).perm List.perm_middle
theorem cut_zip {lo hi : Option Int} (hl : vs.length = xs.length) : ((cutP xs lo hi).zip (cutV vs lo hi)).Sublist (xs.zip vs) ∧ (cutV vs lo hi).length = (cutP xs lo hi).length := by
  unfold cutP cutV
  rw [hl]
  refine ⟨?_, by simp [hl]⟩
  rw [← zip_take, ← zip_drop]
  exact (List.take_sublist _ _).trans (List.drop_sublist _ _)
theorem slP_ok {x z : PV} {vx : V} {lo hi : Option Int} {Q : VK} (h : slP x lo hi = some z) (iv : Iv X M ((x, vx) :: Γ) H) (hq : ∀ v H1, Iv X M ((z, v) :: Γ) H1 → Q v H1) : slW K vx lo hi H Q := by
  unfold slP at h
  split at h
  · cases h
    obtain ⟨a, vs, rfl, ha, hl, iv'⟩ := iv.open_
    show onL K H a _
    rw [onL_of ha]
    intro p H1 hp s e
    obtain ⟨z1, z2⟩ := cut_zip (lo := lo) (hi := hi) hl
    exact hq _ _ (Iv.alloc (k := .lst) (iv'.subl z1) hp s e rfl z2 rfl)
  · cases h
    obtain ⟨a, vs, rfl, ha, hl, iv'⟩ := iv.open_
    show onL K H a _
    unfold onL
    rw [show H a = some (.frz _ (.lst vs)) from ha]
    intro p H1 hp s e
    obtain ⟨z1, z2⟩ := cut_zip (lo := lo) (hi := hi) hl
    exact hq _ _ (Iv.alloc (k := .lst) (iv'.subl z1) hp s e rfl z2 rfl)
  · cases h
theorem shift_fm {α : Type} (x : α) (l : List α) : ∀ ixs : List Nat, (∀ j, j ∈ ixs → 0 < j) → ixs.filterMap ((x :: l)[·]?) = (ixs.map (· - 1)).filterMap (l[·]?)
  | [], _ => rfl
  | j :: js, h => by
    have hj := h j (by simp)
    have ih := shift_fm x l js fun i hi => h i (by simp [hi])
    rw [List.map_cons, List.filterMap_cons, List.filterMap_cons, ih]
    have e : (x :: l)[j]? = l[j - 1]? := by
      cases j with
      | zero => omega
      | succ j => rfl
    rw [e]
theorem inc_sub {α : Type} : ∀ (l : List α) (ixs : List Nat), ixs.Pairwise (· < ·) → (ixs.filterMap (l[·]?)).Sublist l
  | [], ixs, _ => by
    have : ixs.filterMap (([] : List α)[·]?) = [] := by
      rw [List.filterMap_eq_nil_iff]; intro i _; simp
    rw [this]; exact .slnil
  | x :: l, [], _ => by simp
  | x :: l, j :: js, h => by
    obtain ⟨h1, h2⟩ := List.pairwise_cons.mp h
    have dec : ∀ ks : List Nat, (∀ k, k ∈ ks → 0 < k) → ks.Pairwise (· < ·) → (ks.map (· - 1)).Pairwise (· < ·) := fun ks hp hk => by
      rw [List.pairwise_map]
      exact hk.imp_of_mem fun {a b} ha hb hab => by have := hp a ha; have := hp b hb; omega
    cases j with
    | zero =>
      have hp : ∀ k, k ∈ js → 0 < k := fun k hk => h1 k hk
      rw [List.filterMap_cons]
      show (x :: js.filterMap ((x :: l)[·]?)).Sublist (x :: l)
      rw [shift_fm x l js hp]
      exact (inc_sub l _ (dec js hp h2)).cons₂ x
    | succ j =>
      have hp : ∀ k, k ∈ (j + 1) :: js → 0 < k := fun k hk => by
        rcases List.mem_cons.mp hk with rfl | hk
        · omega
        · have := h1 k hk; omega
      rw [shift_fm x l _ hp]
      exact (inc_sub l _ (dec _ hp h)).cons x
theorem fm_zip {α β : Type} {xs : List α} {vs : List β} (hl : vs.length = xs.length) : ∀ ixs : List Nat, (ixs.filterMap (xs[·]?)).zip (ixs.filterMap (vs[·]?)) = ixs.filterMap ((xs.zip vs)[·]?)
  | [] => rfl
  | i :: ixs => by
    have ih := fm_zip hl ixs
    rw [List.filterMap_cons, List.filterMap_cons, List.filterMap_cons]
    by_cases hi : i < xs.length
    · have e1 : xs[i]? = some xs[i] := List.getElem?_eq_getElem hi
      have e2 : vs[i]? = some (vs[i]'(by omega)) := List.getElem?_eq_getElem (by omega)
      have e3 : (xs.zip vs)[i]? = some (xs[i], vs[i]'(by omega)) := by rw [List.getElem?_zip_eq_some]; exact ⟨e1, e2⟩
      rw [e1, e2, e3]
      simp only [List.zip_cons_cons, ih]
    · rw [List.getElem?_eq_none (by omega), List.getElem?_eq_none (by omega), List.getElem?_eq_none (by rw [List.length_zip]; omega)]
      exact ih
theorem sr_inc {a b k : Int} (ha : 0 ≤ a) (hk : 0 < k) : (sliceRange a b k).Pairwise (· < ·) := by
  unfold sliceRange
  rw [List.pairwise_map]
  refine List.pairwise_lt_range.imp fun {x y} h => ?_
  have e : k * (x : Int) < k * (y : Int) := Int.mul_lt_mul_of_pos_left (by omega) hk
  have e0 : 0 ≤ k * (x : Int) := Int.mul_nonneg (by omega) (by omega)
  omega
theorem pick_zip {xs : List PV} {vs : List V} {i k : Int} (hl : vs.length = xs.length) (hk : 0 < k) : ((pickA xs (some i) none (some k)).zip (pickA vs (some i) none (some k))).Sublist (xs.zip vs) ∧ (pickA vs (some i) none (some k)).length = (pickA xs (some i) none (some k)).length := by
  have e : sliceBounds (some i) none (some k) xs.length = (max 0 (min (if i < 0 then i + xs.length else i) xs.length), (xs.length : Int), k) := by
    unfold sliceBounds
    simp only [Option.getD_some]
    rw [if_pos hk, if_pos hk]
  unfold pickA
  rw [hl, fm_zip hl]
  refine ⟨inc_sub _ _ ?_, ?_⟩
  · rw [e]; exact sr_inc (by simp only; omega) hk
  · have len : ∀ ixs : List Nat, (ixs.filterMap (vs[·]?)).length = (ixs.filterMap (xs[·]?)).length := by
      intro ixs
      induction ixs with
      | nil => rfl
      | cons j js ih =>
        rw [List.filterMap_cons, List.filterMap_cons]
        by_cases hj : j < xs.length
        · rw [List.getElem?_eq_getElem hj, List.getElem?_eq_getElem (show j < vs.length by omega)]
          simp only [List.length_cons, ih]
        · rw [List.getElem?_eq_none (by omega), List.getElem?_eq_none (by omega)]
          exact ih
    exact len _
theorem stpP_ok {x y z : PV} {vx vy : V} {k : Int} {Q : VK} (h : stpP x y k = some z) (iv : Iv X M ((y, vy) :: (x, vx) :: Γ) H) (hq : ∀ v H1, Iv X M ((z, v) :: Γ) H1 → Q v H1) :
    stpW K k vx vy H Q := by
  unfold stpP at h
  split at h
  · rename_i t xs i
    split at h
    · rename_i hk
      cases h
      have hk := of_decide_eq_true hk
      cases iv.int_
      obtain ⟨a, vs, rfl, ha, hl, iv2⟩ := iv.tail.open_
      show onL K H a _
      rw [onL_of ha]
      obtain ⟨hs, he⟩ := pick_zip (i := i) hl hk
      refine ⟨hk, fun p H1 hp s e => hq _ _ (Iv.alloc (k := .lst) (iv2.subl hs) hp s e rfl he rfl)⟩
    · cases h
  · cases h
theorem rev_zip {α β : Type} {xs : List α} {vs : List β} (hl : vs.length = xs.length) : xs.reverse.zip vs.reverse = (xs.zip vs).reverse := by
  induction xs generalizing vs with
  | nil => cases vs with
    | nil => rfl
    | cons _ _ => cases hl
  | cons x xs ih => cases vs with
    | nil => cases hl
    | cons v vs =>
      have hl' : vs.length = xs.length := by simpa using hl
      rw [List.reverse_cons, List.reverse_cons, zip_app (by simp [hl']), ih hl', show (x :: xs).zip (v :: vs) = (x, v) :: xs.zip vs from rfl, List.reverse_cons]
      rfl
theorem intsP_ok : ∀ {xs : List PV} {ns : List Int}, intsP xs = some ns → flPs xs = some (ns.map V.int)
  | [], ns, h => by simp [intsP] at h; subst h; rfl
  | .int i :: xs, ns, h => by
    simp only [intsP] at h
    cases e : intsP xs with
    | none => rw [e] at h; cases h
    | some ms =>
      rw [e] at h
      cases h
      simp [flPs, flP, intsP_ok e]
  | .non :: _, _, h => by simp [intsP] at h
  | .bl _ :: _, _, h => by simp [intsP] at h
  | .str _ :: _, _, h => by simp [intsP] at h
  | .nod _ _ _ :: _, _, h => by simp [intsP] at h
theorem boolsP_ok : ∀ {xs : List PV} {ns : List Bool}, boolsP xs = some ns → flPs xs = some (ns.map V.bl)
  | [], ns, h => by simp [boolsP] at h; subst h; rfl
  | .bl i :: xs, ns, h => by
    simp only [boolsP] at h
    cases e : boolsP xs with
    | none => rw [e] at h; cases h
    | some ms =>
      rw [e] at h
      cases h
      simp [flPs, flP, boolsP_ok e]
  | .non :: _, _, h => by simp [boolsP] at h
  | .int _ :: _, _, h => by simp [boolsP] at h
  | .str _ :: _, _, h => by simp [boolsP] at h
  | .nod _ _ _ :: _, _, h => by simp [boolsP] at h
theorem maxI_ok : ∀ (ns : List Int) (m : Int), maxI m ns ∈ m :: ns ∧ ∀ y ∈ m :: ns, y ≤ maxI m ns
  | [], m => ⟨by simp [maxI], by simp [maxI]⟩
  | x :: xs, m => by
    rw [maxI]
    obtain ⟨h1, h2⟩ := maxI_ok xs (if m < x then x else m)
    constructor
    · rcases List.mem_cons.mp h1 with e | e
      · rw [e]; split <;> simp
      · simp [e]
    · intro y hy
      have hm := h2 (if m < x then x else m) List.mem_cons_self
      simp only [List.mem_cons] at hy
      rcases hy with rfl | rfl | hy
      · split at hm <;> split <;> omega
      · split at hm <;> split <;> omega
      · exact h2 y (List.mem_cons_of_mem _ hy)
theorem minI_ok : ∀ (ns : List Int) (m : Int), minI m ns ∈ m :: ns ∧ ∀ y ∈ m :: ns, minI m ns ≤ y
  | [], m => ⟨by simp [minI], by simp [minI]⟩
  | x :: xs, m => by
    rw [minI]
    obtain ⟨h1, h2⟩ := minI_ok xs (if x < m then x else m)
    constructor
    · rcases List.mem_cons.mp h1 with e | e
      · rw [e]; split <;> simp
      · simp [e]
    · intro y hy
      have hm := h2 (if x < m then x else m) List.mem_cons_self
      simp only [List.mem_cons] at hy
      rcases hy with rfl | rfl | hy
      · split at hm <;> split <;> omega
      · split at hm <;> split <;> omega
      · exact h2 y (List.mem_cons_of_mem _ hy)
theorem insI_perm (x : Int) : ∀ ys : List Int, (insI x ys).Perm (x :: ys)
  | [] => .refl _
  | y :: ys => by
    rw [insI]
    split
    · exact .refl _
    · exact ((insI_perm x ys).cons y).trans (.swap _ _ _)
theorem sortI_perm : ∀ ys : List Int, (sortI ys).Perm ys
  | [] => .refl _
  | y :: ys => by rw [sortI]; exact (insI_perm y _).trans ((sortI_perm ys).cons y)
theorem insI_sorted (x : Int) : ∀ ys : List Int, ys.Pairwise (· ≤ ·) → (insI x ys).Pairwise (· ≤ ·)
  | [], _ => by simp [insI]
  | y :: ys, h => by
    rw [insI]
    have h' := List.pairwise_cons.mp h
    split
    · rename_i hxy
      refine List.pairwise_cons.mpr ⟨fun z hz => ?_, h⟩
      rcases List.mem_cons.mp hz with rfl | hz
      · exact hxy
      · have := h'.1 z hz; omega
    · rename_i hxy
      refine List.pairwise_cons.mpr ⟨fun z hz => ?_, insI_sorted x ys h'.2⟩
      rcases List.mem_cons.mp ((insI_perm x ys).mem_iff.mp hz) with rfl | hz
      · omega
      · exact h'.1 z hz
theorem sortI_sorted : ∀ ys : List Int, (sortI ys).Pairwise (· ≤ ·)
  | [] => by simp [sortI]
  | y :: ys => by rw [sortI]; exact insI_sorted y _ (sortI_sorted ys)
theorem sorted_eq : ∀ {l m : List Int}, l.Perm m → l.Pairwise (· ≤ ·) → m.Pairwise (· ≤ ·) → l = m
  | [], m, p, _, _ => (List.Perm.nil_eq p)
  | x :: l, [], p, _, _ => by cases (List.Perm.nil_eq p.symm)
  | x :: l, y :: m, p, hl, hm => by
    have hl' := List.pairwise_cons.mp hl
    have hm' := List.pairwise_cons.mp hm
    have e : x = y := by
      have h1 : x ∈ y :: m := p.mem_iff.mp List.mem_cons_self
      have h2 : y ∈ x :: l := p.mem_iff.mpr List.mem_cons_self
      rcases List.mem_cons.mp h1 with e | e
      · exact e
      · rcases List.mem_cons.mp h2 with e' | e'
        · exact e'.symm
        · have := hl'.1 y e'; have := hm'.1 x e; omega
    subst e
    rw [sorted_eq (p.cons_inv) hl'.2 hm'.2]
theorem lenPV2 {us : List V} {p q : PV} (h : us.length = [p, q].length) : ∃ u w, us = [u, w] := by
  match us, h with
  | [u, w], _ => exact ⟨u, w, rfl⟩
theorem leP_total {a b : Int × Int} (h : ¬ leP a b) : leP b a := by unfold leP at *; omega
theorem insQ_perm (x : Int × Int) : ∀ ys, (insQ x ys).Perm (x :: ys)
  | [] => .refl _
  | y :: ys => by
    rw [insQ]
    split
    · exact .refl _
    · exact ((insQ_perm x ys).cons y).trans (.swap x y ys)
theorem sortQ_perm : ∀ ys, (sortQ ys).Perm ys
  | [] => .refl _
  | y :: ys => (insQ_perm y _).trans ((sortQ_perm ys).cons y)
theorem insQ_sorted (x : Int × Int) : ∀ ys : List (Int × Int), ys.Pairwise leP → (insQ x ys).Pairwise leP
  | [], _ => List.pairwise_singleton _ _
  | y :: ys, h => by
    have h' := List.pairwise_cons.mp h
    rw [insQ]
    split
    · rename_i hx
      refine List.pairwise_cons.mpr ⟨fun z hz => ?_, h⟩
      rcases List.mem_cons.mp hz with rfl | hz
      · exact hx
      · have := h'.1 z hz
        unfold leP at *; omega
    · rename_i hx
      refine List.pairwise_cons.mpr ⟨fun z hz => ?_, insQ_sorted x ys h'.2⟩
      rcases List.mem_cons.mp ((insQ_perm x ys).mem_iff.mp hz) with rfl | hz
      · exact leP_total hx
      · exact h'.1 z hz
theorem sortQ_sorted : ∀ ys, (sortQ ys).Pairwise leP
  | [] => .nil
  | y :: ys => insQ_sorted y _ (sortQ_sorted ys)
theorem sortedQ_eq : ∀ {l m : List (Int × Int)}, l.Perm m → l.Pairwise leP → m.Pairwise leP → l = m
  | [], m, p, _, _ => (List.Perm.nil_eq p)
  | x :: l, [], p, _, _ => by cases (List.Perm.nil_eq p.symm)
  | x :: l, y :: m, p, hl, hm => by
    have hl' := List.pairwise_cons.mp hl
    have hm' := List.pairwise_cons.mp hm
    have e : x = y := by
      have h1 : x ∈ y :: m := p.mem_iff.mp List.mem_cons_self
      have h2 : y ∈ x :: l := p.mem_iff.mpr List.mem_cons_self
      rcases List.mem_cons.mp h1 with e | e
      · exact e
      · rcases List.mem_cons.mp h2 with e' | e'
        · exact e'.symm
        · have a := hl'.1 y e'
          have b := hm'.1 x e
          unfold leP at a b
          exact Prod.ext (by omega) (by omega)
    subst e
    rw [sortedQ_eq (p.cons_inv) hl'.2 hm'.2]
theorem leP_of {a b : Int × Int} (h : SrtO.lexB b a = false) : leP a b := by
  have := SrtO.lexB_no.mp h
  unfold leP; omega
def kH (H : Hp) (v : V) : Int × Int := match v with
  | .ref t => match H t with
    | some (.tup [.int i, .int j]) => (i, j)
    | _ => (0, 0)
  | _ => (0, 0)
def tK (H : Hp) (v : V) : PV := TT_ [.int (kH H v).1, .int (kH H v).2]
theorem zip_tK {H : Hp} : ∀ ws : List V, (ws.map (tK H)).zip ws = ws.map fun v => (tK H v, v)
  | [] => rfl
  | w :: ws => by rw [List.map_cons, List.zip_cons_cons, zip_tK ws]; rfl
theorem prsP_ok : ∀ {ys : List PV} {ks : List (Int × Int)} {vs : List V} {Γ : List (PV × V)}, prsP ys = some ks → vs.length = ys.length → Iv X M (ys.zip vs ++ Γ) H →
    vs.map (kH H) = ks ∧ (∀ v, v ∈ vs → ∃ t, v = .ref t ∧ H t = some (.tup [.int (kH H v).1, .int (kH H v).2])) ∧ ys = vs.map (tK H)
  | [], ks, vs, Γ, h, hl, iv => by
    cases vs with
    | nil => cases h; exact ⟨rfl, (fun v hv => by cases hv), rfl⟩
    | cons v vs => cases hl
  | y :: ys, ks, vs, Γ, h, hl, iv => by
    cases vs with
    | nil => cases hl
    | cons v vs =>
      rw [prsP] at h
      split at h
      · rename_i k ks' h1 h2
        cases h
        rw [List.zip_cons_cons, List.cons_append] at iv
        obtain ⟨a1, a2, a3⟩ := prsP_ok h2 (by simpa using hl) iv.tail
        unfold prP at h1
        split at h1
        · rename_i a b
          cases h1
          obtain ⟨t, us, rfl, ht, hu, iv2⟩ := Iv.open_ iv
          obtain ⟨u, w, rfl⟩ := lenPV2 hu
          cases Iv.int_ iv2
          cases Iv.int_ iv2.tail
          have e : kH H (.ref t) = (a, b) := by
            show (match H t with
              | some (.tup [.int i, .int j]) => (i, j)
              | _ => (0, 0)) = _
            rw [ht]; rfl
          refine ⟨by rw [List.map_cons, e, a1], ?_, by rw [List.map_cons, ← a3]; unfold tK; rw [e]⟩
          intro x hx
          rcases List.mem_cons.mp hx with rfl | hx
          · exact ⟨t, rfl, by rw [e]; exact ht⟩
          · exact a2 x hx
        · cases h1
      · cases h
theorem zip_ints (ns : List Int) : ∀ g ∈ (ns.map PV.int).zip (ns.map V.int), flP g.1 = some g.2 := by
  induction ns with
  | nil => intro g hg; simp at hg
  | cons n ns ih =>
    intro g hg
    simp only [List.map_cons, List.zip_cons_cons, List.mem_cons] at hg
    rcases hg with rfl | hg
    · rfl
    · exact ih g hg
theorem Iv.addFs (h : Iv X M Γ H) : ∀ {Δ : List (PV × V)}, (∀ g ∈ Δ, flP g.1 = some g.2) → Iv X M (Δ ++ Γ) H
  | [], _ => h
  | (p, v) :: Δ, hd => Iv.addF (Iv.addFs h fun g hg => hd g (List.mem_cons_of_mem _ hg)) (hd _ List.mem_cons_self)

theorem len1 {us : List V} {p : PV} (h : us.length = [p].length) : ∃ u, us = [u] := by
  match us, h with
  | [u], _ => exact ⟨u, rfl⟩
theorem okS_ok {ds : List PyData} (h : okS ds = true) : PySem.W.AllAlike ds ∧ PySem.W.Sortable ds ∧ ∀ d, d ∈ ds → d.depth ≤ 60 := by
  simp only [okS, Bool.and_eq_true, Bool.or_eq_true, List.all_eq_true, decide_eq_true_eq] at h
  obtain ⟨⟨h1, h2⟩, h3⟩ := h
  refine ⟨fun d hd e he => h1 d hd e he, h2.imp (fun q d hd => ?_) (fun q d hd => ?_), h3⟩
  · have := q d hd
    unfold isT1 at this
    split at this
    · exact ⟨_, _, rfl⟩
    · cases this
  · have := q d hd
    unfold noTN at this
    split at this
    · cases this
    · cases this
    · rename_i n1 n2
      exact ⟨n2, n1⟩
theorem insS_perm {α : Type} {le : α → α → Bool} (x : α) : ∀ ys : List α, (insS le x ys).Perm (x :: ys)
  | [] => .refl _
  | y :: ys => by
    rw [insS]
    split
    · exact .refl _
    · exact ((insS_perm x ys).cons y).trans (List.Perm.swap _ _ _)
theorem isortS_perm {α : Type} {le : α → α → Bool} : ∀ ys : List α, (isortS le ys).Perm ys
  | [] => .refl _
  | y :: ys => by rw [isortS]; exact (insS_perm y _).trans ((isortS_perm ys).cons y)
theorem insS_map {α β : Type} {le : α → α → Bool} {le' : β → β → Bool} {f : β → α} (h : ∀ a b, le (f a) (f b) = le' a b) (x : β) : ∀ ys : List β, insS le (f x) (ys.map f) = (insS le' x ys).map f
  | [] => rfl
  | y :: ys => by
    rw [List.map_cons, insS, insS, h, insS_map h x ys]
    split <;> simp
theorem isortS_map {α β : Type} {le : α → α → Bool} {le' : β → β → Bool} {f : β → α} (h : ∀ a b, le (f a) (f b) = le' a b) : ∀ ys : List β, isortS le (ys.map f) = (isortS le' ys).map f
  | [] => rfl
  | y :: ys => by rw [List.map_cons, isortS, isortS, isortS_map h ys, insS_map h]
theorem sortD_zip {ys : List PV} {vs : List V} {ds : List PyData} (h1 : vs.length = ys.length) (h2 : ds.length = ys.length) : ((sortD ys ds).zip (sortD vs ds)).Perm (ys.zip vs) ∧ (sortD vs ds).length = (sortD ys ds).length := by
  have e1 : ys.zip ds = ((ys.zip vs).zip ds).map fun t : (PV × V) × PyData => (t.1.1, t.2) := by
    apply List.ext_getElem
    · simp; omega
    · intro i a b; simp
  have e2 : vs.zip ds = ((ys.zip vs).zip ds).map fun t : (PV × V) × PyData => (t.1.2, t.2) := by
    apply List.ext_getElem
    · simp; omega
    · intro i a b; simp
  have s1 : sortD ys ds = (isortS leD ((ys.zip vs).zip ds)).map fun t => t.1.1 := by
    unfold sortD
    rw [e1, isortS_map (le := leD) (le' := leD) (f := fun t : (PV × V) × PyData => (t.1.1, t.2)) (fun a b => rfl), List.map_map]; rfl
  have s2 : sortD vs ds = (isortS leD ((ys.zip vs).zip ds)).map fun t => t.1.2 := by
    unfold sortD
    rw [e2, isortS_map (le := leD) (le' := leD) (f := fun t : (PV × V) × PyData => (t.1.2, t.2)) (fun a b => rfl), List.map_map]; rfl
  rw [s1, s2]
  refine ⟨?_, by simp⟩
  have e3 : ((isortS leD ((ys.zip vs).zip ds)).map fun t => t.1.1).zip ((isortS leD ((ys.zip vs).zip ds)).map fun t => t.1.2) = (isortS leD ((ys.zip vs).zip ds)).map fun t => t.1 := by
    rw [List.zip_map']
  rw [e3]
  refine ((isortS_perm _).map _).trans ?_
  rw [List.map_fst_zip (by simp; omega)]
theorem toDs_len : ∀ {xs : List PV} {ds : List PyData}, toDs xs = some ds → ds.length = xs.length
  | [], ds, h => by cases h; rfl
  | x :: xs, ds, h => by
    rw [toDs] at h
    split at h
    · rename_i d ds' h1 h2
      cases h
      simp [toDs_len h2]
    · cases h
theorem catP_ok : ∀ {ys xs : List PV} {vs : List V} {Γ : List (PV × V)}, catP ys = some xs → vs.length = ys.length → Iv X M (ys.zip vs ++ Γ) H →
    ∃ (ps : List Addr) (wss : List (List V)), vs = ps.map V.ref ∧ wss.length = ps.length ∧ (∀ (i : Nat) (p : Addr) (ws : List V), ps[i]? = some p → wss[i]? = some ws → H p = some (.lst ws)) ∧ wss.flatten.length = xs.length ∧ Iv X M (xs.zip wss.flatten ++ Γ) H
  | [], xs, vs, Γ, h, hl, iv => by
    cases h
    have : vs = [] := List.eq_nil_of_length_eq_zero hl
    subst this
    exact ⟨[], [], rfl, rfl, fun i p ws h1 => by simp at h1, rfl, iv⟩
  | .nod .lst t zs :: ys, xs, [], Γ, h, hl, iv => by cases hl
  | .nod .lst t zs :: ys, xs, v :: vs, Γ, h, hl, iv => by
    rw [catP] at h
    cases e : catP ys with
    | none => rw [e] at h; cases h
    | some xs' =>
      rw [e] at h
      cases h
      obtain ⟨a, ws, rfl, ha, hm, iv1⟩ := Iv.open_ (show Iv X M ((.nod .lst t zs, v) :: (ys.zip vs ++ Γ)) H from iv)
      have iv2 : Iv X M (ys.zip vs ++ (zs.zip ws ++ Γ)) H := iv1.perm (by
        rw [← List.append_assoc, ← List.append_assoc]
        exact List.perm_append_comm.append_right _)
      obtain ⟨ps, wss, rfl, h1, h2, h3, iv3⟩ := catP_ok (vs := vs) e (by simpa using hl) iv2
      refine ⟨a :: ps, ws :: wss, rfl, by simp [h1], fun i p w g1 g2 => ?_, by simp [h3, hm], ?_⟩
      · cases i with
        | zero => simp at g1 g2; subst g1 g2; exact ha
        | succ i => exact h2 i p w (by simpa using g1) (by simpa using g2)
      · rw [List.flatten_cons, zip_app hm]
        exact iv3.perm (by
          rw [← List.append_assoc]
          exact List.perm_append_comm.append_right _)
  | .nod .tup _ _ :: _, _, _, _, h, _, _ => by simp [catP] at h
  | .nod (.dT _) _ _ :: _, _, _, _, h, _, _ => by simp [catP] at h
  | .nod (.dK _) _ _ :: _, _, _, _, h, _, _ => by simp [catP] at h
  | .nod (.scr _) _ _ :: _, _, _, _, h, _, _ => by simp [catP] at h
  | .non :: _, _, _, _, h, _, _ => by simp [catP] at h
  | .bl _ :: _, _, _, _, h, _, _ => by simp [catP] at h
  | .int _ :: _, _, _, _, h, _, _ => by simp [catP] at h
  | .str _ :: _, _, _, _, h, _, _ => by simp [catP] at h
theorem bltP_ok {f : Str} {xs : List PV} {z : PV} {us : List V} {Q : VK} (h : bltP f xs = some z) (hl : us.length = xs.length) (iv : Iv X M (xs.zip us ++ Γ) H) (hq : ∀ v H1, Iv X M ((z, v) :: Γ) H1 → Q v H1) : bltW K f us H Q := by
  unfold bltP at h
  unfold bltW
  split at h
  · rename_i e; rw [if_pos e]
    split at h
    · cases h
      obtain ⟨u, rfl⟩ := len1 hl
      obtain ⟨a, vs, rfl, ha, hm, iv'⟩ := Iv.open_ iv
      show onS K H a _
      rw [onS_l ha, hm]
      exact hq _ _ (iv.tail.addI _)
    · cases h
      obtain ⟨u, rfl⟩ := len1 hl
      obtain ⟨a, vs, rfl, ha, hm, iv'⟩ := Iv.open_ iv
      show onS K H a _
      rw [onS_t ha, hm]
      exact hq _ _ (iv.tail.addI _)
    · split at h
      · rename_i hf
        cases h
        obtain ⟨u, rfl⟩ := len1 hl
        cases Iv.str_ iv
        exact ⟨fitB_ok hf, hq _ _ (iv.tail.addI _)⟩
      · cases h
    · cases h
  rename_i e; rw [if_neg e]
  split at h
  · rename_i e; rw [if_pos e]
    split at h
    · cases h
      obtain ⟨u, rfl⟩ := len1 hl
      cases Iv.int_ iv
      exact hq _ _ (iv.tail.addI _)
    · cases h
      obtain ⟨u, rfl⟩ := len1 hl
      cases Iv.bl_ iv
      exact hq _ _ (iv.tail.addI _)
    · cases h
  rename_i e; rw [if_neg e]
  split at h
  · rename_i e; rw [if_pos e]
    split at h
    · rename_i k t ys
      split at h
      · rename_i d hd
        split at h
        · rename_i hf
          cases h
          obtain ⟨u, rfl⟩ := len1 hl
          simp only [Bool.and_eq_true, Bool.not_eq_true', decide_eq_true_eq] at hf
          have dp := dp_of (K := K) iv hd
          obtain ⟨a, vs, rfl, ha, hm, iv'⟩ := Iv.open_ iv
          exact ⟨d, dp, hf.1.1.1, hf.1.1.2, hf.1.2, by have := of_decide_eq_true hf.2; rw [sizeLine_eq]; omega, hq _ _ (iv.tail.addS _)⟩
        · cases h
      · cases h
    · cases h
  rename_i e; rw [if_neg e]
  split at h
  · rename_i e; rw [if_pos e]
    split at h
    · cases h
      obtain ⟨u, rfl⟩ := len1 hl
      obtain ⟨a, vs, rfl, ha, hm, iv'⟩ := Iv.open_ iv
      show onS K H a _
      rw [onS_l ha]
      intro p H1 hp s e
      exact hq _ _ (Iv.alloc (k := .lst) iv' hp s e rfl hm rfl)
    · cases h
      obtain ⟨u, rfl⟩ := len1 hl
      obtain ⟨a, vs, rfl, ha, hm, iv'⟩ := Iv.open_ iv
      show onS K H a _
      rw [onS_t ha]
      intro p H1 hp s e
      exact hq _ _ (Iv.alloc (k := .lst) iv' hp s e rfl hm rfl)
    · cases h
  rename_i e; rw [if_neg e]
  split at h
  · rename_i e; rw [if_pos e]
    split at h
    · rename_i t ys
      cases hi : intsP ys with
      | none => rw [hi] at h; cases h
      | some ns =>
        rw [hi] at h
        cases h
        obtain ⟨u, rfl⟩ := len1 hl
        obtain ⟨a, vs, rfl, ha, hm, iv'⟩ := Iv.open_ iv
        have e1 := Iv.fls iv' hm (intsP_ok hi)
        subst e1
        show onL K H a _
        rw [onL_of ha]
        exact ⟨ns, rfl, hq _ _ (iv.tail.addI _)⟩
    · rename_i t ys zs
      split at h
      · rename_i xs hcat
        split at h
        · rename_i hf
          cases h
          obtain ⟨u, w, rfl⟩ := lenPV2 hl
          have iv0 : Iv X M ((.nod .lst t ys, u) :: (.nod .lst true zs, w) :: Γ) H := iv
          obtain ⟨a, vs, rfl, ha, hm, iv1⟩ := iv0.open_
          obtain ⟨ps, wss, rfl, h1, h2, h3, iv2⟩ := catP_ok hcat hm iv1
          have iv3 : Iv X M ((.nod .lst true zs, w) :: (xs.zip wss.flatten ++ Γ)) H := iv2.perm List.perm_middle
          obtain ⟨b, xs0, rfl, hb, hm0, iv4⟩ := iv3.open_
          show rSumL [.ref a, .ref b] H Q
          refine ⟨a, b, ps, wss, xs0, rfl, ha, hb, h1, h2, by rw [hm0, h3]; exact fitB_ok hf, fun e => ?_, fun r H1 hr s e => ?_⟩
          · subst e
            have e0 : wss = [] := List.eq_nil_of_length_eq_zero h1
            subst e0
            have e1 : xs = [] := List.eq_nil_of_length_eq_zero h3.symm
            subst e1
            rw [List.append_nil] at hq
            exact hq _ _ iv3
          · refine hq _ _ (Iv.alloc (k := .lst) (xs := zs ++ xs) (vs := xs0 ++ wss.flatten) ?_ hr s e rfl (by simp [hm0, h3]) rfl)
            rw [zip_app hm0, List.append_assoc]; exact iv4
        · cases h
      · cases h
    · cases h
  rename_i e; rw [if_neg e]
  split at h
  · rename_i e; rw [if_pos e]
    split at h
    · cases h
      obtain ⟨u, w, rfl⟩ := lenPV2 hl
      cases Iv.int_ iv
      cases Iv.int_ iv.tail
      exact hq _ _ (iv.tail2.addI _)
    · rename_i t ys
      split at h
      · rename_i n ns hi
        cases h
        obtain ⟨u, rfl⟩ := len1 hl
        obtain ⟨a, vs, rfl, ha, hm, iv'⟩ := Iv.open_ iv
        have e1 := Iv.fls iv' hm (intsP_ok hi)
        subst e1
        show onL K H a _
        rw [onL_of ha]
        refine ⟨n :: ns, rfl, by simp, ?_⟩
        intro m hm1 hm2
        obtain ⟨h1, h2⟩ := maxI_ok ns n
        have e2 : m = maxI n ns := Int.le_antisymm (h2 m hm1) (hm2 _ h1)
        subst e2
        exact hq _ _ (iv.tail.addI _)
      · cases h
    · cases h
  rename_i e; rw [if_neg e]
  split at h
  · rename_i e; rw [if_pos e]
    split at h
    · cases h
      obtain ⟨u, w, rfl⟩ := lenPV2 hl
      cases Iv.int_ iv
      cases Iv.int_ iv.tail
      exact hq _ _ (iv.tail2.addI _)
    · rename_i t ys
      split at h
      · rename_i n ns hi
        cases h
        obtain ⟨u, rfl⟩ := len1 hl
        obtain ⟨a, vs, rfl, ha, hm, iv'⟩ := Iv.open_ iv
        have e1 := Iv.fls iv' hm (intsP_ok hi)
        subst e1
        show onL K H a _
        rw [onL_of ha]
        refine ⟨n :: ns, rfl, by simp, ?_⟩
        intro m hm1 hm2
        obtain ⟨h1, h2⟩ := minI_ok ns n
        have e2 : m = minI n ns := Int.le_antisymm (hm2 _ h1) (h2 m hm1)
        subst e2
        exact hq _ _ (iv.tail.addI _)
      · cases h
    · cases h
  rename_i e; rw [if_neg e]
  split at h
  · rename_i e; rw [if_pos e]
    split at h
    · rename_i t ys
      cases hi : boolsP ys with
      | none => rw [hi] at h; cases h
      | some ns =>
        rw [hi] at h
        cases h
        obtain ⟨u, rfl⟩ := len1 hl
        obtain ⟨a, vs, rfl, ha, hm, iv'⟩ := Iv.open_ iv
        have e1 := Iv.fls iv' hm (boolsP_ok hi)
        subst e1
        show onL K H a _
        rw [onL_of ha]
        exact ⟨ns, rfl, hq _ _ (iv.tail.addB _)⟩
    · cases h
  rename_i e; rw [if_neg e]
  split at h
  · rename_i e; rw [if_pos e]
    split at h
    · rename_i t ys
      split at h
      · rename_i ns hi
        split at h
        · rename_i hf
          cases h
          obtain ⟨u, rfl⟩ := len1 hl
          obtain ⟨a, vs, rfl, ha, hm, iv'⟩ := Iv.open_ iv
          have e1 := Iv.fls iv' hm (intsP_ok hi)
          subst e1
          refine .inl ?_
          rw [onL_of ha]
          refine ⟨ns, rfl, of_decide_eq_true hf, ?_⟩
          intro ms hp hs p H1 hn s e
          have e2 : ms = sortI ns := sorted_eq (hp.trans (sortI_perm ns).symm) hs (sortI_sorted ns)
          subst e2
          refine hq _ _ (Iv.alloc (k := .lst) (H := H) ?_ hn s e rfl (by simp) rfl)
          exact Iv.addFs iv.tail (zip_ints _)
        · cases h
      · cases hk : prsP ys with
        | none =>
          rw [hk] at h
          have h : srtP ys = some z := h
          unfold srtP at h
          split at h
          · rename_i ds hd
            split at h
            · rename_i hok
              cases h
              obtain ⟨u, rfl⟩ := len1 hl
              obtain ⟨a, vs, rfl, ha, hm, iv'⟩ := Iv.open_ iv
              obtain ⟨o1, o2, o3⟩ := okS_ok hok
              obtain ⟨z1, z2⟩ := sortD_zip hm (toDs_len hd)
              refine .inr (.inr ⟨a, vs, ds, rfl, SqL.of ha, dps_of iv' hm hd, o1, o2, o3, fun p hn => hq _ _ ?_⟩)
              exact Iv.alloc (k := .lst) (H := H) (iv'.perm (z1.symm.append_right _)) hn (same_new hn) upd_same rfl z2 rfl
            · cases h
          · cases h
        | some ks =>
          rw [hk] at h
          cases h
          obtain ⟨u, rfl⟩ := len1 hl
          obtain ⟨a, vs, rfl, ha, hm, iv'⟩ := Iv.open_ iv
          obtain ⟨z1, z2, z3⟩ := prsP_ok hk hm iv'
          refine .inr (.inl ⟨a, vs, kH H, rfl, SqL.of ha, z2, ?_⟩)
          intro ws p srt stb hn
          have e2 : ws.map (kH H) = sortQ ks := by
            refine sortedQ_eq ?_ ?_ (sortQ_sorted ks)
            · rw [← z1] 
              exact (stb.perm.map _).trans (sortQ_perm _).symm
            · rw [List.pairwise_map]
              exact srt.imp fun h => leP_of h
          have e3 : (sortQ ks).map (fun t => TT_ [.int t.1, .int t.2]) = ws.map (tK H) := by
            rw [← e2, List.map_map]; rfl
          refine hq _ _ ?_
          show Iv X M ((LL true ((sortQ ks).map fun t => TT_ [.int t.1, .int t.2]), .ref p) :: Γ) _
          rw [e3]
          rw [z3, zip_tK] at iv'
          have iv2 : Iv X M (ws.map (fun v => (tK H v, v)) ++ Γ) H := iv'.perm ((stb.perm.map _).symm.append_right _)
          rw [← zip_tK] at iv2
          exact Iv.alloc (k := .lst) (H := H) (vs := ws) iv2 hn (same_new hn) upd_same rfl (by simp) rfl
    · cases h
  · cases h
theorem ixP_ok : ∀ {x : V} {ys : List V} {n : Nat}, ixP x ys = some n → ∃ z, ys[n]? = some z ∧ eqV z x = true ∧ ∀ m z', m < n → ys[m]? = some z' → eqV z' x = false
  | x, [], n, h => by simp [ixP] at h
  | x, y :: ys, n, h => by
    rw [ixP] at h
    split at h
    · rename_i he
      cases h
      exact ⟨y, rfl, he, fun m z' hm => absurd hm (Nat.not_lt_zero _)⟩
    · rename_i he
      cases e : ixP x ys with
      | none => rw [e] at h; cases h
      | some j =>
        rw [e] at h
        cases h
        obtain ⟨z, h1, h2, h3⟩ := ixP_ok e
        refine ⟨z, by simpa using h1, h2, ?_⟩
        intro m z' hm hz
        cases m with
        | zero => cases hz; simpa using he
        | succ m => exact h3 m z' (Nat.lt_of_succ_lt_succ hm) (by simpa using hz)
theorem fl_all : ∀ {xs : List PV} {us : List V}, flPs xs = some us → us.all flatV = true := by
  intro xs
  induction xs with
  | nil => intro us e; simp [flPs] at e; subst e; rfl
  | cons x xs ih =>
    intro us e
    simp only [flPs] at e
    split at e
    · rename_i u us' q1 q2
      cases e
      rw [List.all_cons, ih q2]
      have : flatV u = true := by cases x <;> simp [flP] at q1 <;> subst q1 <;> rfl
      rw [this]; rfl
    · cases e
theorem fl_one {x : PV} {u : V} (h : flP x = some u) : flatV u = true := by cases x <;> simp [flP] at h <;> subst h <;> rfl
theorem mthP_ok {m : Str} {x z : PV} {xs : List PV} {vx : V} {us : List V} {Q : VK} (h : mthP m x xs = some z) (hl : us.length = xs.length) (iv : Iv X M (xs.zip us ++ (x, vx) :: Γ) H) (hq : ∀ v H1, Iv X M ((z, v) :: Γ) H1 → Q v H1) : mthW K m vx us H Q := by
  unfold mthP at h
  split at h
  · rename_i e
    subst e
    split at h
    · rename_i t ys y
      split at h
      · rename_i v vs h1 h2
        cases hi : ixP v vs with
        | none => rw [hi] at h; cases h
        | some n =>
          rw [hi] at h
          cases h
          obtain ⟨u, rfl⟩ := len1 hl
          have iv1 : Iv X M ((y, u) :: (PV.nod .lst t ys, vx) :: Γ) H := iv
          have e0 := iv1.fl h1
          subst e0
          obtain ⟨a, ws, rfl, ha, hm, iv'⟩ := Iv.open_ iv1.tail
          have e1 := Iv.fls iv' hm h2
          subst e1
          obtain ⟨z, z1, z2, z3⟩ := ixP_ok hi
          exact ⟨ws, n, z, ha, fl_one h1, fl_all h2, z1, z2, z3, hq _ _ (iv1.tail2.addI _)⟩
      · cases h
    · cases h
  · cases h
end
end VC

namespace VC
open PySem PySem.Spec PyProof.Rows L2

def XV (ca : Str → Value) (x : PX) (vs : List V) (cls : Value) (d : Option Addr) (H : Hp) : Prop :=
  cls = ca x.cls ∧ vs.length = x.fs.length ∧ (x.fs = [] ∨ ∃ dx, d = some dx ∧ H dx = some (.xd ((x.fs.map (·.1)).zip vs)))
def HX (ca : Str → Value) (X : Hp) (M : Addr → Prop) (Γ : List (PV × V)) (E : XK) {β : Type} (r : Rx β) : Prop :=
  ∀ x, r = .ex x → ∀ vs cls d H1, XV ca x vs cls d H1 → Iv X M ((x.fs.map (·.2)).zip vs ++ Γ) H1 → E cls d H1
def envG : PSt → L2.St → List (PV × V)
  | some p :: σp, some v :: σ => (p, v) :: envG σp σ
  | _ :: σp, _ :: σ => envG σp σ
  | _, _ => []
structure GOk (ca : Str → Value) (c : PCn) (T : Tab) (K : PySem.W.Frag) (k : Nat) : Prop where
  cs : ∀ x, c.cs x = T.cons.lookup x
  ps : ∀ f, c.ps f = ((T.fns.lookup f).map (·.ps)).getD []
  fn : ∀ {f : Str} {ps : List PV} {r : Rx PV} {fin : List (Option PV)} {X : Hp} {M : Addr → Prop} {vs : List V} {H : Hp} {Q : VK} {E : XK}, c.G f ps = some (r, fin) → vs.length = ps.length → Iv X M (ps.zip vs) H →
    (∀ p, r = .ok p → ∀ x H1, Iv X M ((p, x) :: envG fin (vs.map some)) H1 → Q x H1) → HX ca X M (envG fin (vs.map some)) E r → SPn T K k f vs H Q E
structure Av (Γ : List (PV × V)) (σp : PSt) (σ : L2.St) : Prop where
  len : σp.length = σ.length
  at_ : ∀ (i : Nat) (p : PV), σp[i]? = some (some p) → ∃ v, σ[i]? = some (some v) ∧ (sh p, v) ∈ Γ

section
variable {ca : Str → Value} {X : Hp} {M : Addr → Prop} {Γ Γ' Γ1 Γ2 Δ : List (PV × V)} {H H1 : Hp} {k : Kd} {xs ys : List PV} {vs ws : List V} {p q : PV} {v w : V} {a b : Addr} {K : PySem.W.Frag} {σp σp1 : PSt} {σ σ1 : L2.St} {E : XK} {β : Type} {r : Rx β}
theorem HX.app (h : HX ca X M Γ E r) : HX ca X M (Δ ++ Γ) E r := fun x e vs cls d H1 hv iv => h x e vs cls d H1 hv iv.midA
theorem HX.cons (h : HX ca X M Γ E r) : HX ca X M ((p, v) :: Γ) E r := HX.app (Δ := [(p, v)]) h
theorem HX.ok {a : β} : HX ca X M Γ E (.ok a) := fun _ e => by cases e
theorem HX.cast {γ : Type} {x : PX} (h : HX ca X M Γ E (.ex x : Rx β)) : HX ca X M Γ E (.ex x : Rx γ) := fun y e => by cases e; exact h x rfl
theorem Av.app (h : Av Γ σp σ) : Av (Δ ++ Γ) σp σ := ⟨h.len, fun i p e => by
  obtain ⟨v, h1, h2⟩ := h.at_ i p e
  exact ⟨v, h1, List.mem_append_right _ h2⟩⟩
theorem Av.cons (h : Av Γ σp σ) : Av ((p, v) :: Γ) σp σ := Av.app (Δ := [(p, v)]) h
theorem Av.set (h : Av Γ σp σ) (hm : (sh p, v) ∈ Γ) (j : Nat) : Av Γ (σp.set j (some p)) (σ.set j (some v)) := by
  refine ⟨by simp [h.len], fun i q e => ?_⟩
  rw [List.getElem?_set] at e ⊢
  by_cases hij : j = i
  · subst hij
    rw [if_pos rfl] at e ⊢
    by_cases hl : j < σp.length
    · rw [if_pos hl] at e
      cases e
      rw [if_pos (by rw [← h.len]; exact hl)]
      exact ⟨v, rfl, hm⟩
    · rw [if_neg hl] at e; cases e
  · rw [if_neg hij] at e ⊢
    exact h.at_ i q e
theorem Av.wipe (h : Av Γ σp σ) : ∀ vs : List Nat, Av Γ (wipeP σp vs) (wipe σ vs)
  | [] => h
  | v :: vs => by
    have ih := Av.wipe h vs
    refine ⟨by simp [wipeP, L2.wipe, ih.len], fun i q e => ?_⟩
    simp only [wipeP, L2.wipe] at e ⊢
    rw [List.getElem?_set] at e ⊢
    by_cases hij : v = i
    · subst hij
      rw [if_pos rfl] at e
      split at e <;> cases e
    · rw [if_neg hij] at e ⊢
      exact ih.at_ i q e
theorem Av.setAll : ∀ {js : List Nat} {ys : List PV} {ws : List V} {σp : PSt} {σ : L2.St}, Av Γ σp σ → ws.length = ys.length → (∀ g ∈ ys.zip ws, (sh g.1, g.2) ∈ Γ) → Av Γ (setP σp js ys) (setAll σ js ws)
  | [], _, _, _, _, h, _, _ => by simp only [setP, VC.setAll]; exact h
  | _ :: _, [], [], _, _, h, _, _ => by simp only [setP, VC.setAll]; exact h
  | _ :: _, [], _ :: _, _, _, _, h, _ => by cases h
  | _ :: _, _ :: _, [], _, _, _, h, _ => by cases h
  | j :: js, y :: ys, w :: ws, σp, σ, h, hl, hm => by
    simp only [setP, VC.setAll]
    exact Av.setAll (h.set (hm (y, w) (by simp)) j) (by simpa using hl) fun g hg => hm g (by simp [hg])

theorem Iv.freeze {t : Bool} (h : Iv X M ((.nod .lst t xs, v) :: Γ) H) : ∃ a vs, v = .ref a ∧ H a = some (.lst vs) ∧ vs.length = xs.length ∧ Iv (upd X a (.lst vs)) (fun b => M b ∨ b = a) (xs.zip vs ++ Γ) H ∧ ∀ Γ' H', Iv (upd X a (.lst vs)) (fun b => M b ∨ b = a) Γ' H' → Iv X M Γ' H' := by
  obtain ⟨O, S, r, n, c1, c2⟩ := h.ex
  have main : ∀ (a : Addr) (vs : List V) (O1 S1 : List Addr), H a = some (.lst vs) → RA H (xs.zip vs ++ Γ) O1 S1 → O1.Nodup → (∀ b ∈ O1, b ∈ O ∧ b ≠ a) → (∀ b ∈ S1, b ∈ S) → (M a ∨ X a = none) →
      Iv (upd X a (.lst vs)) (fun b => M b ∨ b = a) (xs.zip vs ++ Γ) H ∧ ∀ Γ' H', Iv (upd X a (.lst vs)) (fun b => M b ∨ b = a) Γ' H' → Iv X M Γ' H' := by
    intro a vs O1 S1 ha r1 n1 i1 i2 hma
    have xa : ∀ o, X a = some o → o = .lst vs := fun o ho => by
      have := h.same a o ho
      rw [ha] at this
      exact (Option.some.inj this).symm
    refine ⟨⟨?_, O1, S1, r1, n1, ?_, ?_⟩, ?_⟩
    · intro b o hb
      by_cases hba : b = a
      · subst hba; rw [upd_same] at hb; rw [ha]; exact hb
      · rw [upd_ne hba] at hb; exact h.same b o hb
    · intro b hb
      obtain ⟨z1, z2⟩ := i1 b hb
      exact ⟨fun z => (c1 b z1).1 (i2 b z), by rw [upd_ne z2]; exact (c1 b z1).2⟩
    · intro b hb
      by_cases hba : b = a
      · exact .inl (.inr hba)
      · rcases c2 b (i2 b hb) with z | z
        · exact .inl (.inl z)
        · exact .inr (by rw [upd_ne hba]; exact z)
    · intro Γ' H' g
      obtain ⟨O', S', r', n', d1, d2⟩ := g.ex
      have nx : ∀ b, upd X a (.lst vs) b = none → X b = none := fun b hb => by
        by_cases hba : b = a
        · subst hba; rw [upd_same] at hb; cases hb
        · rw [upd_ne hba] at hb; exact hb
      refine ⟨fun b o hb => g.same b o ?_, O', S', r', n', fun b hb => ⟨(d1 b hb).1, nx b (d1 b hb).2⟩, fun b hb => ?_⟩
      · by_cases hba : b = a
        · subst hba; rw [upd_same, xa o hb]
        · rw [upd_ne hba]; exact hb
      · rcases d2 b hb with (z | z) | z
        · exact .inl z
        · rw [z]; exact hma
        · exact .inr (nx b z)
  cases r with
  | imm h1 _ _ _ _ => cases h1
  | @own _ _ vs a _ O _ h1 h2 h3 h4 r =>
    have n' := List.nodup_cons.mp n
    obtain ⟨z1, z2⟩ := main a vs O S h2 r n'.2 (fun b hb => ⟨List.mem_cons_of_mem _ hb, fun z => n'.1 (z ▸ hb)⟩) (fun b hb => hb) (.inr (c1 a List.mem_cons_self).2)
    exact ⟨a, vs, rfl, h2, h3, z1, z2⟩
  | @shr _ _ vs a _ _ S h1 h2 h3 h4 r =>
    obtain ⟨z1, z2⟩ := main a vs O S h2 r n (fun b hb => ⟨hb, fun z => (c1 b hb).1 (by rw [z]; exact List.mem_cons_self)⟩) (fun b hb => List.mem_cons_of_mem _ hb) (c2 a List.mem_cons_self)
    exact ⟨a, vs, rfl, h2, h3, z1, z2⟩

theorem Iv.freezeT {t : Bool} (h : Iv X M ((.nod .tup t xs, v) :: Γ) H) : ∃ a vs, v = .ref a ∧ H a = some (.tup vs) ∧ vs.length = xs.length ∧ Iv (upd X a (.tup vs)) M (xs.zip vs ++ Γ) H ∧ ∀ Γ' H', Iv (upd X a (.tup vs)) M Γ' H' → Iv X M Γ' H' := by
  obtain ⟨a, vs, rfl, ha, hl, iv2⟩ := h.focusT
  refine ⟨a, vs, rfl, ha, hl, iv2, fun Γ' H' g => ?_⟩
  have xa : ∀ o, X a = some o → o = .tup vs := fun o ho => by
    have := h.same a o ho
    rw [ha] at this
    exact (Option.some.inj this).symm
  obtain ⟨O', S', r', n', d1, d2⟩ := g.ex
  have nx : ∀ b, upd X a (.tup vs) b = none → X b = none := fun b hb => by
    by_cases hba : b = a
    · subst hba; rw [upd_same] at hb; cases hb
    · rw [upd_ne hba] at hb; exact hb
  refine ⟨fun b o hb => g.same b o ?_, O', S', r', n', fun b hb => ⟨(d1 b hb).1, nx b (d1 b hb).2⟩, fun b hb => ?_⟩
  · by_cases hba : b = a
    · subst hba; rw [upd_same, xa o hb]
    · rw [upd_ne hba]; exact hb
  · rcases d2 b hb with z | z
    · exact .inl z
    · exact .inr (nx b z)

def ItA (Γ : List (PV × V)) (s : Src) (i : Nat) : Itm → Prop
  | .one p => ∃ v, (p, v) ∈ Γ ∧ sh p = p ∧ ((∃ a xs, (s = .lst a xs ∨ s = .tup a xs) ∧ xs[i]? = some v) ∨ ∃ lo c n, s = .rng lo c n ∧ v = .int (lo + (i : Nat) * c))
  | .two p q => ∃ v w, (p, v) ∈ Γ ∧ sh p = p ∧ (q, w) ∈ Γ ∧ sh q = q ∧ ((∃ a xs, s = .enm a xs ∧ v = .int (i : Nat) ∧ xs[i]? = some w) ∨ ∃ a b xs ys, s = .zip a b xs ys ∧ xs[i]? = some v ∧ ys[i]? = some w)
structure SrcOk (K : PySem.W.Frag) (X : Hp) (Γ : List (PV × V)) (s : Src) (its : List Itm) : Prop where
  len : s.len = its.length
  ok : ∀ H, Same X H → s.ok K H
  at_ : ∀ (i : Nat) (itm : Itm), its[i]? = some itm → ItA Γ s i itm
theorem ItA.app {s : Src} {i : Nat} {itm : Itm} (h : ItA Γ s i itm) : ItA (Δ ++ Γ) s i itm := by
  cases itm with
  | one p => obtain ⟨v, h1, h2, h3⟩ := h; exact ⟨v, List.mem_append_right _ h1, h2, h3⟩
  | two p q => obtain ⟨v, w, h1, h2, h3, h4, h5⟩ := h; exact ⟨v, w, List.mem_append_right _ h1, h2, List.mem_append_right _ h3, h4, h5⟩
theorem SrcOk.app {s : Src} {its : List Itm} (h : SrcOk K X Γ s its) : SrcOk K X (Δ ++ Γ) s its := ⟨h.len, h.ok, fun i itm e => (h.at_ i itm e).app⟩
theorem shs_of {k : Kd} {t : Bool} {ys : List PV} (h : sh (.nod k t ys) = .nod k t ys) : shs ys = ys := by
  rw [sh] at h
  injection h
theorem shs_mem {ys : List PV} {ws : List V} (h : shs ys = ys) : ∀ g ∈ ys.zip ws, sh g.1 = g.1 := fun g hg => by
  rw [← h, ← shG_zip] at hg
  exact shG_sh hg
theorem src_step {s : Src} {its : List Itm} {itm : Itm} {i : Nat} {tg : Tg} {R : L2.St → Hp → Prop} (h : SrcOk K X Γ s its) (hi : its[i]? = some itm) (hb : bndT tg itm σp = some σp1) (iv : Iv X M Γ H) (av : Av Γ σp σ)
    (hR : ∀ σ1 H1 Δ, Iv X M (Δ ++ Γ) H1 → Av (Δ ++ Γ) σp1 σ1 → R σ1 H1) : s.step K tg i σ H R := by
  have it := h.at_ i itm hi
  unfold bndT at hb
  split at hb
  · rename_i j p
    cases hb
    obtain ⟨v, m, e, hs⟩ := it
    have q := hR (σ.set j (some v)) H [] iv (av.set (by rw [e]; exact m) j)
    rcases hs with ⟨a, xs, rfl | rfl, hx⟩ | ⟨lo, c, n, rfl, rfl⟩
    · exact ⟨v, hx, q⟩
    · exact ⟨v, hx, q⟩
    · exact q
  · rename_i js t ys
    split at hb
    · rename_i hl
      cases hb
      obtain ⟨v, m, e, hs⟩ := it
      obtain ⟨b, ws, rfl, hb, hm, iv'⟩ := (iv.dup m e).open_
      have es := shs_of e
      have q := hR (setAll σ js ws) H (ys.zip ws) iv' (Av.setAll (Γ := ys.zip ws ++ Γ) av.app hm fun g hg => List.mem_append_left _ (by rw [shs_mem es g hg]; exact hg))
      rcases hs with ⟨a, xs, rfl | rfl, hx⟩ | ⟨lo, c, n, rfl, z⟩
      · refine ⟨b, hx, ?_⟩
        show onT K H b _
        rw [onT_of hb]
        exact ⟨by rw [hm]; exact eq_of_beq hl, q⟩
      · refine ⟨b, hx, ?_⟩
        show onT K H b _
        rw [onT_of hb]
        exact ⟨by rw [hm]; exact eq_of_beq hl, q⟩
      · cases z
    · cases hb
  · rename_i j k p q
    cases hb
    obtain ⟨v, w, m1, e1, m2, e2, hs⟩ := it
    have q := fun H1 (s : Same H H1) => hR ((σ.set j (some v)).set k (some w)) H1 [] (iv.keep s) ((av.set (by rw [e1]; exact m1) j).set (by rw [e2]; exact m2) k)
    rcases hs with ⟨a, xs, rfl, rfl, hx⟩ | ⟨a, b, xs, ys, rfl, hx, hy⟩
    · exact ⟨w, hx, q⟩
    · exact ⟨v, w, hx, hy, q⟩
  · cases hb
theorem bnd_some {α β : Type} {m : Option (Rx α)} {f : α → Option (Rx β)} {r : Rx β} (h : bnd m f = some r) : (∃ x, m = some (.ex x) ∧ r = .ex x) ∨ ∃ a, m = some (.ok a) ∧ f a = some r := by
  unfold bnd at h
  split at h
  · exact .inr ⟨_, rfl, h⟩
  · cases h; exact .inl ⟨_, rfl, rfl⟩
  · cases h
theorem GOk.call {c : PCn} {T : Tab} {n : Nat} {f : Str} {ps : List PV} {r : Rx PV} {fin : List (Option PV)} {Q : VK} (g : GOk ca c T K n) (hG : c.G f (shs ps) = some (r, fin)) (hl : vs.length = ps.length) (iv : Iv X M (ps.zip vs ++ Γ) H)
    (hq : ∀ p, r = .ok p → ∀ x H1, Iv X M ((p, x) :: Γ) H1 → Q x H1) (hx : HX ca X M Γ E r) : SPn T K n f vs H Q E := by
  have iv2 := iv.shr_
  rw [shG_zip] at iv2
  obtain ⟨O, S, ra, _⟩ := (Iv.left iv).ex
  obtain ⟨Sa, rs, _⟩ := ra.shr_
  rw [shG_zip] at rs
  refine g.fn hG (by rw [shs_length]; exact hl) (Iv.start rs) ?_ ?_
  · intro p e x H1 d
    exact hq p e x H1 (Iv.back iv2 rs (Iv.left (Γ1 := [(p, x)]) d))
  · intro x e ws cls d H1 hv dv
    exact hx x e ws cls d H1 hv (Iv.back iv2 rs (Iv.left dv))
end
end VC

namespace VC
open PySem PySem.Spec PyProof.Rows L2

section
variable {ca : Str → Value} {c : PCn} {T : Tab} {K : PySem.W.Frag} {n : Nat}

def PEs (ca : Str → Value) (c : PCn) (T : Tab) (K : PySem.W.Frag) (n : Nat) (e : Ex) : Prop :=
  ∀ ⦃X : Hp⦄ ⦃M : Addr → Prop⦄ ⦃Γ : List (PV × V)⦄ ⦃H : Hp⦄ ⦃σp : PSt⦄ ⦃σ : L2.St⦄ ⦃r : Rx PV⦄ ⦃Q : VK⦄ ⦃E : XK⦄, evP c e σp = some r → Av Γ σp σ → Iv X M Γ H → HX ca X M Γ E r →
    (∀ p, r = .ok p → ∀ x H1, Iv X M ((p, x) :: Γ) H1 → Q x H1) → wpE (cnOf T K n) E e σ H Q
theorem pB {a : Ex} (ih : PEs ca c T K n a) {β : Type} {X : Hp} {M : Addr → Prop} {Γ : List (PV × V)} {H : Hp} {σp : PSt} {σ : L2.St} {f : PV → Option (Rx β)} {r : Rx β} {Q : VK} {E : XK} (h : bnd (evP c a σp) f = some r) (av : Av Γ σp σ) (iv : Iv X M Γ H) (hx : HX ca X M Γ E r)
    (hk : ∀ p x H1, f p = some r → Iv X M ((p, x) :: Γ) H1 → Q x H1) : wpE (cnOf T K n) E a σ H Q := by
  rcases bnd_some h with ⟨x, h1, rfl⟩ | ⟨p, h1, h2⟩
  · exact ih h1 av iv hx.cast fun p e => by cases e
  · exact ih h1 av iv HX.ok fun p' e x H1 iv1 => by cases e; exact hk p x H1 h2 iv1
def PAs (ca : Str → Value) (c : PCn) (T : Tab) (K : PySem.W.Frag) (n : Nat) (es : Exs) : Prop :=
  ∀ ⦃X : Hp⦄ ⦃M : Addr → Prop⦄ ⦃Γ : List (PV × V)⦄ ⦃H : Hp⦄ ⦃σp : PSt⦄ ⦃σ : L2.St⦄ ⦃r : Rx (List PV)⦄ ⦃Q : List V → Hp → Prop⦄ ⦃E : XK⦄, evPs c es σp = some r → Av Γ σp σ → Iv X M Γ H → HX ca X M Γ E r →
    (∀ ps, r = .ok ps → ∀ xs H1, xs.length = ps.length → ps.length = es.len → Iv X M (ps.zip xs ++ Γ) H1 → Q xs H1) → wpEs (cnOf T K n) E es σ H Q
theorem pBs {es : Exs} (ih : PAs ca c T K n es) {β : Type} {X : Hp} {M : Addr → Prop} {Γ : List (PV × V)} {H : Hp} {σp : PSt} {σ : L2.St} {f : List PV → Option (Rx β)} {r : Rx β} {Q : List V → Hp → Prop} {E : XK} (h : bnd (evPs c es σp) f = some r) (av : Av Γ σp σ) (iv : Iv X M Γ H) (hx : HX ca X M Γ E r)
    (hk : ∀ ps xs H1, f ps = some r → xs.length = ps.length → ps.length = es.len → Iv X M (ps.zip xs ++ Γ) H1 → Q xs H1) : wpEs (cnOf T K n) E es σ H Q := by
  rcases bnd_some h with ⟨x, h1, rfl⟩ | ⟨p, h1, h2⟩
  · exact ih h1 av iv hx.cast fun p e => by cases e
  · exact ih h1 av iv HX.ok fun p' e x H1 l1 l2 iv1 => by cases e; exact hk p x H1 h2 l1 l2 iv1
def PTs_ (ca : Str → Value) (c : PCn) (T : Tab) (K : PySem.W.Frag) (n : Nat) (t : Ts) : Prop :=
  ∀ ⦃X : Hp⦄ ⦃M : Addr → Prop⦄ ⦃Γ : List (PV × V)⦄ ⦃H : Hp⦄ ⦃σp : PSt⦄ ⦃σ : L2.St⦄ ⦃r : Rx Bool⦄ ⦃Q : Bool → Hp → Prop⦄ ⦃E : XK⦄, evT c t σp = some r → Av Γ σp σ → Iv X M Γ H → HX ca X M Γ E r →
    (∀ b, r = .ok b → ∀ H1, Iv X M Γ H1 → Q b H1) → wpT (cnOf T K n) E t σ H Q
theorem pBt {t : Ts} (ih : PTs_ ca c T K n t) {β : Type} {X : Hp} {M : Addr → Prop} {Γ : List (PV × V)} {H : Hp} {σp : PSt} {σ : L2.St} {f : Bool → Option (Rx β)} {r : Rx β} {Q : Bool → Hp → Prop} {E : XK} (h : bnd (evT c t σp) f = some r) (av : Av Γ σp σ) (iv : Iv X M Γ H) (hx : HX ca X M Γ E r)
    (hk : ∀ b H1, f b = some r → Iv X M Γ H1 → Q b H1) : wpT (cnOf T K n) E t σ H Q := by
  rcases bnd_some h with ⟨x, h1, rfl⟩ | ⟨p, h1, h2⟩
  · exact ih h1 av iv hx.cast fun p e => by cases e
  · exact ih h1 av iv HX.ok fun p' e H1 iv1 => by cases e; exact hk p H1 h2 iv1
def PIs_ (ca : Str → Value) (c : PCn) (T : Tab) (K : PySem.W.Frag) (n : Nat) (it : Ir) : Prop :=
  ∀ ⦃X : Hp⦄ ⦃M : Addr → Prop⦄ ⦃Γ : List (PV × V)⦄ ⦃H : Hp⦄ ⦃σp : PSt⦄ ⦃σ : L2.St⦄ ⦃r : Rx (List Itm)⦄ ⦃R : Src → Hp → Prop⦄ ⦃E : XK⦄, evI c it σp = some r → Av Γ σp σ → Iv X M Γ H → HX ca X M Γ E r →
    (∀ its, r = .ok its → ∀ s X' M' Δ H1, SrcOk K X' (Δ ++ Γ) s its → Iv X' M' (Δ ++ Γ) H1 → (∀ Γ' H', Iv X' M' Γ' H' → Iv X M Γ' H') → R s H1) → wpI (cnOf T K n) E it σ H R
theorem pBi {it : Ir} (ih : PIs_ ca c T K n it) {β : Type} {X : Hp} {M : Addr → Prop} {Γ : List (PV × V)} {H : Hp} {σp : PSt} {σ : L2.St} {f : List Itm → Option (Rx β)} {r : Rx β} {R : Src → Hp → Prop} {E : XK} (h : bnd (evI c it σp) f = some r) (av : Av Γ σp σ) (iv : Iv X M Γ H) (hx : HX ca X M Γ E r)
    (hk : ∀ its s X' M' Δ H1, f its = some r → SrcOk K X' (Δ ++ Γ) s its → Iv X' M' (Δ ++ Γ) H1 → (∀ Γ' H', Iv X' M' Γ' H' → Iv X M Γ' H') → R s H1) : wpI (cnOf T K n) E it σ H R := by
  rcases bnd_some h with ⟨x, h1, rfl⟩ | ⟨p, h1, h2⟩
  · exact ih h1 av iv hx.cast fun p e => by cases e
  · exact ih h1 av iv HX.ok fun p' e s X' M' Δ H1 so iv1 th => by cases e; exact hk p s X' M' Δ H1 h2 so iv1 th
theorem map_ok {α β : Type} {o : Option α} {g : α → β} {r : Rx β} (h : o.map (fun x => Rx.ok (g x)) = some r) : ∃ a, o = some a ∧ r = .ok (g a) := by
  cases o with
  | none => cases h
  | some a => cases h; exact ⟨a, rfl, rfl⟩
theorem map_ok' {α : Type} {o : Option α} {r : Rx α} (h : o.map Rx.ok = some r) : ∃ a, o = some a ∧ r = .ok a := map_ok (g := id) h
theorem zips_len {xs ys : List V} {ps qs : List PV} (h1 : xs.length = ps.length) (h2 : ys.length = qs.length) : ((xs.zip ys)).length = (ps.zip qs).length := by simp [h1, h2]
theorem enmP_get : ∀ (xs : List PV) (m i : Nat), (enmP m xs)[i]? = (xs[i]?).map fun x => .two (.int ((m + i : Nat) : Int)) x
  | [], m, i => by simp [enmP]
  | x :: xs, m, 0 => by simp [enmP]
  | x :: xs, m, i + 1 => by
    simp only [enmP, List.getElem?_cons_succ]
    rw [enmP_get xs (m + 1) i]
    congr 1
    funext y
    have : m + 1 + i = m + (i + 1) := by omega
    rw [this]
theorem enmP_len : ∀ (xs : List PV) (m : Nat), (enmP m xs).length = xs.length
  | [], m => rfl
  | x :: xs, m => by simp [enmP, enmP_len xs]
theorem zipP_get : ∀ (xs ys : List PV) (i : Nat) (itm : Itm), (zipP xs ys)[i]? = some itm → ∃ x y, xs[i]? = some x ∧ ys[i]? = some y ∧ itm = .two x y
  | [], _, i, itm, h => by simp [zipP] at h
  | _ :: _, [], i, itm, h => by simp [zipP] at h
  | x :: xs, y :: ys, 0, itm, h => by simp [zipP] at h; exact ⟨x, y, rfl, rfl, h.symm⟩
  | x :: xs, y :: ys, i + 1, itm, h => by
    simp only [zipP, List.getElem?_cons_succ] at h
    exact zipP_get xs ys i itm h
theorem zipP_len : ∀ (xs ys : List PV), (zipP xs ys).length = min xs.length ys.length
  | [], _ => by simp [zipP]
  | _ :: _, [] => by simp [zipP]
  | x :: xs, y :: ys => by simp [zipP, zipP_len xs ys]
theorem shs_get {xs : List PV} {i : Nat} {x : PV} (h : (shs xs)[i]? = some x) : sh x = x := by
  rw [shs_eq, List.getElem?_map] at h
  cases e : xs[i]? with
  | none => rw [e] at h; cases h
  | some y => rw [e] at h; cases h; exact sh_sh y
theorem get_len {α β : Type} {xs : List α} {vs : List β} {i : Nat} {x : α} (hl : vs.length = xs.length) (h : xs[i]? = some x) : ∃ v, vs[i]? = some v ∧ (x, v) ∈ xs.zip vs := by
  have hj : i < vs.length := by rw [hl]; exact (List.getElem?_eq_some_iff.mp h).1
  exact ⟨vs[i], List.getElem?_eq_getElem hj, zip_get h (List.getElem?_eq_getElem hj)⟩
theorem rng_src {X : Hp} {M : Addr → Prop} {Γ : List (PV × V)} {H : Hp} {lo c : Int} {m : Nat} (iv : Iv X M Γ H) : ∃ Δ, SrcOk K X (Δ ++ Γ) (.rng lo c m) (((List.range m).map fun (i : Nat) => PV.int (lo + (i : Nat) * c)).map .one) ∧ Iv X M (Δ ++ Γ) H := by
  refine ⟨(List.range m).map fun (i : Nat) => (PV.int (lo + (i : Nat) * c), V.int (lo + (i : Nat) * c)), ⟨by simp [Src.len], fun _ _ => trivial, ?_⟩, Iv.addFs iv ?_⟩
  · intro i itm e
    rw [List.getElem?_map, List.getElem?_map] at e
    by_cases hi : i < m
    · rw [List.getElem?_range hi] at e
      cases e
      exact ⟨.int (lo + (i : Nat) * c), List.mem_append_left _ (List.mem_map.mpr ⟨i, List.mem_range.mpr hi, rfl⟩), rfl, .inr ⟨lo, c, m, rfl, rfl⟩⟩
    · rw [List.getElem?_eq_none (by simp; omega)] at e; cases e
  · intro g hg
    obtain ⟨i, _, rfl⟩ := List.mem_map.mp hg
    rfl

theorem compP_cons {f : Itm → Option (Option PV)} {i : Itm} {is : List Itm} {ps : List PV} (h : compP f (i :: is) = some ps) : (f i = some none ∧ compP f is = some ps) ∨ ∃ p qs, f i = some (some p) ∧ compP f is = some qs ∧ ps = p :: qs := by
  rw [compP] at h
  split at h
  · cases h
  · exact .inl ⟨by assumption, h⟩
  · rename_i p hp
    split at h
    · cases h; exact .inr ⟨p, _, hp, by assumption, rfl⟩
    · cases h
theorem look_zip : ∀ {ks : List Str} {qs : List PV} {zs : List V} (s : Str), zs.length = qs.length → ((sh (((ks.zip qs).lookup s).getD PV.non), ((ks.zip zs).lookup s).getD V.non) ∈ (shs qs).zip zs) ∨ (((ks.zip qs).lookup s).getD PV.non = PV.non ∧ ((ks.zip zs).lookup s).getD V.non = V.non)
  | [], _, _, s, _ => .inr ⟨rfl, rfl⟩
  | _ :: _, [], [], s, _ => .inr ⟨rfl, rfl⟩
  | _ :: _, [], _ :: _, s, h => by cases h
  | _ :: _, _ :: _, [], s, h => by cases h
  | k :: ks, q :: qs, z :: zs, s, h => by
    simp only [List.zip_cons_cons, List.lookup_cons, shs]
    cases hs : s == k with
    | true => left; simp
    | false =>
      rcases look_zip (ks := ks) (qs := qs) (zs := zs) s (by simpa using h) with e | e
      · left; exact List.mem_cons_of_mem _ e
      · right; exact e
theorem comp_ok {X' : Hp} {M' : Addr → Prop} {Γ : List (PV × V)} {H : Hp} {σ : L2.St} {s : Src} {its : List Itm} {tg : Tg} {tt : TT} {te : TE} {d : Addr} {Q : VK} {f : Itm → Option (Option PV)} {ps : List PV}
    (so : SrcOk K X' Γ s its) (iv : Iv X' M' Γ H) (hd : H d = none) (hz : its.length ≤ 100000) (hf : compP f its = some ps)
    (turn : ∀ i itm acc H' o (W' : Hp → Prop), its[i]? = some itm → f itm = some o → Iv X' M' ((LL true acc, .ref d) :: Γ) H' →
      (∀ p y H4 Δ', o = some p → Iv X' M' ((p, y) :: (Δ' ++ (LL true acc, .ref d) :: Γ)) H4 → ∃ acc, H4 d = some (.lst acc) ∧ acc.length < sizeLine ∧ W' (upd H4 d (.lst (acc ++ [y])))) →
      (∀ H3 Δ', o = none → Iv X' M' (Δ' ++ (LL true acc, .ref d) :: Γ) H3 → W' H3) →
      s.step K tg i σ H' fun σ2 H2 => tt σ2 H2 fun b H3 => if b = true then te σ2 H3 fun y H4 => ∃ acc, H4 d = some (.lst acc) ∧ acc.length < sizeLine ∧ W' (upd H4 d (.lst (acc ++ [y]))) else W' H3)
    (done : ∀ H', Iv X' M' ((LL true ps, .ref d) :: Γ) H' → Q (.ref d) H') : lcW K s tg tt te σ d Q (upd H d (.lst [])) := by
  refine ⟨fun i H' => ∃ acc rest, Iv X' M' ((LL true acc, .ref d) :: Γ) H' ∧ compP f (its.drop i) = some rest ∧ ps = acc ++ rest ∧ acc.length ≤ i, ?_, ?_, ?_⟩
  · exact ⟨[], ps, Iv.alloc (k := .lst) (xs := []) (vs := []) iv hd (same_new hd) upd_same rfl rfl rfl, hf, rfl, Nat.le_refl _⟩
  · rintro i H' hi ⟨acc, rest, iv1, hc, rfl, hl⟩
    have hi' : i < its.length := by rw [← so.len]; exact hi
    refine ⟨so.ok H' iv1.same, ?_⟩
    rw [List.drop_eq_getElem_cons hi'] at hc
    have hit : its[i]? = some its[i] := List.getElem?_eq_getElem hi'
    rcases compP_cons hc with ⟨h1, h2⟩ | ⟨p, qs, h1, h2, rfl⟩
    · refine turn i its[i] acc H' none _ hit h1 iv1 (fun p y H4 Δ' e => by cases e) ?_
      intro H3 Δ' _ iv2
      exact ⟨acc, rest, iv2.right, h2, rfl, by omega⟩
    · refine turn i its[i] acc H' (some p) _ hit h1 iv1 ?_ (fun H3 Δ' e => by cases e)
      intro p' y H4 Δ' e iv2
      cases e
      have iv3 : Iv X' M' ((LL true acc, .ref d) :: (p, y) :: (Δ' ++ Γ)) H4 := iv2.perm (by
        have := List.perm_middle (l₁ := (p, y) :: Δ') (l₂ := Γ) (a := (LL true acc, V.ref d))
        exact this)
      obtain ⟨a, accV, e1, ha, hl2, iv4⟩ := iv3.open_
      cases e1
      refine ⟨accV, ha, fit1 (by rw [hl2]; omega), acc ++ [p], qs, ?_, h2, by simp, by simp; omega⟩
      refine Iv.write (k := .lst) (k' := .lst) (ys := acc ++ [p]) (ws := accV ++ [y]) (Γ0 := Δ') iv3 rfl ha hl2 ?_ (by simp [hl2]) rfl rfl
      rw [zip_app hl2, List.append_assoc, List.append_assoc]
      refine List.Perm.append_left _ ?_
      show ((p, y) :: (Γ ++ Δ')).Perm ((p, y) :: (Δ' ++ Γ))
      exact (List.perm_append_comm).cons _
  · rintro H' ⟨acc, rest, iv1, hc, rfl, hl⟩
    rw [so.len, List.drop_length] at hc
    cases hc
    refine ⟨so.ok H' iv1.same, done H' ?_⟩
    rw [List.append_nil]
    exact iv1

mutual
theorem pE (g : GOk ca c T K n) : ∀ e : Ex, PEs ca c T K n e
  | .var i => by
    intro X M Γ H σp σ r Q E h av iv hx hq
    simp only [evP] at h
    split at h
    · rename_i p hp
      cases h
      obtain ⟨v, h1, h2⟩ := av.at_ i p hp
      exact e_var h1 (hq _ rfl v H (iv.dup h2 (sh_sh p)))
    · cases h
  | .mv i => by
    intro X M Γ H σp σ r Q E h av iv hx hq
    simp only [evP] at h
    cases h
  | .us _ e => by
    intro X M Γ H σp σ r Q E h av iv hx hq
    simp only [evP] at h
    exact pE g e h av iv hx hq
  | .con k => by
    intro X M Γ H σp σ r Q E h av iv hx hq
    simp only [evP] at h
    show (match conV k with
      | some v => Q v H
      | none => False)
    split at h
    · rename_i v hv
      try rw [hv]
      obtain ⟨p, h1, rfl⟩ := map_ok' h
      exact hq p rfl v H (iv.addV h1)
    · cases h
  | .glb x => by
    intro X M Γ H σp σ r Q E h av iv hx hq
    simp only [evP, g.cs] at h
    show (match T.cons.lookup x with
      | some v => Q v H
      | none => False)
    split at h
    · rename_i v hv
      try rw [hv]
      obtain ⟨p, h1, rfl⟩ := map_ok' h
      exact hq p rfl v H (iv.addV h1)
    · cases h
  | .bin op a b => by
    intro X M Γ H σp σ r Q E h av iv hx hq
    simp only [evP] at h
    refine pB (pE g a) h av iv hx fun p x H1 h1 iv1 => ?_
    refine pB (pE g b) h1 av.cons iv1 hx.cons fun q y H2 h2 iv2 => ?_
    obtain ⟨z, h3, rfl⟩ := map_ok' h2
    exact opB_ok h3 iv2 fun v H3 iv3 => hq z rfl v H3 iv3
  | .neg a => by
    intro X M Γ H σp σ r Q E h av iv hx hq
    simp only [evP] at h
    refine pB (pE g a) h av iv hx fun p x H1 h1 iv1 => ?_
    split at h1
    · cases h1; cases iv1.int_
      exact hq _ rfl _ H1 (iv1.tail.addI _)
    · cases h1
  | .cmp op a b => by
    intro X M Γ H σp σ r Q E h av iv hx hq
    simp only [evP] at h
    refine pB (pE g a) h av iv hx fun p x H1 h1 iv1 => ?_
    refine pB (pE g b) h1 av.cons iv1 hx.cons fun q y H2 h2 iv2 => ?_
    obtain ⟨z, h3, rfl⟩ := map_ok h2
    exact opC_ok h3 iv2 (hq _ rfl _ H2 (iv2.tail2.addB _))
  | .chn o p' a b d => by
    intro X M Γ H σp σ r Q E h av iv hx hq
    simp only [evP] at h
    refine pB (pE g a) h av iv hx fun p x H1 h1 iv1 => ?_
    refine pB (pE g b) h1 av.cons iv1 hx.cons fun q y H2 h2 iv2 => ?_
    split at h2
    · rename_i hc
      refine opC_ok hc iv2 ?_
      show wpE (cnOf T K n) E d σ H2 fun w H4 => opCmp K p' y w H4 Q
      refine pB (pE g d) h2 av.cons.cons iv2 hx.cons.cons fun s z H3 h3 iv3 => ?_
      obtain ⟨k, h4, rfl⟩ := map_ok h3
      have iv4 : Iv X M ((s, z) :: (q, y) :: Γ) H3 := Iv.mid (Γ1 := [(s, z), (q, y)]) iv3
      exact opC_ok h4 iv4 (hq _ rfl _ H3 (iv4.tail2.addB _))
    · rename_i hc
      cases h2
      exact opC_ok hc iv2 (hq _ rfl _ H2 (iv2.tail2.addB _))
    · cases h2
  | .and a b => by
    intro X M Γ H σp σ r Q E h av iv hx hq
    simp only [evP] at h
    refine pB (pE g a) h av iv hx fun p x H1 h1 iv1 => ?_
    split at h1
    · cases iv1.bl_
      exact pE g b h1 av iv1.tail hx hq
    · cases h1; cases iv1.bl_
      exact hq _ rfl _ H1 iv1
    · cases h1
  | .or a b => by
    intro X M Γ H σp σ r Q E h av iv hx hq
    simp only [evP] at h
    refine pB (pE g a) h av iv hx fun p x H1 h1 iv1 => ?_
    split at h1
    · cases iv1.bl_
      exact pE g b h1 av iv1.tail hx hq
    · cases h1; cases iv1.bl_
      exact hq _ rfl _ H1 iv1
    · cases h1
  | .not a => by
    intro X M Γ H σp σ r Q E h av iv hx hq
    simp only [evP] at h
    refine pB (pE g a) h av iv hx fun p x H1 h1 iv1 => ?_
    split at h1
    · cases h1; cases iv1.bl_
      exact hq _ rfl _ H1 (iv1.tail.addB _)
    · cases h1
  | .ite t a b => by
    intro X M Γ H σp σ r Q E h av iv hx hq
    simp only [evP] at h
    refine pBt (pT g t) h av iv hx fun k H1 h1 iv1 => ?_
    cases k with
    | true => exact if_T (pE g a h1 av iv1 hx hq)
    | false => exact if_F (pE g b h1 av iv1 hx hq)
  | .tup es => by
    intro X M Γ H σp σ r Q E h av iv hx hq
    simp only [evP] at h
    refine pBs (pEs g es) h av iv hx fun ps xs H1 h1 l1 l2 iv1 => ?_
    split at h1
    · rename_i hf
      cases h1
      refine ⟨by rw [l1]; exact fitB_ok hf, fun a H2 ha s e => hq _ rfl _ H2 ?_⟩
      exact Iv.allocT iv1 s e l1
    · cases h1
  | .lst es => by
    intro X M Γ H σp σ r Q E h av iv hx hq
    simp only [evP] at h
    refine pBs (pEs g es) h av iv hx fun ps xs H1 h1 l1 l2 iv1 => ?_
    split at h1
    · rename_i hf
      cases h1
      refine ⟨by rw [l1]; exact fitB_ok hf, fun a H2 ha s e => hq _ rfl _ H2 ?_⟩
      exact Iv.alloc (k := .lst) iv1 ha s e rfl l1 rfl
    · cases h1
  | .idx a i => by
    intro X M Γ H σp σ r Q E h av iv hx hq
    simp only [evP] at h
    refine pB (pE g a) h av iv hx fun p x H1 h1 iv1 => ?_
    refine pB (pE g i) h1 av.cons iv1 hx.cons fun q y H2 h2 iv2 => ?_
    obtain ⟨z, h3, rfl⟩ := map_ok' h2
    exact idxP_ok h3 iv2 fun v iv3 => hq z rfl v H2 iv3
  | .sl2 a lo hi => by
    intro X M Γ H σp σ r Q E h av iv hx hq
    simp only [evP] at h
    refine pB (pE g a) h av iv hx fun p x H1 h1 iv1 => ?_
    refine pB (pE g lo) h1 av.cons iv1 hx.cons fun q y H2 h2 iv2 => ?_
    split at h2
    · cases iv2.int_
      refine pB (pE g hi) h2 av.cons iv2.tail hx.cons fun q y H3 h3 iv3 => ?_
      split at h3
      · cases iv3.int_
        obtain ⟨z, h4, rfl⟩ := map_ok' h3
        exact slP_ok h4 iv3.tail fun v H4 iv4 => hq z rfl v H4 iv4
      · cases h3
    · cases h2
  | .sl1 a lo => by
    intro X M Γ H σp σ r Q E h av iv hx hq
    simp only [evP] at h
    refine pB (pE g a) h av iv hx fun p x H1 h1 iv1 => ?_
    refine pB (pE g lo) h1 av.cons iv1 hx.cons fun q y H2 h2 iv2 => ?_
    split at h2
    · cases iv2.int_
      obtain ⟨z, h4, rfl⟩ := map_ok' h2
      exact slP_ok h4 iv2.tail fun v H4 iv4 => hq z rfl v H4 iv4
    · cases h2
  | .sl0 a hi => by
    intro X M Γ H σp σ r Q E h av iv hx hq
    simp only [evP] at h
    refine pB (pE g a) h av iv hx fun p x H1 h1 iv1 => ?_
    refine pB (pE g hi) h1 av.cons iv1 hx.cons fun q y H2 h2 iv2 => ?_
    split at h2
    · cases iv2.int_
      obtain ⟨z, h4, rfl⟩ := map_ok' h2
      exact slP_ok h4 iv2.tail fun v H4 iv4 => hq z rfl v H4 iv4
    · cases h2
  | .stp a lo k => by
    intro X M Γ H σp σ r Q E h av iv hx hq
    simp only [evP] at h
    refine pB (pE g a) h av iv hx fun p x H1 h1 iv1 => ?_
    refine pB (pE g lo) h1 av.cons iv1 hx.cons fun q y H2 h2 iv2 => ?_
    obtain ⟨z, h3, rfl⟩ := map_ok' h2
    exact stpP_ok h3 iv2 fun v H3 iv3 => hq z rfl v H3 iv3
  | .rev a => by
    intro X M Γ H σp σ r Q E h av iv hx hq
    simp only [evP] at h
    refine pB (pE g a) h av iv hx fun p x H1 h1 iv1 => ?_
    split at h1
    · cases h1
      obtain ⟨b, vs, rfl, hb, hl, iv2⟩ := iv1.open_
      show onL K H1 b _
      rw [onL_of hb]
      intro d H2 hd s e
      refine hq _ rfl _ H2 (Iv.alloc (k := .lst) (H := H1) ?_ hd s e rfl (by simp [hl]) rfl)
      rw [rev_zip hl]
      exact iv2.perm ((List.reverse_perm _).symm.append_right _)
    · cases h1
  | .call f es ks kes => by
    intro X M Γ H σp σ r Q E h av iv hx hq
    simp only [evP] at h
    refine pBs (pEs g es) h av iv hx fun ps xs H1 h1 l1 l2 iv1 => ?_
    refine pBs (pEs g kes) h1 av.app iv1 hx.app fun qs zs H2 h2 l3 l4 iv2 => ?_
    split at h2
    · cases h2
    · rename_i hn
      simp only [Bool.or_eq_true, Bool.not_eq_true', not_or, Bool.not_eq_false, beq_iff_eq] at hn
      split at h2
      · rename_i r' fin hG
        cases h2
        refine ⟨by rw [l1, l2], by rw [l3, hn.2], ?_⟩
        have e1 : (cnOf T K n).ps f = c.ps f := (g.ps f).symm
        rw [e1]
        show SPn T K n f _ H2 Q E
        have key : ∀ (fs : List Str) (ps qs : List PV) (xs zs : List V), xs.length = ps.length → zs.length = qs.length → Iv X M (qs.zip zs ++ (ps.zip xs ++ Γ)) H2 → (arrange fs ks V.non xs zs).length = (arrange fs ks PV.non ps qs).length ∧ Iv X M ((shs (arrange fs ks PV.non ps qs)).zip (arrange fs ks V.non xs zs) ++ Γ) H2 := by
          intro fs ps qs xs zs l1 l3 iv
          unfold arrange
          split
          · refine ⟨l1, ?_⟩
            have := iv.right.shr_
            rw [shG_zip] at this
            exact this
          · rw [l1]
            refine ⟨by simp [l1], ?_⟩
            rw [shs_eq, List.map_append, ← shs_eq, ← shs_eq, zip_app (by rw [shs_length]; exact l1)]
            have iva : Iv X M ((shs qs).zip zs ++ ((shs ps).zip xs ++ Γ)) H2 := by
              have z1 := iv.shr_
              rw [shG_zip] at z1
              have z2 := (z1.perm (show ((shs qs).zip zs ++ (ps.zip xs ++ Γ)).Perm (ps.zip xs ++ ((shs qs).zip zs ++ Γ)) by
                rw [← List.append_assoc, ← List.append_assoc]; exact List.perm_append_comm.append_right _)).shr_
              rw [shG_zip] at z2
              exact z2.perm (by rw [← List.append_assoc, ← List.append_assoc]; exact List.perm_append_comm.append_right _)
            have sub : ∀ gs : List Str, Iv X M ((shs (gs.map fun p => ((ks.zip qs).lookup p).getD PV.non)).zip (gs.map fun p => ((ks.zip zs).lookup p).getD V.non) ++ ((shs qs).zip zs ++ ((shs ps).zip xs ++ Γ))) H2 := by
              intro gs
              induction gs with
              | nil => simpa [shs] using iva
              | cons s gs ih =>
                simp only [List.map_cons, shs, List.zip_cons_cons, List.cons_append]
                have hm := look_zip (ks := ks) s l3
                rcases hm with hm | ⟨e1, e2⟩
                · exact Iv.dup ih (List.mem_append_right _ (List.mem_append_left _ hm)) (sh_sh _)
                · rw [e1, e2]
                  exact ih.addN
            have z := sub (fs.drop ps.length)
            have z2 : Iv X M (((shs ps).zip xs) ++ (((shs ((fs.drop ps.length).map fun p => ((ks.zip qs).lookup p).getD PV.non)).zip ((fs.drop ps.length).map fun p => ((ks.zip zs).lookup p).getD V.non)) ++ Γ)) H2 := by
              refine (Iv.midA (Γ1 := _) (Γ2 := (shs qs).zip zs) z).perm ?_
              rw [← List.append_assoc, ← List.append_assoc]
              exact List.perm_append_comm.append_right _
            rw [List.append_assoc]
            exact z2
        obtain ⟨k1, k2⟩ := key (c.ps f) ps qs xs zs l1 l3 iv2
        exact GOk.call g (ps := shs (arrange (c.ps f) ks PV.non ps qs)) (by rw [shs_shs]; exact hG) (by rw [shs_length]; exact k1) k2 hq hx
      · cases h2
  | .blt f es => by
    intro X M Γ H σp σ r Q E h av iv hx hq
    simp only [evP] at h
    refine pBs (pEs g es) h av iv hx fun ps xs H1 h1 l1 l2 iv1 => ?_
    obtain ⟨z, h3, rfl⟩ := map_ok' h1
    exact bltP_ok h3 l1 iv1 fun v H2 iv2 => hq z rfl v H2 iv2
  | .isi a t => by
    intro X M Γ H σp σ r Q E h av iv hx hq
    simp only [evP] at h
    refine pB (pE g a) h av iv hx fun p x H1 h1 iv1 => ?_
    split at h1
    · rename_i nm hn
      obtain ⟨b, h3, rfl⟩ := map_ok h1
      refine ⟨nm, b, ?_, h3, hq _ rfl _ H1 (iv1.tail.addB b)⟩
      cases p with
      | non => cases iv1.non_; exact hn
      | bl _ => cases iv1.bl_; exact hn
      | int _ => cases iv1.int_; exact hn
      | str _ => cases iv1.str_; exact hn
      | nod k t xs =>
        obtain ⟨b', vs, rfl, hb, hl, iv2⟩ := iv1.open_
        cases k <;> simp only [tyP] at hn <;> first | (cases hn; done) | (simp only [tyName, hb, Kd.ho]; exact hn)
    · cases h1
  | .lrg es => by
    intro X M Γ H σp σ r Q E h av iv hx hq
    simp only [evP] at h
    refine pBs (pEs g es) h av iv hx fun ps xs H1 h1 l1 l2 iv1 => ?_
    have fin : ∀ (a b : Int) (H1 : Hp), Iv X M Γ H1 → 0 ≤ a → a ≤ 100000 → 0 ≤ b → b ≤ 100000 → r = .ok (LL true ((List.range (b - a).toNat).map fun (i : Nat) => PV.int (a + (i : Nat)))) → RgOk a b ∧ alloc H1 (.lst (rgV a b)) Q := by
      clear h1
      intro a b H1 iv1 h1 h2 h3 h4 e
      clear h
      subst e
      refine ⟨RgOk.of_le h1 (by omega) (by omega) h3, fun d H2 hd s e => hq _ rfl _ H2 (Iv.alloc (k := .lst) (H := H1) ?_ hd s e rfl (by simp [rgV]) rfl)⟩
      refine Iv.addFs iv1 ?_
      intro g hg
      unfold rgV at hg
      rw [List.zip_map'] at hg
      obtain ⟨i, _, rfl⟩ := List.mem_map.mp hg
      rfl
    split at h1
    · split at h1
      · rename_i j hf
        have hf := of_decide_eq_true hf
        cases h1
        obtain ⟨u, rfl⟩ := len1 l1
        cases Iv.int_ iv1
        exact fin 0 j H1 iv1.tail (by omega) (by omega) hf.1 hf.2 (by simp)
      · cases h1
    · split at h1
      · rename_i i j hf
        have hf := of_decide_eq_true hf
        cases h1
        obtain ⟨u, w, rfl⟩ := lenPV2 l1
        cases Iv.int_ iv1
        cases Iv.int_ iv1.tail
        exact fin i j H1 iv1.tail.tail hf.1 hf.2.1 hf.2.2.1 hf.2.2.2 rfl
      · cases h1
    · cases h1
  | .lzp a b => by
    intro X M Γ H σp σ r Q E h av iv hx hq
    simp only [evP] at h
    refine pB (pE g a) h av iv hx fun p x H1 h1 iv1 => ?_
    refine pB (pE g b) h1 av.cons iv1 hx.cons fun q y H2 h2 iv2 => ?_
    split at h2
    · rename_i t xs u ys
      cases h2
      obtain ⟨a', vs, b', ws, rfl, ha, hl, rfl, hb, hm, iv3⟩ := iv2.open2
      show onL K H2 a' _
      rw [onL_of ha]
      show onL K H2 b' _
      rw [onL_of hb]
      intro rr ts H3 hr s hts hnd hrn htf er et
      refine hq _ rfl _ H3 ?_
      let Hm : Hp := fun b => if b = rr then none else H3 b
      have hm1 : ∀ b, b ≠ rr → Hm b = H3 b := fun b hb => if_neg hb
      have hmr : Hm rr = none := if_pos rfl
      have s2m : Same H2 Hm := fun b o e => by
        rw [hm1 b (fun z => by rw [z, hr] at e; cases e)]; exact s b o e
      have sm3 : Same Hm H3 := fun b o e => by
        by_cases hb : b = rr
        · rw [hb, hmr] at e; cases e
        · rw [hm1 b hb] at e; exact e
      have iv4 : ∀ (zs : List (PV × PV)) (us : List (V × V)) (tl : List Addr), us.length = zs.length → tl.length = zs.length → (∀ (j : Nat) (t : Addr) (u : V × V), tl[j]? = some t → us[j]? = some u → Hm t = some (.tup [u.1, u.2])) → ∀ Γ0, Iv X M (((zs.zip us).flatMap fun g => [(g.1.1, g.2.1), (g.1.2, g.2.2)]) ++ Γ0) Hm → Iv X M ((zs.map fun g => TT_ [g.1, g.2]).zip (tl.map V.ref) ++ Γ0) Hm := by
        intro zs
        induction zs with
        | nil => intro us tl h1 h2 h3 Γ0 iv; simpa using iv
        | cons z zs ih =>
          intro us tl h1 h2 h3 Γ0 iv
          cases us with
          | nil => cases h1
          | cons u us => cases tl with
            | nil => cases h2
            | cons t tl =>
              simp only [List.zip_cons_cons, List.flatMap_cons, List.map_cons, List.cons_append, List.nil_append] at iv ⊢
              have i1 : Iv X M ((TT_ [z.1, z.2], .ref t) :: (((zs.zip us).flatMap fun g => [(g.1.1, g.2.1), (g.1.2, g.2.2)]) ++ Γ0)) Hm :=
                Iv.allocT (xs := [z.1, z.2]) (vs := [u.1, u.2]) iv (Same.refl _) (h3 0 t u rfl rfl) rfl
              have i2 := ih us tl (by simpa using h1) (by simpa using h2) (fun j t u e1 e2 => h3 (j + 1) t u (by simpa using e1) (by simpa using e2)) ((TT_ [z.1, z.2], .ref t) :: Γ0) (i1.perm List.perm_middle.symm)
              exact i2.perm List.perm_middle
      have pm : ∀ (xs ys : List PV) (vs ws : List V), vs.length = xs.length → ws.length = ys.length → ∃ Γ0, ((((xs.zip ys).zip (vs.zip ws)).flatMap fun g => [(g.1.1, g.2.1), (g.1.2, g.2.2)]) ++ Γ0).Perm (xs.zip vs ++ ys.zip ws) := by
        intro xs
        induction xs with
        | nil => intro ys vs ws h1 h2; exact ⟨[].zip vs ++ ys.zip ws, by simp⟩
        | cons x xs ih =>
          intro ys vs ws h1 h2
          cases vs with
          | nil => cases h1
          | cons v vs => cases ys with
            | nil => exact ⟨(x :: xs).zip (v :: vs) ++ [].zip ws, by simp⟩
            | cons y ys => cases ws with
              | nil => cases h2
              | cons w ws =>
                obtain ⟨Γ0, hp⟩ := ih ys vs ws (by simpa using h1) (by simpa using h2)
                refine ⟨Γ0, ?_⟩
                simp only [List.zip_cons_cons, List.flatMap_cons, List.cons_append, List.nil_append]
                refine List.Perm.cons _ ?_
                refine List.Perm.trans (List.Perm.cons _ hp) ?_
                exact List.perm_middle.symm
      obtain ⟨Γ0, hp⟩ := pm xs ys vs ws hl hm
      have iv5 : Iv X M (((((xs.zip ys).zip (vs.zip ws)).flatMap fun g => [(g.1.1, g.2.1), (g.1.2, g.2.2)]) ++ Γ0) ++ Γ) Hm := (iv3.keep s2m).perm (by
        rw [← List.append_assoc]; exact (hp.append_right Γ).symm)
      rw [List.append_assoc] at iv5
      have lts : ts.length = (xs.zip ys).length := by rw [hts]; simp [hl, hm]
      have iv6 := iv4 (xs.zip ys) (vs.zip ws) ts (zips_len hl hm) lts (fun j t u e1 e2 => by
        have e2' := List.getElem?_zip_eq_some.mp e2
        rw [hm1 t (fun z => hrn (by rw [← z]; exact List.mem_of_getElem? e1))]
        exact et j t u.1 u.2 e1 e2'.1 e2'.2) (Γ0 ++ Γ) iv5
      have iv7 : Iv X M ((((xs.zip ys).map fun g => TT_ [g.1, g.2]).zip (ts.map V.ref)) ++ Γ) Hm := Iv.midA iv6
      exact Iv.alloc (k := .lst) iv7 hmr sm3 er rfl (by simp [lts]) rfl
    · cases h2
  | .mth m o es => by
    intro X M Γ H σp σ r Q E h av iv hx hq
    simp only [evP] at h
    refine pB (pE g o) h av iv hx fun p x H1 h1 iv1 => ?_
    split at h1
    · rename_i t xs
      obtain ⟨a, vs, rfl, ha, hl, iv2⟩ := iv1.open_
      show (match H1 a with
        | some (.lst _) => wpEs (cnOf T K n) E es σ H1 fun vs H2 => mthW K m (.ref a) vs H2 Q
        | _ => False)
      rw [ha]
      refine pBs (pEs g es) h1 av.cons iv1 hx.cons fun ps us H2 h2 l1 l2 iv3 => ?_
      obtain ⟨z, h4, rfl⟩ := map_ok' h2
      exact mthP_ok h4 l1 iv3 fun v H3 iv4 => hq z rfl v H3 iv4
    · cases h1
  | .comp e tg it cs own => by
    intro X M Γ H σp σ r Q E h av iv hx hq
    simp only [evP] at h
    refine pBi (pI g it) h av iv hx fun its s X' M' Δ H1 h1 so iv1 th => ?_
    split at h1
    · rename_i hf
      split at h1
      · rename_i ps hc
        cases h1
        intro d hd
        refine comp_ok so iv1 hd (of_decide_eq_true hf) hc ?_ ?_
        · intro i itm acc H' o W' hi ho iv2 k1 k2
          split at ho
          · cases ho
          · rename_i σp1 hb
            refine src_step (so.app (Δ := [(LL true acc, .ref d)])) hi hb iv2 ((av.app (Δ := Δ)).wipe _).cons ?_
            intro σ1 H2 Δ' iv3 av3
            split at ho
            · rename_i hcond
              split at ho
              · rename_i p hp
                cases ho
                refine pC g cs hcond av3 iv3 HX.ok fun b e H3 iv4 => ?_
                cases e
                refine if_T (pE g e hp av3 iv4 HX.ok fun p' e y H4 iv5 => ?_)
                cases e
                exact k1 p y H4 Δ' rfl iv5
              · cases ho
            · rename_i hcond
              cases ho
              refine pC g cs hcond av3 iv3 HX.ok fun b e H3 iv4 => ?_
              cases e
              exact if_F (k2 H3 Δ' rfl iv4)
            · cases ho
        · intro H' iv2
          exact hq _ rfl _ H' (th _ _ (Iv.midA (Γ1 := [_]) iv2))
      · cases h1
    · cases h1
theorem pEs (g : GOk ca c T K n) : ∀ es : Exs, PAs ca c T K n es
  | .nil => by
    intro X M Γ H σp σ r Q E h av iv hx hq
    simp only [evPs] at h
    cases h
    exact hq [] rfl [] H rfl rfl iv
  | .cons e es => by
    intro X M Γ H σp σ r Q E h av iv hx hq
    simp only [evPs] at h
    refine pB (pE g e) h av iv hx fun p x H1 h1 iv1 => ?_
    refine pBs (pEs g es) h1 av.cons iv1 hx.cons fun ps xs H2 h2 l1 l2 iv2 => ?_
    cases h2
    exact hq _ rfl (x :: xs) H2 (by simp [l1]) (by simp [Exs.len, l2]) (iv2.perm List.perm_middle)
theorem pT (g : GOk ca c T K n) : ∀ t : Ts, PTs_ ca c T K n t
  | .us _ t => by
    intro X M Γ H σp σ r Q E h av iv hx hq
    simp only [evT] at h
    exact pT g t h av iv hx hq
  | .val e => by
    intro X M Γ H σp σ r Q E h av iv hx hq
    simp only [evT] at h
    refine pB (pE g e) h av iv hx fun p x H1 h1 iv1 => ?_
    split at h1
    · cases h1; cases iv1.bl_
      exact hq _ rfl H1 iv1.tail
    · cases h1
  | .cmp op a b => by
    intro X M Γ H σp σ r Q E h av iv hx hq
    simp only [evT] at h
    refine pB (pE g a) h av iv hx fun p x H1 h1 iv1 => ?_
    refine pB (pE g b) h1 av.cons iv1 hx.cons fun q y H2 h2 iv2 => ?_
    obtain ⟨z, h3, rfl⟩ := map_ok' h2
    exact opC_ok h3 iv2 (hq _ rfl H2 iv2.tail2)
  | .chn o p' a b d => by
    intro X M Γ H σp σ r Q E h av iv hx hq
    simp only [evT] at h
    refine pB (pE g a) h av iv hx fun p x H1 h1 iv1 => ?_
    refine pB (pE g b) h1 av.cons iv1 hx.cons fun q y H2 h2 iv2 => ?_
    split at h2
    · rename_i hc
      refine opC_ok hc iv2 ?_
      show wpE (cnOf T K n) E d σ H2 fun w H4 => opCmp K p' y w H4 _
      refine pB (pE g d) h2 av.cons.cons iv2 hx.cons.cons fun s z H3 h3 iv3 => ?_
      obtain ⟨k, h4, rfl⟩ := map_ok' h3
      have iv4 : Iv X M ((s, z) :: (q, y) :: Γ) H3 := Iv.mid (Γ1 := [(s, z), (q, y)]) iv3
      exact opC_ok h4 iv4 (hq _ rfl H3 iv4.tail2)
    · rename_i hc
      cases h2
      exact opC_ok hc iv2 (hq _ rfl H2 iv2.tail2)
    · cases h2
  | .not a => by
    intro X M Γ H σp σ r Q E h av iv hx hq
    simp only [evT] at h
    refine pBt (pT g a) h av iv hx fun b H1 h1 iv1 => ?_
    cases h1
    exact hq _ rfl H1 iv1
  | .and a b => by
    intro X M Γ H σp σ r Q E h av iv hx hq
    simp only [evT] at h
    refine pBt (pT g a) h av iv hx fun k H1 h1 iv1 => ?_
    cases k with
    | true => exact if_T (pT g b h1 av iv1 hx hq)
    | false => cases h1; exact if_F (hq _ rfl H1 iv1)
  | .or a b => by
    intro X M Γ H σp σ r Q E h av iv hx hq
    simp only [evT] at h
    refine pBt (pT g a) h av iv hx fun k H1 h1 iv1 => ?_
    cases k with
    | true => cases h1; exact if_T (hq _ rfl H1 iv1)
    | false => exact if_F (pT g b h1 av iv1 hx hq)
theorem pC (g : GOk ca c T K n) : ∀ (cs : Cd) {X : Hp} {M : Addr → Prop} {Γ : List (PV × V)} {H : Hp} {σp : PSt} {σ : L2.St} {r : Rx Bool} {Q : Bool → Hp → Prop}, evC c cs σp = some r → Av Γ σp σ → Iv X M Γ H → HX ca X M Γ E0 r →
    (∀ b, r = .ok b → ∀ H1, Iv X M Γ H1 → Q b H1) → wpTs (cnOf T K n) cs σ H Q
  | .no, X, M, Γ, H, σp, σ, r, Q, h, av, iv, hx, hq => by
    simp only [evC] at h
    cases h
    exact hq _ rfl H iv
  | .one t, X, M, Γ, H, σp, σ, r, Q, h, av, iv, hx, hq => by
    simp only [evC] at h
    exact pT g t h av iv hx hq
theorem pI (g : GOk ca c T K n) : ∀ it : Ir, PIs_ ca c T K n it
  | .us _ it => by
    intro X M Γ H σp σ r Q E h av iv hx hq
    simp only [evI] at h
    exact pI g it h av iv hx hq
  | .seq e => by
    intro X M Γ H σp σ r R E h av iv hx hq
    simp only [evI] at h
    refine pB (pE g e) h av iv hx fun p x H1 h1 iv1 => ?_
    split at h1
    · rename_i t xs
      cases h1
      have iv2 : Iv X M ((LL false (shs xs), x) :: Γ) H1 := by
        have := iv1.sh1
        rwa [sh] at this
      obtain ⟨a, vs, rfl, ha, hl, iv3, th⟩ := iv2.freeze
      show onQ K H1 a _ _
      rw [onQ_l ha]
      refine hq _ rfl (.lst a vs) _ _ ((shs xs).zip vs) H1 ⟨?_, ?_, ?_⟩ iv3 th
      · simp [Src.len, hl]
      · intro H s; exact .inl (.inl (s a _ upd_same))
      · intro i itm e
        rw [List.getElem?_map] at e
        cases e1 : (shs xs)[i]? with
        | none => rw [e1] at e; cases e
        | some p =>
          rw [e1] at e
          cases e
          obtain ⟨v, e2, m⟩ := get_len hl e1
          exact ⟨v, List.mem_append_left _ m, shs_get e1, .inl ⟨a, vs, .inl rfl, e2⟩⟩
    · rename_i t xs
      cases h1
      have iv2 : Iv X M ((.nod .tup false (shs xs), x) :: Γ) H1 := by
        have := iv1.sh1
        rwa [sh] at this
      obtain ⟨a, vs, rfl, ha, hl, iv3, th⟩ := iv2.freezeT
      show onQ K H1 a _ _
      rw [onQ_t ha]
      refine hq _ rfl (.tup a vs) _ _ ((shs xs).zip vs) H1 ⟨?_, ?_, ?_⟩ iv3 th
      · simp [Src.len, hl]
      · intro H s; exact .inl (.inl (s a _ upd_same))
      · intro i itm e
        rw [List.getElem?_map] at e
        cases e1 : (shs xs)[i]? with
        | none => rw [e1] at e; cases e
        | some p =>
          rw [e1] at e
          cases e
          obtain ⟨v, e2, m⟩ := get_len hl e1
          exact ⟨v, List.mem_append_left _ m, shs_get e1, .inl ⟨a, vs, .inr rfl, e2⟩⟩
    · cases h1
  | .rng es => by
    intro X M Γ H σp σ r R E h av iv hx hq
    simp only [evI] at h
    refine pBs (pEs g es) h av iv hx fun ps us H1 h1 l1 l2 iv1 => ?_
    split at h1
    · rename_i xs hr
      cases h1
      have fin : ∀ (lo st : Int) (m : Nat) (H1 : Hp), Iv X M Γ H1 → xs = ((List.range m).map fun (i : Nat) => PV.int (lo + (i : Nat) * st)) → R (.rng lo st m) H1 := by
        intro lo st m H1 iv1 e
        subst e
        obtain ⟨Δ, so, iv2⟩ := rng_src (K := K) (lo := lo) (c := st) (m := m) iv1
        exact hq _ rfl _ X M Δ H1 so iv2 fun _ _ z => z
      unfold rngP at hr
      split at hr
      · split at hr
        · rename_i hf
          cases hr
          have hf := of_decide_eq_true hf
          obtain ⟨u, rfl⟩ := len1 l1
          cases Iv.int_ iv1
          exact ⟨hf.1, hf.2, fin 0 1 _ H1 iv1.tail rfl⟩
        · cases hr
      · split at hr
        · rename_i hf
          cases hr
          have hf := of_decide_eq_true hf
          obtain ⟨u, w, rfl⟩ := lenPV2 l1
          cases Iv.int_ iv1
          cases Iv.int_ iv1.tail
          exact ⟨hf, fin _ 1 _ H1 iv1.tail2 rfl⟩
        · cases hr
      · split at hr
        · rename_i hf
          cases hr
          have hf := of_decide_eq_true hf
          match us, l1, iv1 with
          | [u, w, z], _, iv1 =>
            cases Iv.int_ iv1
            cases Iv.int_ iv1.tail
            cases Iv.int_ iv1.tail.tail
            exact ⟨hf.1, hf.2, fin _ (-1) _ H1 iv1.tail.tail.tail rfl⟩
        · cases hr
      · cases hr
    · cases h1
  | .enm e => by
    intro X M Γ H σp σ r R E h av iv hx hq
    simp only [evI] at h
    refine pB (pE g e) h av iv hx fun p x H1 h1 iv1 => ?_
    split at h1
    · rename_i t xs
      cases h1
      have iv2 : Iv X M ((LL false (shs xs), x) :: Γ) H1 := by
        have := iv1.sh1
        rwa [sh] at this
      obtain ⟨a, vs, rfl, ha, hl, iv3, th⟩ := iv2.freeze
      show onL K H1 a _
      rw [onL_of ha]
      refine hq _ rfl (.enm a vs) _ _ (((List.range xs.length).map fun (i : Nat) => (PV.int (i : Nat), V.int (i : Nat))) ++ (shs xs).zip vs) H1 ⟨?_, ?_, ?_⟩ (by
        rw [List.append_assoc]
        refine Iv.addFs iv3 ?_
        intro g hg
        obtain ⟨i, _, rfl⟩ := List.mem_map.mp hg
        rfl) th
      · simp [Src.len, hl, enmP_len]
      · intro H s; exact .inl (.inl (s a _ upd_same))
      · intro i itm e
        rw [enmP_get] at e
        cases e1 : (shs xs)[i]? with
        | none => rw [e1] at e; cases e
        | some p =>
          rw [e1] at e
          have hi : i < xs.length := by rw [← shs_length]; exact (List.getElem?_eq_some_iff.mp e1).1
          simp only [Option.map_some, Option.some.injEq, Nat.zero_add] at e
          subst e
          obtain ⟨v, e2, m⟩ := get_len hl e1
          exact ⟨.int (i : Nat), v, List.mem_append_left _ (List.mem_append_left _ (List.mem_map.mpr ⟨i, List.mem_range.mpr hi, rfl⟩)), rfl, List.mem_append_left _ (List.mem_append_right _ m), shs_get e1, .inl ⟨a, vs, rfl, rfl, e2⟩⟩
    · cases h1
  | .zip e1 e2 => by
    intro X M Γ H σp σ r R E h av iv hx hq
    simp only [evI] at h
    refine pB (pE g e1) h av iv hx fun p x H1 h1 iv1 => ?_
    refine pB (pE g e2) h1 av.cons iv1 hx.cons fun q y H2 h2 iv2 => ?_
    split at h2
    · rename_i t xs u ys
      cases h2
      have iv3 : Iv X M ((LL false (shs xs), x) :: (LL false (shs ys), y) :: Γ) H2 := by
        have z1 := iv2.sh1
        rw [sh] at z1
        have z2 := z1.sw.sh1
        rwa [sh] at z2
      obtain ⟨a, vs, rfl, ha, hl, iv4, th⟩ := iv3.freeze
      obtain ⟨b, ws, rfl, hb, hm, iv5, th2⟩ := (iv4.perm List.perm_middle).freeze
      show onL K H2 a _
      rw [onL_of ha]
      show onL K H2 b _
      rw [onL_of hb]
      have sa : ∀ H, Same (upd (upd X a (.lst vs)) b (.lst ws)) H → H a = some (.lst vs) ∧ H b = some (.lst ws) := by
        intro H s
        refine ⟨?_, s b _ upd_same⟩
        by_cases hab : a = b
        · subst hab
          rw [ha] at hb
          have := Option.some.inj hb
          rw [this]
          exact s a _ upd_same
        · exact s a _ (by rw [upd_ne hab]; exact upd_same)
      refine hq _ rfl (.zip a b vs ws) _ _ ((shs ys).zip ws ++ (shs xs).zip vs) H2 ⟨?_, ?_, ?_⟩ (by rw [List.append_assoc]; exact iv5) fun Γ' H' z => th _ _ (th2 _ _ z)
      · simp [Src.len, hl, hm, zipP_len]
      · intro H s
        obtain ⟨s1, s2⟩ := sa H s
        exact ⟨.inl (.inl s1), .inl (.inl s2)⟩
      · intro i itm e
        obtain ⟨x', y', g1, g2, rfl⟩ := zipP_get _ _ i itm e
        obtain ⟨v, f1, m1⟩ := get_len hl g1
        obtain ⟨w, f2, m2⟩ := get_len hm g2
        exact ⟨v, w, List.mem_append_left _ (List.mem_append_right _ m1), shs_get g1, List.mem_append_left _ (List.mem_append_left _ m2), shs_get g2, .inr ⟨a, b, vs, ws, rfl, f1, f2⟩⟩
    · cases h2
end
end
end VC

namespace VC
open PySem PySem.Spec PyProof.Rows L2

def keepF (vs : List Nat) : Nat → PSt → PSt
  | _, [] => []
  | n, x :: σ => (if vs.contains n then x else none) :: keepF vs (n + 1) σ
def dmF (vs : List Nat) : Nat → PSt → PSt
  | _, [] => []
  | n, x :: σ => (if vs.contains n then x.map sh else x) :: dmF vs (n + 1) σ
def dropF (vs : List Nat) : Nat → PSt → PSt
  | _, [] => []
  | n, x :: σ => (if vs.contains n then none else x) :: dropF vs (n + 1) σ
def mrgF (vs : List Nat) : Nat → PSt → PSt → PSt
  | n, x :: σ, y :: τ => (if vs.contains n then x else y) :: mrgF vs (n + 1) σ τ
  | _, _, _ => []
def getP : List Nat → PV → Option PV
  | [], p => some p
  | m :: π, .nod k _ xs => if k.isL || k.isT then match xs[m]? with
      | some q => getP π q
      | none => none else none
  | _ :: _, _ => none
def isL : Option PV → Bool
  | some (.nod .lst _ _) => true
  | _ => false
def comm (vs : List Nat) (r : Option (Rx PV)) (σ : PSt) : Option (Rx PV × PSt) := match r with
  | some (.ok p) => some (.ok p, if cln p then σ else dmF vs 0 σ)
  | some (.ex x) => some (.ex x, dmF vs 0 σ)
  | none => none
def plc : Ex → Option (Nat × List Nat)
  | .var i => some (i, [])
  | .idx o (.con (.int j)) => if 0 ≤ j then (plc o).map fun g => (g.1, g.2 ++ [j.toNat]) else none
  | _ => none
def upP (f : PV → Option PV) : List Nat → PV → Option PV
  | [], p => f p
  | m :: π, .nod k t xs => if (k.isL && t) || k.isT then match xs[m]? with
      | some q => (upP f π q).map fun q' => .nod k t (xs.set m q')
      | none => none else none
  | _ :: _, _ => none
def evJ (c : PCn) (i : Ex) (σ : PSt) : Option Int := match i with
  | .us vs e => match evP c e (keepF vs 0 σ) with
    | some (.ok (.int j)) => some j
    | _ => none
  | .con (.int j) => some j
  | _ => none
def tkP (fl : List Bool) (p : PV) : PV := match fl with
  | true :: _ => p
  | _ => sh p
theorem tkP_or (fl : List Bool) (p : PV) : tkP fl p = p ∨ tkP fl p = sh p := by
  unfold tkP
  split
  · exact .inl rfl
  · exact .inr rfl
def ioTake : List Bool → List (Option Nat × PV) → PSt → Option (List PV × PSt)
  | _, [], σ => some ([], σ)
  | fl, (none, p) :: as, σ => match ioTake (fl.drop 1) as σ with
    | some (ps, σ1) => some (tkP fl p :: ps, σ1)
    | none => none
  | fl, (some i, _) :: as, σ => match σ[i]? with
    | some (some p) => match ioTake (fl.drop 1) as (σ.set i none) with
      | some (ps, σ1) => some (p :: ps, σ1)
      | none => none
    | _ => none
def ioPut : List (Option Nat × PV) → List (Option PV) → PSt → PSt
  | (some i, _) :: as, f :: fs, σ => ioPut as fs (σ.set i f)
  | (none, _) :: as, _ :: fs, σ => ioPut as fs σ
  | _, _, σ => σ
def opI (op : Operator) (x y : PV) : Option PV := match op, x, y with
  | .Add, .int i, .int j => some (.int (i + j))
  | .Sub, .int i, .int j => some (.int (i - j))
  | .Mult, .int i, .int j => if okI i && okI j && decide (-(2 ^ 63) ≤ j ∧ j < 2 ^ 63) then some (.int (i * j)) else none
  | _, _, _ => none
def exL (x y : PV) : Option PV := match x, y with
  | .nod .lst true xs, .nod .lst _ ys => if fitB (xs.length + ys.length) then some (LL true (xs ++ ys)) else none
  | _, _ => none

def apL (x q : PV) : Option PV := match q with
  | .nod .lst true xs => if decide (xs.length < 100000) then some (LL true (xs ++ [x])) else none
  | _ => none
def stL (j : Int) (x q : PV) : Option PV := match q with
  | .nod .lst true xs => (ixN xs.length j).map fun m => LL true (xs.set m x)
  | _ => none
def agL (op : Operator) (j : Int) (y q : PV) : Option PV := match q with
  | .nod .lst true xs => if 0 ≤ j then match xs[j.toNat]? with
    | some (.int u) => match y with
      | .int w => (opI op (.int u) (.int w)).map fun z => LL true (xs.set j.toNat z)
      | _ => none
    | _ => none else none
  | _ => none
def stA (c : PCn) (o i : Ex) (x : PV) (σ : PSt) : Option PSt := match plc o, evJ c i σ with
  | some (v, π), some j => match σ[v]? with
    | some (some p) => match upP (stL j x) π p with
      | some p' => some (σ.set v (some p'))
      | none => none
    | _ => none
  | _, _ => none
def evU (c : PCn) (e : Ex) (σ : PSt) : Option (Rx PV × PSt) := match e with
  | .us vs e => comm vs (evP c e (keepF vs 0 σ)) σ
  | _ => none
def compX (f : Itm → PSt → Option (Option PV × PSt)) : List Itm → PSt → Option (Rx (List PV) × PSt)
  | [], σ => some (.ok [], σ)
  | i :: is, σ => match f i σ with
    | none => none
    | some (none, σ1) => compX f is σ1
    | some (some p, σ1) => match compX f is σ1 with
      | some (.ok ps, σ2) => some (.ok (p :: ps), σ2)
      | _ => none

mutual
def evX (c : PCn) : Ex → PSt → Option (Rx PV × PSt)
  | .us vs e => fun σ => comm vs (evP c e (keepF vs 0 σ)) σ
  | .mv i => fun σ => match σ[i]? with
    | some (some p) => some (.ok p, σ.set i none)
    | _ => none
  | .con k => fun σ => match conV k with
    | some v => (vP v).map fun p => (.ok p, σ)
    | none => none
  | .bin op a b => fun σ => bnX (evX c a σ) fun x σ => bnX (evX c b σ) fun y σ => (opB op x y).map fun z => (.ok z, σ)
  | .neg a => fun σ => bnX (evX c a σ) fun x σ => match x with
    | .int i => some (.ok (.int (-i)), σ)
    | _ => none
  | .cmp op a b => fun σ => bnX (evX c a σ) fun x σ => bnX (evX c b σ) fun y σ => (opC op x y).map fun z => (.ok (.bl z), σ)
  | .not a => fun σ => bnX (evX c a σ) fun x σ => match x with
    | .bl b => some (.ok (.bl (!b)), σ)
    | _ => none
  | .and a b => fun σ => bnX (evX c a σ) fun x σ => match x with
    | .bl true => evX c b σ
    | .bl false => some (.ok (.bl false), σ)
    | _ => none
  | .or a b => fun σ => bnX (evX c a σ) fun x σ => match x with
    | .bl false => evX c b σ
    | .bl true => some (.ok (.bl true), σ)
    | _ => none
  | .blt f es => fun σ => bnX (evXs c es σ) fun xs σ => (bltP f xs).map fun z => (.ok z, σ)
  | .tup es => fun σ => bnX (evXs c es σ) fun xs σ => if fitB xs.length then some (.ok (TT_ xs), σ) else none
  | .lst es => fun σ => bnX (evXs c es σ) fun xs σ => if fitB xs.length then some (.ok (LL true xs), σ) else none
  | .idx a i => fun σ => match a with
    | .var v => match σ[v]? with
      | some (some _) => bnX (evX c i σ) fun y σ => match σ[v]? with
        | some (some p) => match idxP (sh p) y with
          | some q => some (.ok q, if cln q then σ else σ.set v (some (shI p)))
          | none => none
        | _ => none
      | _ => none
    | _ => bnX (evX c a σ) fun x σ => bnX (evX c i σ) fun y σ => (idxP x y).map fun z => (.ok z, σ)
  | .stp a lo k => fun σ => bnX (evX c a σ) fun x σ => bnX (evX c lo σ) fun y σ => (stpP x y k).map fun z => (.ok z, σ)
  | .ite t a b => fun σ => bnX (evXT c t σ) fun k σ => match k with
    | true => evX c a σ
    | false => evX c b σ
  | .call f es ks kes => fun σ => match ks, kes with
    | [], .nil => bnX (evXA c es (c.io f) σ) fun as σ => match ioTake (c.io f) as σ with
      | some (ps, σ1) => match c.G f ps with
        | some (r, fin) => some (r, ioPut as fin σ1)
        | none => none
      | none => none
    | _, _ => none
  | .mth m o es => fun σ => match plc o, es with
    | some (i, π), .cons e .nil => if m = "append" then match σ[i]? with
        | some (some p0) => if isL (getP π p0) then
          bnX (match π with
            | [] => evX c e σ
            | _ :: _ => evU c e σ) fun x σ => match σ[i]? with
            | some (some p) => match upP (apL x) π p with
              | some p' => some (.ok .non, σ.set i (some p'))
              | none => none
            | _ => none
          else none
        | _ => none
      else none
    | some (i, []), .nil => if m = "pop" then match σ[i]? with
        | some (some (.nod .lst true xs)) => match xs[xs.length - 1]? with
          | some q => some (.ok q, σ.set i (some (LL true xs.dropLast)))
          | none => none
        | _ => none
      else none
    | _, _ => none
  | .comp e tg it cs own => fun σ => bnX (evIX c it σ) fun its σ1 => if fitB its.length && tgIn (own.map (·.2)) tg then
      bnX (compX (fun i σ => match bndT tg i (dropF (own.map (·.2)) 0 σ) with
        | none => none
        | some σ2 => match evXC c cs σ2 with
          | some (.ok true, σ4) => match evX c e σ4 with
            | some (.ok p, σ3) => some (some p, σ3)
            | _ => none
          | some (.ok false, σ4) => some (none, σ4)
          | _ => none) its (dropF (own.map (·.2)) 0 σ1)) fun ps σ2 => some (.ok (LL true ps), mrgF (own.map (·.2)) 0 σ1 σ2) else none
  | _ => fun _ => none
def evXs (c : PCn) : Exs → PSt → Option (Rx (List PV) × PSt)
  | .nil => fun σ => some (.ok [], σ)
  | .cons e es => fun σ => bnX (evX c e σ) fun x σ => bnX (evXs c es σ) fun xs σ => some (.ok (x :: xs), σ)
def evXA (c : PCn) : Exs → List Bool → PSt → Option (Rx (List (Option Nat × PV)) × PSt)
  | .nil => fun _ σ => some (.ok [], σ)
  | .cons e es => fun fl σ => match fl with
    | true :: fl => match e with
      | .var i => match σ[i]? with
        | some (some _) => bnX (evXA c es fl σ) fun as σ => some (.ok ((some i, .non) :: as), σ)
        | _ => none
      | _ => bnX (evX c e σ) fun x σ => bnX (evXA c es fl σ) fun as σ => some (.ok ((none, x) :: as), σ)
    | _ => bnX (evX c e σ) fun x σ => bnX (evXA c es (fl.drop 1) σ) fun as σ => some (.ok ((none, x) :: as), σ)
def evXT (c : PCn) : Ts → PSt → Option (Rx Bool × PSt)
  | .us vs t => fun σ => match evT c t (keepF vs 0 σ) with
    | some (.ok b) => some (.ok b, σ)
    | some (.ex x) => some (.ex x, dmF vs 0 σ)
    | none => none
  | .val e => fun σ => bnX (evX c e σ) fun x σ => match x with
    | .bl b => some (.ok b, σ)
    | _ => none
  | .cmp op a b => fun σ => bnX (evX c a σ) fun x σ => bnX (evX c b σ) fun y σ => (opC op x y).map fun z => (.ok z, σ)
  | .not a => fun σ => bnX (evXT c a σ) fun b σ => some (.ok (!b), σ)
  | .and a b => fun σ => bnX (evXT c a σ) fun k σ => match k with
    | true => evXT c b σ
    | false => some (.ok false, σ)
  | .or a b => fun σ => bnX (evXT c a σ) fun k σ => match k with
    | true => some (.ok true, σ)
    | false => evXT c b σ
  | _ => fun _ => none
def evXC (c : PCn) : Cd → PSt → Option (Rx Bool × PSt)
  | .no => fun σ => some (.ok true, σ)
  | .one t => evXT c t
def evIX (c : PCn) : Ir → PSt → Option (Rx (List Itm) × PSt)
  | .us vs (.seq e) => fun σ => bnX (comm vs (evP c e (keepF vs 0 σ)) σ) fun x σ => match x with
    | .nod .lst _ xs => some (.ok (xs.map .one), σ)
    | .nod .tup _ xs => some (.ok (xs.map .one), σ)
    | _ => none
  | .us vs (.rng es) => fun σ => match evPs c es (keepF vs 0 σ) with
    | some (.ok ps) => match rngP ps with
      | some xs => some (.ok (xs.map .one), σ)
      | none => none
    | _ => none
  | .us vs (.enm e) => fun σ => bnX (comm vs (evP c e (keepF vs 0 σ)) σ) fun x σ => match x with
    | .nod .lst _ xs => some (.ok (enmP 0 xs), σ)
    | _ => none
  | .us vs (.zip a b) => fun σ => bnX (comm vs (evP c a (keepF vs 0 σ)) σ) fun x σ => bnX (comm vs (evP c b (keepF vs 0 σ)) σ) fun y σ => match x, y with
    | .nod .lst _ xs, .nod .lst _ ys => some (.ok (zipP xs ys), σ)
    | _, _ => none
  | .seq e => fun σ => bnX (evX c e σ) fun x σ => match x with
    | .nod .lst _ xs => some (.ok (xs.map .one), σ)
    | .nod .tup _ xs => some (.ok (xs.map .one), σ)
    | _ => none
  | .rng es => fun σ => bnX (evXs c es σ) fun ps σ => match rngP ps with
    | some xs => some (.ok (xs.map .one), σ)
    | none => none
  | _ => fun _ => none
end

inductive Out where
  | nx (σ : PSt)
  | rt (p : PV) (σ : PSt)
  | bk (σ : PSt)
  | ct (σ : PSt)
  | ex (x : PX) (σ : PSt)
@[inline] def bnS {α : Type} (m : Option (Rx α × PSt)) (f : α → PSt → Option Out) : Option Out := match m with
  | some (.ok a, σ) => f a σ
  | some (.ex x, σ) => some (.ex x σ)
  | none => none
def stP (lk : List Nat) (j : Nat) (p : PV) (σ : PSt) : Option PSt := if lk.contains j then none else some (σ.set j (some p))
def stPs (lk : List Nat) (js : List Nat) (ps : List PV) (σ : PSt) : Option PSt := if js.any (lk.contains ·) then none else some (setP σ js ps)
def tgOk (lk : List Nat) : Tg → Bool
  | .name j => !lk.contains j
  | .tup js => !js.any (lk.contains ·)
def forX (f : PSt → Option Out) (tg : Tg) : List Itm → PSt → Option Out
  | [], σ => some (.nx σ)
  | i :: is, σ => match bndT tg i σ with
    | none => none
    | some σ1 => match f σ1 with
      | some (.nx σ2) => forX f tg is σ2
      | some (.ct σ2) => forX f tg is σ2
      | some (.bk σ2) => some (.nx σ2)
      | r => r
def whlX (t : PSt → Option (Rx Bool × PSt)) (f : PSt → Option Out) : Nat → PSt → Option Out
  | 0, _ => none
  | n + 1, σ => match t σ with
    | some (.ok true, σ1) => match f σ1 with
      | some (.nx σ2) => whlX t f n σ2
      | some (.ct σ2) => whlX t f n σ2
      | some (.bk σ2) => some (.nx σ2)
      | r => r
    | some (.ok false, σ1) => some (.nx σ1)
    | some (.ex x, σ1) => some (.ex x σ1)
    | none => none

mutual
def evS (c : PCn) (lk : List Nat) : Sm → PSt → Option Out
  | .expr e => fun σ => bnS (evX c e σ) fun _ σ => some (.nx σ)
  | .ret e => fun σ => bnS (evX c e σ) fun p σ => some (.rt p σ)
  | .retN => fun σ => some (.rt .non σ)
  | .asg i e => fun σ => bnS (evX c e σ) fun p σ => (stP lk i p σ).map .nx
  | .unp is e => fun σ => bnS (evX c e σ) fun p σ => match p with
    | .nod .tup _ ys => if ys.length == is.length then (stPs lk is ys σ).map .nx else none
    | _ => none
  | .par is es => fun σ => bnS (evXs c es σ) fun ps σ => if ps.length == is.length then (stPs lk is ps σ).map .nx else none
  | .setI o i e => fun σ => bnS (evX c e σ) fun x σ => (stA c o i x σ).map .nx
  | .setI2 o i o2 i2 e => fun σ => bnS (evX c e σ) fun x σ => match x with
    | .nod .tup _ [y, z] => match stA c o i y σ with
      | some σ1 => (stA c o2 i2 z σ1).map .nx
      | none => none
    | _ => none
  | .aug i op e => fun σ => match σ[i]? with
    | some (some (.int x)) => bnS (evX c e σ) fun y σ => match opI op (.int x) y with
      | some z => (stP lk i z σ).map .nx
      | none => none
    | some (some (.nod _ _ _)) => if op = .Add then bnS (evX c e σ) fun y σ => match σ[i]? with
        | some (some x) => match exL x y with
          | some z => some (.nx (σ.set i (some z)))
          | none => none
        | _ => none
      else none
    | _ => none
  | .augI o i op e => fun σ => match plc o, evJ c i σ, e with
    | some (v, π), some j, .us vs e => match evP c e (keepF vs 0 σ), σ[v]? with
      | some (.ok y), some (some p) => match upP (agL op j y) π p with
        | some p' => some (.nx (σ.set v (some p')))
        | none => none
      | _, _ => none
    | _, _, _ => none
  | .ife t a b => fun σ => bnS (evXT c t σ) fun k σ => match k with
    | true => evSs c lk a σ
    | false => evSs c lk b σ
  | .forI tg it b => fun σ => if tgOk lk tg then bnS (evIX c it σ) fun its σ => forX (evSs c lk b) tg its σ else none
  | .whl t b => fun σ => whlX (evXT c t) (evSs c lk b) c.fu σ
  | .pass => fun σ => some (.nx σ)
  | .brk => fun σ => some (.bk σ)
  | .cont => fun σ => some (.ct σ)
  | .never => fun _ => none
def evSs (c : PCn) (lk : List Nat) : Ss → PSt → Option Out
  | .nil => fun σ => some (.nx σ)
  | .cons s r => fun σ => match evS c lk s σ with
    | some (.nx σ1) => evSs c lk r σ1
    | o => o
end
def finP : List Bool → PSt → List (Option PV)
  | true :: fl, x :: σ => x :: finP fl σ
  | false :: fl, _ :: σ => none :: finP fl σ
  | _, _ => []
def lkOf : Nat → List Bool → List Nat
  | _, [] => []
  | n, true :: fl => n :: lkOf (n + 1) fl
  | n, false :: fl => lkOf (n + 1) fl
def GG (T : Tab) (io : Str → List Bool) (fu : Nat) : Nat → Str → List PV → Option (Rx PV × List (Option PV))
  | 0, _, _ => none
  | k + 1, f, ps => match T.fns.lookup f with
    | none => none
    | some F => if ps.length == F.ps.length then
        match evSs ⟨GG T io fu k, fun f => ((T.fns.lookup f).map (·.ps)).getD [], fun y => T.cons.lookup y, io, fu⟩ (lkOf 0 (io f)) F.body (ps.map some ++ List.replicate (F.N.length - ps.length) none) with
        | some (.rt p σ) => some (.ok p, finP (io f) σ)
        | some (.nx σ) => some (.ok .non, finP (io f) σ)
        | some (.ex x σ) => some (.ex x, finP (io f) σ)
        | _ => none
      else none
end VC

namespace VC
open PySem PySem.Spec PyProof.Rows L2

section
variable {ca : Str → Value} {X : Hp} {M : Addr → Prop} {Γ Γ' Γ1 Γ2 Δ A : List (PV × V)} {H H1 : Hp} {k : Kd} {xs ys : List PV} {vs ws : List V} {p q : PV} {v w : V} {a b : Addr} {K : PySem.W.Frag} {σp σp1 : PSt} {σ σ1 : L2.St} {E : XK} {β : Type} {r : Rx β}

theorem swA {α : Type} (A B C : List α) : (A ++ (B ++ C)).Perm (B ++ (A ++ C)) := by
  rw [← List.append_assoc, ← List.append_assoc]; exact List.perm_append_comm.append_right _
theorem Iv.frame (h : Iv X M (A ++ Γ) H) : ∃ X' M', Iv X' M' A H ∧ ∀ Δ H1, Iv X' M' Δ H1 → Iv X M (Δ ++ Γ) H1 := by
  obtain ⟨O, S, r, n, c1, c2⟩ := h.ex
  obtain ⟨O1, O2, S1, S2, r1, r2, rfl, rfl⟩ := r.split _ rfl
  have n' := List.nodup_append.mp n
  refine ⟨fun b => if b ∈ O1 then none else H b, fun b => b ∈ S1, ⟨fun b o e => ?_, O1, S1, r1, n'.1, fun b hb => ⟨fun z => (c1 b (List.mem_append_left _ hb)).1 (List.mem_append_left _ z), if_pos hb⟩, fun b hb => .inl hb⟩, ?_⟩
  · by_cases hb : b ∈ O1
    · rw [if_pos hb] at e; cases e
    · rw [if_neg hb] at e; exact e
  intro Δ H1 d
  obtain ⟨Od, Sd, rd, nd, d1, d2⟩ := d.ex
  have nx : ∀ b, (if b ∈ O1 then none else H b) = none → H b = none ∨ b ∈ O1 := fun b e => by
    by_cases hb : b ∈ O1
    · exact .inr hb
    · rw [if_neg hb] at e; exact .inl e
  have keep : ∀ b o, b ∉ O1 → H b = some o → H1 b = some o := fun b o hb e => d.same b o (by rw [if_neg hb]; exact e)
  have dom2 : ∀ b, (b ∈ O2 ∨ b ∈ S2) → H b ≠ none ∧ b ∉ O1 := fun b hb => by
    obtain ⟨_, _, _, e⟩ := r2.dom b hb
    refine ⟨(fun z => by rw [z] at e; cases e), fun z => ?_⟩
    rcases hb with y | y
    · exact n'.2.2 b z b y rfl
    · exact (c1 b (List.mem_append_left _ z)).1 (List.mem_append_right _ y)
  have fr : ∀ b, H b = none → X b = none := fun b hb => h.same.free hb
  have r2' : RA H1 Γ O2 S2 := r2.mono fun b hb => by
    have : b ∉ O1 ∧ ∃ o, H b = some o := by
      rcases hb with y | y | ⟨ws, y⟩
      · obtain ⟨_, _, _, e⟩ := r2.dom b (.inl y); exact ⟨(dom2 b (.inl y)).2, _, e⟩
      · obtain ⟨_, _, _, e⟩ := r2.dom b (.inr y); exact ⟨(dom2 b (.inr y)).2, _, e⟩
      · refine ⟨fun z => ?_, _, y⟩
        obtain ⟨k, us, hk, e⟩ := r1.dom b (.inl z)
        rw [y] at e
        exact Kd.mut_tup hk (Option.some.inj e).symm
    obtain ⟨h1, o, h2⟩ := this
    rw [h2]; exact keep b o h1 h2
  refine ⟨fun b o e => ?_, Od ++ O2, Sd ++ S2, rd.app r2', ?_, ?_, ?_⟩
  · have hb : b ∉ O1 := fun z => by rw [(c1 b (List.mem_append_left _ z)).2] at e; cases e
    exact keep b o hb (h.same b o e)
  · refine List.nodup_append.mpr ⟨nd, n'.2.1, fun x hx y hy e => ?_⟩
    subst e
    rcases nx x (d1 x hx).2 with z | z
    · exact (dom2 x (.inl hy)).1 z
    · exact (dom2 x (.inl hy)).2 z
  · intro b hb
    rcases List.mem_append.mp hb with hb | hb
    · have xb : X b = none := by
        rcases nx b (d1 b hb).2 with z | z
        · exact fr b z
        · exact (c1 b (List.mem_append_left _ z)).2
      refine ⟨fun z => ?_, xb⟩
      rcases List.mem_append.mp z with z | z
      · exact (d1 b hb).1 z
      · rcases nx b (d1 b hb).2 with y | y
        · exact (dom2 b (.inr z)).1 y
        · exact (dom2 b (.inr z)).2 y
    · have := c1 b (List.mem_append_right _ hb)
      refine ⟨fun z => ?_, this.2⟩
      rcases List.mem_append.mp z with z | z
      · rcases d2 b z with y | y
        · exact this.1 (List.mem_append_left _ y)
        · rcases nx b y with u | u
          · exact (dom2 b (.inl hb)).1 u
          · exact (dom2 b (.inl hb)).2 u
      · exact this.1 (List.mem_append_right _ z)
  · intro b hb
    rcases List.mem_append.mp hb with hb | hb
    · rcases d2 b hb with y | y
      · exact c2 b (List.mem_append_left _ y)
      · rcases nx b y with u | u
        · exact .inr (fr b u)
        · exact .inr (c1 b (List.mem_append_left _ u)).2
    · exact c2 b (List.mem_append_right _ hb)

def Sb (Γ' Γ : List (PV × V)) : Prop := ∃ Γ0, (Γ' ++ Γ0).Perm Γ
theorem Sb.refl : Sb Γ Γ := ⟨[], by simp⟩
theorem Sb.cons {g : PV × V} (h : Sb Γ' Γ) : Sb (g :: Γ') (g :: Γ) := by
  obtain ⟨Γ0, p⟩ := h; exact ⟨Γ0, p.cons _⟩
theorem Sb.skip {g : PV × V} (h : Sb Γ' Γ) : Sb Γ' (g :: Γ) := by
  obtain ⟨Γ0, p⟩ := h
  exact ⟨g :: Γ0, List.perm_middle.trans (p.cons g)⟩
theorem Sb.trans {Γ'' : List (PV × V)} (h : Sb Γ'' Γ') (g : Sb Γ' Γ) : Sb Γ'' Γ := by
  obtain ⟨Γ0, p⟩ := h
  obtain ⟨Γ1, q⟩ := g
  exact ⟨Γ0 ++ Γ1, by rw [← List.append_assoc]; exact (p.append_right _).trans q⟩
theorem Sb.of_perm (h : Γ'.Perm Γ) : Sb Γ' Γ := ⟨[], by simpa using h⟩
theorem Sb.app (h : Sb Γ' Γ) : Sb (Γ' ++ Δ) (Γ ++ Δ) := by
  obtain ⟨Γ0, p⟩ := h
  refine ⟨Γ0, ?_⟩
  refine List.Perm.trans ?_ (p.append_right Δ)
  rw [List.append_assoc, List.append_assoc]
  exact List.perm_append_comm.append_left _
theorem Iv.sb (h : Iv X M Γ H) (s : Sb Γ' Γ) : Iv X M Γ' H := by
  obtain ⟨Γ0, p⟩ := s
  exact (h.perm p.symm).left
structure envC (σp : PSt) (σ : L2.St) : Prop where
  len : σp.length = σ.length
  at_ : ∀ (i : Nat) (p : PV), σp[i]? = some (some p) → ∃ v, σ[i]? = some (some v)
theorem envC.tl {x : Option PV} {y : Option V} (h : envC (x :: σp) (y :: σ)) : envC σp σ := ⟨by simpa using h.len, fun i p e => by simpa using h.at_ (i + 1) p (by simpa using e)⟩
theorem envC.hd (h : envC (some p :: σp) σ) : ∃ v σ', σ = some v :: σ' := by
  obtain ⟨v, e⟩ := h.at_ 0 p rfl
  cases σ with
  | nil => cases e
  | cons y σ => simp at e; subst e; exact ⟨v, σ, rfl⟩
theorem envC.set (h : envC σp σ) (j : Nat) : envC (σp.set j (some p)) (σ.set j (some v)) := by
  refine ⟨by simp [h.len], fun i q e => ?_⟩
  rw [List.getElem?_set] at e ⊢
  by_cases hij : j = i
  · subst hij
    rw [if_pos rfl] at e ⊢
    by_cases hl : j < σp.length
    · rw [if_pos (by rw [← h.len]; exact hl)]; exact ⟨v, rfl⟩
    · rw [if_neg hl] at e; cases e
  · rw [if_neg hij] at e ⊢; exact h.at_ i q e
theorem envC.setL (h : envC σp σ) {j : Nat} (hv : σ[j]? = some (some v)) : envC (σp.set j (some p)) σ := by
  refine ⟨by simp [h.len], fun i q e => ?_⟩
  by_cases hij : j = i
  · subst hij; exact ⟨v, hv⟩
  · rw [List.getElem?_set, if_neg hij] at e; exact h.at_ i q e
theorem envC.killL (h : envC σp σ) (j : Nat) : envC (σp.set j none) σ := by
  refine ⟨by simp [h.len], fun i q e => ?_⟩
  rw [List.getElem?_set] at e
  by_cases hij : j = i
  · subst hij
    rw [if_pos rfl] at e
    split at e <;> cases e
  · rw [if_neg hij] at e; exact h.at_ i q e
theorem env_take : ∀ {σp : PSt} {σ : L2.St} {j : Nat} {p : PV} {v : V}, σp[j]? = some (some p) → σ[j]? = some (some v) → (envG σp σ).Perm ((p, v) :: envG (σp.set j none) σ)
  | [], _, j, _, _, h, _ => by simp at h
  | _ :: _, [], j, _, _, _, h => by simp at h
  | x :: σp, y :: σ, 0, p, v, h1, h2 => by
    simp at h1 h2
    subst h1; subst h2
    simp only [List.set_cons_zero, envG]
    exact .refl _
  | x :: σp, y :: σ, j + 1, p, v, h1, h2 => by
    have ih := env_take (σp := σp) (σ := σ) (j := j) (p := p) (v := v) (by simpa using h1) (by simpa using h2)
    cases x with
    | none => simp only [List.set_cons_succ, envG]; exact ih
    | some q => cases y with
      | none => simp only [List.set_cons_succ, envG]; exact ih
      | some w =>
        simp only [List.set_cons_succ, envG]
        exact (ih.cons _).trans (.swap _ _ _)
theorem env_none : ∀ (σp : PSt) (σ : L2.St) (j : Nat) (y : Option V), envG (σp.set j none) (σ.set j y) = envG (σp.set j none) σ
  | [], _, j, y => by simp [envG]
  | _ :: _, [], j, y => by simp
  | x :: σp, z :: σ, 0, y => by simp only [List.set_cons_zero, envG]
  | x :: σp, z :: σ, j + 1, y => by
    have ih := env_none σp σ j y
    cases x <;> cases z <;> simp only [List.set_cons_succ, envG, ih]
theorem env_kill : ∀ (σp : PSt) (σ : L2.St) (j : Nat), Sb (envG (σp.set j none) σ) (envG σp σ)
  | [], _, j => by simp [envG]; exact .refl
  | _ :: _, [], j => by cases j <;> simp [envG] <;> exact .refl
  | x :: σp, y :: σ, 0 => by
    cases x with
    | none => exact .refl
    | some p => cases y with
      | none => simp only [List.set_cons_zero, envG]; exact .refl
      | some v => simp only [List.set_cons_zero, envG]; exact Sb.refl.skip
  | x :: σp, y :: σ, j + 1 => by
    have ih := env_kill σp σ j
    cases x with
    | none => simp only [List.set_cons_succ, envG]; exact ih
    | some p => cases y with
      | none => simp only [List.set_cons_succ, envG]; exact ih
      | some v => simp only [List.set_cons_succ, envG]; exact ih.cons
theorem env_set (σp : PSt) (σ : L2.St) (j : Nat) (p : PV) (v : V) : Sb (envG (σp.set j (some p)) (σ.set j (some v))) ((p, v) :: envG (σp.set j none) σ) := by
  by_cases h1 : j < σp.length
  · by_cases h2 : j < σ.length
    · have h3 : (σp.set j (some p))[j]? = some (some p) := by simp [h1]
      have h4 : (σ.set j (some v))[j]? = some (some v) := by simp [h2]
      have := env_take h3 h4
      rw [List.set_set] at this
      rw [env_none σp σ j] at this
      exact .of_perm this
    · rw [List.set_eq_of_length_le (l := σ) (by omega)]
      have : ∀ (σp : PSt) (σ : L2.St) (j : Nat) (x y : Option PV), ¬ j < σ.length → envG (σp.set j x) σ = envG (σp.set j y) σ := by
        intro σp
        induction σp with
        | nil => intro σ j x y _; simp
        | cons z σp ih =>
          intro σ j x y hj
          cases σ with
          | nil => cases j <;> simp [envG]
          | cons u σ =>
            cases j with
            | zero => simp at hj
            | succ j =>
              have := ih σ j x y (by simpa using hj)
              cases z <;> cases u <;> simp only [List.set_cons_succ, envG, this]
      rw [this σp σ j (some p) none h2]
      exact Sb.refl.skip
  · rw [List.set_eq_of_length_le (l := σp) (by omega), List.set_eq_of_length_le (l := σp) (by omega)]
    have : ∀ (σp : PSt) (σ : L2.St) (j : Nat) (y : Option V), ¬ j < σp.length → envG σp (σ.set j y) = envG σp σ := by
      intro σp
      induction σp with
      | nil => intro σ j y _; simp [envG]
      | cons z σp ih =>
        intro σ j y hj
        cases σ with
        | nil => simp
        | cons u σ =>
          cases j with
          | zero => simp at hj
          | succ j =>
            have := ih σ j y (by simpa using hj)
            cases z <;> cases u <;> simp only [List.set_cons_succ, envG, this]
    rw [this σp σ j _ h1]
    exact Sb.refl.skip
theorem Iv.setE (h : Iv X M ((p, v) :: (envG σp σ ++ Γ)) H) (j : Nat) : Iv X M (envG (σp.set j (some p)) (σ.set j (some v)) ++ Γ) H := by
  refine h.sb (Sb.app (Γ := (p, v) :: envG σp σ) ?_)
  exact (env_set σp σ j p v).trans (Sb.cons (env_kill σp σ j))
theorem Iv.putE {j : Nat} (h : Iv X M ((p, v) :: (envG (σp.set j none) σ ++ Γ)) H) (hv : σ[j]? = some (some v)) : Iv X M (envG (σp.set j (some p)) σ ++ Γ) H := by
  refine h.sb (Sb.app (Γ := (p, v) :: envG (σp.set j none) σ) ?_)
  have e : σ = σ.set j (some v) := by
    have hl := (List.getElem?_eq_some_iff.mp hv)
    obtain ⟨hl, e⟩ := hl
    rw [← e, List.set_getElem_self]
  have := env_set σp σ j p v
  rwa [← e] at this
theorem Iv.takeE {j : Nat} (h : Iv X M (envG σp σ ++ Γ) H) (hp : σp[j]? = some (some p)) (hv : σ[j]? = some (some v)) : Iv X M ((p, v) :: (envG (σp.set j none) σ ++ Γ)) H := h.perm ((env_take hp hv).append_right Γ)
theorem Iv.killE (h : Iv X M (envG σp σ ++ Γ) H) (j : Nat) : Iv X M (envG (σp.set j none) σ ++ Γ) H := h.sb (env_kill σp σ j).app
theorem Iv.setsE : ∀ {js : List Nat} {ys : List PV} {ws : List V} {σp : PSt} {σ : L2.St}, Iv X M (ys.zip ws ++ (envG σp σ ++ Γ)) H → ws.length = ys.length → envC σp σ → Iv X M (envG (setP σp js ys) (setAll σ js ws) ++ Γ) H ∧ envC (setP σp js ys) (setAll σ js ws)
  | [], _, _, _, _, h, _, hc => by simp only [setP, VC.setAll]; exact ⟨h.right, hc⟩
  | _ :: _, [], [], _, _, h, _, hc => by simp only [setP, VC.setAll]; exact ⟨h.right, hc⟩
  | _ :: _, [], _ :: _, _, _, _, h, _ => by cases h
  | _ :: _, _ :: _, [], _, _, _, h, _ => by cases h
  | j :: js, y :: ys, w :: ws, σp, σ, h, hl, hc => by
    simp only [setP, VC.setAll]
    refine Iv.setsE ?_ (by simpa using hl) (hc.set j)
    have h1 : Iv X M ((y, w) :: (envG σp σ ++ (ys.zip ws ++ Γ))) H := by
      refine Iv.perm h ?_
      show ((y, w) :: (ys.zip ws ++ (envG σp σ ++ Γ))).Perm _
      refine List.Perm.cons _ ?_
      rw [← List.append_assoc, ← List.append_assoc]
      exact List.perm_append_comm.append_right _
    have h2 := h1.setE j
    refine h2.perm ?_
    rw [← List.append_assoc, ← List.append_assoc]
    exact List.perm_append_comm.append_right _

theorem keepF_get (vs : List Nat) : ∀ (σ : PSt) (m i : Nat) (p : PV), (keepF vs m σ)[i]? = some (some p) → σ[i]? = some (some p) ∧ vs.contains (m + i) = true
  | [], m, i, p, h => by simp [keepF] at h
  | x :: σ, m, 0, p, h => by
    simp only [keepF, List.getElem?_cons_zero] at h ⊢
    split at h
    · rename_i hc; exact ⟨h, by simpa using hc⟩
    · cases h
  | x :: σ, m, i + 1, p, h => by
    simp only [keepF, List.getElem?_cons_succ] at h ⊢
    obtain ⟨h1, h2⟩ := keepF_get vs σ (m + 1) i p h
    exact ⟨h1, by rw [← h2]; congr 1; omega⟩
theorem keepF_len (vs : List Nat) : ∀ (σ : PSt) (m : Nat), (keepF vs m σ).length = σ.length
  | [], m => rfl
  | x :: σ, m => by simp [keepF, keepF_len vs σ]
theorem env_split (vs : List Nat) : ∀ (σp : PSt) (σ : L2.St) (m : Nat), (envG σp σ).Perm (envG (keepF vs m σp) σ ++ envG (dropF vs m σp) σ)
  | [], _, m => by simp [keepF, dropF, envG]
  | _ :: _, [], m => by simp [keepF, dropF, envG]
  | x :: σp, y :: σ, m => by
    have ih := env_split vs σp σ (m + 1)
    simp only [keepF, dropF]
    by_cases hc : vs.contains m = true
    · rw [if_pos hc, if_pos hc]
      cases x <;> cases y <;> simp only [envG, List.cons_append] <;> first | exact ih | exact ih.cons _
    · rw [if_neg hc, if_neg hc]
      cases x <;> cases y <;> simp only [envG] <;> first | exact ih | exact (ih.cons _).trans List.perm_middle.symm
theorem env_dm (vs : List Nat) : ∀ (σp : PSt) (σ : L2.St) (m : Nat), (envG (dmF vs m σp) σ).Perm (shG (envG (keepF vs m σp) σ) ++ envG (dropF vs m σp) σ)
  | [], _, m => by simp [keepF, dropF, dmF, envG, shG]
  | _ :: _, [], m => by simp [keepF, dropF, dmF, envG, shG]
  | x :: σp, y :: σ, m => by
    have ih := env_dm vs σp σ (m + 1)
    simp only [keepF, dropF, dmF]
    by_cases hc : vs.contains m = true
    · rw [if_pos hc, if_pos hc, if_pos hc]
      cases x <;> cases y <;> simp only [envG, Option.map_none, Option.map_some, shG, List.map_cons, List.cons_append] <;> first | exact ih | exact ih.cons _
    · rw [if_neg hc, if_neg hc, if_neg hc]
      cases x <;> cases y <;> simp only [envG] <;> first | exact ih | exact (ih.cons _).trans List.perm_middle.symm
theorem envC.dm (h : envC σp σ) (vs : List Nat) (m : Nat) : envC (dmF vs m σp) σ := by
  have key : ∀ (σp : PSt) (m i : Nat) (p : PV), (dmF vs m σp)[i]? = some (some p) → ∃ q, σp[i]? = some (some q) := by
    intro σp
    induction σp with
    | nil => intro m i p h; simp [dmF] at h
    | cons x σp ih =>
      intro m i p h
      cases i with
      | zero =>
        simp only [dmF, List.getElem?_cons_zero] at h ⊢
        split at h
        · cases x with
          | none => cases h
          | some q => exact ⟨q, rfl⟩
        · exact ⟨p, h⟩
      | succ i => simp only [dmF, List.getElem?_cons_succ] at h ⊢; exact ih (m + 1) i p h
  have kl : ∀ (σp : PSt) (m : Nat), (dmF vs m σp).length = σp.length := by
    intro σp
    induction σp with
    | nil => intro m; rfl
    | cons x σp ih => intro m; simp [dmF, ih]
  refine ⟨by rw [kl]; exact h.len, fun i p e => ?_⟩
  obtain ⟨q, e'⟩ := key σp m i p e
  exact h.at_ i q e'
theorem env_mem : ∀ {σp : PSt} {σ : L2.St} {i : Nat} {p : PV} {v : V}, σp[i]? = some (some p) → σ[i]? = some (some v) → (p, v) ∈ envG σp σ := by
  intro σp σ i p v h1 h2
  exact (env_take h1 h2).mem_iff.mpr List.mem_cons_self
theorem Iv.look (h : Iv X M (envG σp σ ++ Γ) H) (hc : envC σp σ) (vs : List Nat) : ∃ M', Iv H M' (shG (envG (keepF vs 0 σp) σ)) H ∧ Av (shG (envG (keepF vs 0 σp) σ)) (keepF vs 0 σp) σ ∧
    (∀ p x H1, cln p = true → Iv H M' ((p, x) :: shG (envG (keepF vs 0 σp) σ)) H1 → Iv X M ((p, x) :: (envG σp σ ++ Γ)) H1) ∧
    (∀ Δ H1, Iv H M' (Δ ++ shG (envG (keepF vs 0 σp) σ)) H1 → Iv X M (Δ ++ (envG (dmF vs 0 σp) σ ++ Γ)) H1) ∧ (∀ Δ H1, Iv H M' Δ H1 → Iv X M (envG σp σ ++ Γ) H1) := by
  have h1 : Iv X M (envG (keepF vs 0 σp) σ ++ (envG (dropF vs 0 σp) σ ++ Γ)) H := h.perm (by
    rw [← List.append_assoc]; exact (env_split vs σp σ 0).append_right _)
  obtain ⟨O, S, ra, _⟩ := (Iv.left h1).ex
  obtain ⟨Sa, rs, _⟩ := ra.shr_
  refine ⟨fun b => b ∈ Sa, Iv.start rs, ⟨by rw [keepF_len]; exact hc.len, fun i p e => ?_⟩, fun p x H1 hp d => Iv.clean_back h d hp, fun Δ H1 d => ?_, fun Δ H1 d => h.keep d.same⟩
  · obtain ⟨e1, _⟩ := keepF_get vs σp 0 i p e
    obtain ⟨v, hv⟩ := hc.at_ i p e1
    exact ⟨v, hv, List.mem_map.mpr ⟨(p, v), env_mem e hv, rfl⟩⟩
  · have h2 := Iv.back (Δ := Δ ++ shG (envG (keepF vs 0 σp) σ)) (h1.shr_) rs d
    refine h2.perm ?_
    rw [List.append_assoc]
    refine List.Perm.append_left _ ?_
    rw [← List.append_assoc]
    exact ((env_dm vs σp σ 0).append_right _).symm

def vAt (H : Hp) : V → List Nat → V → Prop
  | v, [], w => v = w
  | .ref a, m :: π, w => ∃ vs u, (H a = some (.lst vs) ∨ H a = some (.tup vs)) ∧ vs[m]? = some u ∧ vAt H u π w
  | _, _ :: _, _ => False
theorem vAt.same (s : Same H H1) : ∀ {π : List Nat} {v w : V}, vAt H v π w → vAt H1 v π w
  | [], _, _, h => h
  | m :: π, .ref a, w, h => by
    obtain ⟨vs, u, h1, h2, h3⟩ := h
    exact ⟨vs, u, h1.imp (s a _) (s a _), h2, vAt.same s h3⟩
  | _ :: _, .non, _, h => h.elim
  | _ :: _, .bl _, _, h => h.elim
  | _ :: _, .int _, _, h => h.elim
  | _ :: _, .str _, _, h => h.elim
  | _ :: _, .byt _, _, h => h.elim
  | _ :: _, .flt _, _, h => h.elim
  | _ :: _, .ty _, _, h => h.elim
theorem vAt.snoc : ∀ {π : List Nat} {v : V} {a : Addr} {vs : List V} {m : Nat} {u : V}, vAt H v π (.ref a) → (H a = some (.lst vs) ∨ H a = some (.tup vs)) → vs[m]? = some u → vAt H v (π ++ [m]) u
  | [], v, a, vs, m, u, h, h1, h2 => by cases h; exact ⟨vs, u, h1, h2, rfl⟩
  | n :: π, .ref b, a, vs, m, u, h, h1, h2 => by
    obtain ⟨ws, z, g1, g2, g3⟩ := h
    exact ⟨ws, z, g1, g2, vAt.snoc g3 h1 h2⟩
  | _ :: _, .non, _, _, _, _, h, _, _ => h.elim
  | _ :: _, .bl _, _, _, _, _, h, _, _ => h.elim
  | _ :: _, .int _, _, _, _, _, h, _, _ => h.elim
  | _ :: _, .str _, _, _, _, _, h, _, _ => h.elim
  | _ :: _, .byt _, _, _, _, _, h, _, _ => h.elim
  | _ :: _, .flt _, _, _, _, _, h, _, _ => h.elim
  | _ :: _, .ty _, _, _, _, _, h, _, _ => h.elim
theorem zip_pick {xs : List PV} {vs : List V} {m : Nat} (h1 : xs[m]? = some p) (h2 : vs[m]? = some v) : ∃ Γ0, (xs.zip vs).Perm ((p, v) :: Γ0) ∧ ∀ q, ((xs.set m q).zip vs).Perm ((q, v) :: Γ0) := by
  induction xs generalizing vs m with
  | nil => simp at h1
  | cons x xs ih =>
    cases vs with
    | nil => simp at h2
    | cons w vs =>
      cases m with
      | zero =>
        simp at h1 h2
        subst h1; subst h2
        exact ⟨xs.zip vs, .refl _, fun q => .refl _⟩
      | succ m =>
        obtain ⟨Γ0, z1, z2⟩ := ih (vs := vs) (m := m) (by simpa using h1) (by simpa using h2)
        refine ⟨(x, w) :: Γ0, ?_, fun q => ?_⟩
        · exact (z1.cons _).trans (.swap _ _ _)
        · rw [List.set_cons_succ, List.zip_cons_cons]
          exact ((z2 q).cons _).trans (.swap _ _ _)
theorem upP_ok {f : PV → Option PV} {o : HO} {w : V} {Γe : List (PV × V)} (leaf : ∀ {X : Hp} {M : Addr → Prop} {Γ : List (PV × V)} {q q' : PV}, f q = some q' → Iv X M ((q, w) :: (Γe ++ Γ)) H → ∃ b, w = .ref b ∧ Iv X M ((q', w) :: Γ) (upd H b o)) :
    ∀ {π : List Nat} {p p' : PV} {v : V} {X : Hp} {M : Addr → Prop} {Γ : List (PV × V)}, upP f π p = some p' → vAt H v π w → Iv X M ((p, v) :: (Γe ++ Γ)) H → ∃ b, w = .ref b ∧ Iv X M ((p', v) :: Γ) (upd H b o)
  | [], p, p', v, X, M, Γ, h, hv, iv => by cases hv; exact leaf h iv
  | m :: π, .nod k t xs, p', v, X, M, Γ, h, hv, iv => by
    rw [upP] at h
    split at h
    · rename_i hk
      split at h
      · rename_i q hq
        cases hr : upP f π q with
        | none => rw [hr] at h; cases h
        | some q' =>
          rw [hr] at h
          cases h
          cases v <;> first | (exact hv.elim) | skip
          rename_i a
          obtain ⟨us, u, h1, h2, h3⟩ := hv
          rw [Bool.or_eq_true, Bool.and_eq_true] at hk
          rcases hk with ⟨hk, ht⟩ | hk
          · have e := Kd.isL_ok hk; subst e; subst ht
            obtain ⟨a', vs, e, ha, hl, hf, xa, iv2⟩ := iv.focus rfl
            cases e
            have e1 : us = vs := by
              rcases h1 with z | z
              · have := z.symm.trans ha; simpa [Kd.ho] using this
              · have := z.symm.trans ha; simp [Kd.ho] at this
            subst e1
            obtain ⟨Γ0, z1, z2⟩ := zip_pick hq h2
            have iv3 := iv2.perm (show (xs.zip us ++ (Γe ++ Γ)).Perm ((q, u) :: (Γe ++ (Γ0 ++ Γ))) from (z1.append_right _).trans (List.Perm.cons _ (swA _ _ _)))
            obtain ⟨b, e2, iv4⟩ := upP_ok leaf hr h3 iv3
            refine ⟨b, e2, Iv.unfocus (k := .lst) (vs := us) (iv4.perm ?_) xa rfl (by simp [hl]) rfl⟩
            exact ((z2 q').append_right Γ).symm
          · have e := Kd.isT_ok hk; subst e
            obtain ⟨a', vs, e, ha, hl, iv2⟩ := iv.focusT
            cases e
            have e1 : us = vs := by
              rcases h1 with z | z
              · have := z.symm.trans ha; simp at this
              · have := z.symm.trans ha; simpa using this
            subst e1
            have xa : ∀ o, X a = some o → o = .tup us := fun o ho => by
              have := iv.same a o ho
              rw [ha] at this
              exact (Option.some.inj this).symm
            obtain ⟨Γ0, z1, z2⟩ := zip_pick hq h2
            have iv3 := iv2.perm (show (xs.zip us ++ (Γe ++ Γ)).Perm ((q, u) :: (Γe ++ (Γ0 ++ Γ))) from (z1.append_right _).trans (List.Perm.cons _ (swA _ _ _)))
            obtain ⟨b, e2, iv4⟩ := upP_ok leaf hr h3 iv3
            refine ⟨b, e2, Iv.unfocusT (vs := us) (iv4.perm ?_) xa (by simp [hl])⟩
            exact ((z2 q').append_right Γ).symm
      · cases h
    · cases h
  | _ :: _, .non, _, _, _, _, _, h, _, _ => by simp [upP] at h
  | _ :: _, .bl _, _, _, _, _, _, h, _, _ => by simp [upP] at h
  | _ :: _, .int _, _, _, _, _, _, h, _, _ => by simp [upP] at h
  | _ :: _, .str _, _, _, _, _, _, h, _, _ => by simp [upP] at h
theorem upP_at {f : PV → Option PV} : ∀ {π : List Nat} {p p' : PV} {v : V} {X : Hp} {M : Addr → Prop} {Γ : List (PV × V)}, upP f π p = some p' → Iv X M ((p, v) :: Γ) H → ∃ w q q' X' M' Γ', vAt H v π w ∧ f q = some q' ∧ Iv X' M' ((q, w) :: Γ') H
  | [], p, p', v, X, M, Γ, h, iv => ⟨v, p, p', X, M, Γ, rfl, h, iv⟩
  | m :: π, .nod k t xs, p', v, X, M, Γ, h, iv => by
    rw [upP] at h
    split at h
    · rename_i hk
      split at h
      · rename_i q hq
        cases hr : upP f π q with
        | none => rw [hr] at h; cases h
        | some q' =>
          obtain ⟨a, vs, rfl, ha, hl, iv2⟩ := iv.open_
          obtain ⟨u, hu, hm⟩ := get_len hl hq
          obtain ⟨w, q1, q2, X', M', Γ', h1, h2, h3⟩ := upP_at hr (iv2.pick hm)
          refine ⟨w, q1, q2, X', M', Γ', ⟨vs, u, ?_, hu, h1⟩, h2, h3⟩
          rw [Bool.or_eq_true, Bool.and_eq_true] at hk
          rcases hk with ⟨hk, _⟩ | hk
          · have e := Kd.isL_ok hk; subst e; exact .inl ha
          · have e := Kd.isT_ok hk; subst e; exact .inr ha
      · cases h
    · cases h
  | _ :: _, .non, _, _, _, _, _, h, _ => by simp [upP] at h
  | _ :: _, .bl _, _, _, _, _, _, h, _ => by simp [upP] at h
  | _ :: _, .int _, _, _, _, _, _, h, _ => by simp [upP] at h
  | _ :: _, .str _, _, _, _, _, _, h, _ => by simp [upP] at h
theorem plc_ok {T : Tab} {n : Nat} {E : XK} : ∀ {o : Ex} {i : Nat} {π : List Nat} {v w : V} {Q : VK}, plc o = some (i, π) → σ[i]? = some (some v) → vAt H v π w → Q w H → wpE (cnOf T K n) E o σ H Q := by
  intro o
  have key : ∀ {o : Ex} {i : Nat} {π : List Nat}, plc o = some (i, π) → ∀ {π2 : List Nat} {v w : V} {Q : VK}, σ[i]? = some (some v) → vAt H v (π ++ π2) w → (∀ u, vAt H v π u → vAt H u π2 w → Q u H) → wpE (cnOf T K n) E o σ H Q := by
    intro o i π h
    induction o using plc.induct generalizing i π with
    | case1 j =>
      simp only [plc, Option.some.injEq, Prod.mk.injEq] at h
      obtain ⟨rfl, rfl⟩ := h
      intro π2 v w Q h1 h2 hq
      exact e_var h1 (hq v rfl h2)
    | case2 o j hj ih =>
      rw [plc, if_pos hj] at h
      cases ho : plc o with
      | none => rw [ho] at h; cases h
      | some g =>
        rw [ho] at h
        simp only [Option.map_some, Option.some.injEq, Prod.mk.injEq] at h
        obtain ⟨rfl, rfl⟩ := h
        intro π2 v w Q h1 h2 hq
        refine e_idx (ih ho (π2 := j.toNat :: π2) h1 (by simpa using h2) fun u g1 g2 => ?_)
        refine e_int ?_
        cases u <;> first | (exact g2.elim) | skip
        rename_i a
        obtain ⟨vs, u', z1, z2, z3⟩ := g2
        have hi : atI vs j = some u' := by
          have e : ((j.toNat : Nat) : Int) = j := by omega
          rw [← e]; exact atI_nat z2
        have r := hq u' (vAt.snoc g1 z1 z2) z3
        rcases z1 with z1 | z1
        · exact i_l z1 hi r
        · exact i_t z1 hi r
    | case3 o j hj => rw [plc, if_neg hj] at h; cases h
    | case4 o h1 h2 =>
      exfalso
      unfold plc at h
      split at h
      · exact h1 _ rfl
      · exact h2 _ _ rfl
      · cases h
  intro i π v w Q h h1 h2 hq
  exact key h (π2 := []) h1 (by simpa using h2) fun u g1 g2 => by cases g2; exact hq
end
end VC

namespace VC
open PySem PySem.Spec PyProof.Rows L2

def HXX (ca : Str → Value) (X : Hp) (M : Addr → Prop) (σp : PSt) (σ : L2.St) (Γ : List (PV × V)) (E : XK) {β : Type} (r : Rx β) : Prop :=
  ∀ x, r = .ex x → envC σp σ → ∀ vs cls d H1, XV ca x vs cls d H1 → Iv X M ((x.fs.map (·.2)).zip vs ++ (envG σp σ ++ Γ)) H1 → E cls d H1
section
variable {ca : Str → Value} {X : Hp} {M : Addr → Prop} {Γ Γ' Γ1 Γ2 Δ A : List (PV × V)} {H H1 : Hp} {p q : PV} {v w : V} {a b : Addr} {K : PySem.W.Frag} {σp σp1 σp' : PSt} {σ σ1 : L2.St} {E : XK} {β γ : Type} {r : Rx β}
theorem HXX.app (h : HXX ca X M σp σ Γ E r) : HXX ca X M σp σ (Δ ++ Γ) E r := fun x e hc vs cls d H1 hv iv => h x e hc vs cls d H1 hv (by
  refine iv.sb ⟨Δ, ?_⟩
  simp only [List.append_assoc]
  exact (List.perm_append_comm.append_left _).append_left _)
theorem HXX.cons (h : HXX ca X M σp σ Γ E r) : HXX ca X M σp σ ((p, v) :: Γ) E r := HXX.app (Δ := [(p, v)]) h
theorem HXX.ok {a : β} : HXX ca X M σp σ Γ E (.ok a) := fun _ e => by cases e
theorem HXX.cast {x : PX} (h : HXX ca X M σp σ Γ E (.ex x : Rx β)) : HXX ca X M σp σ Γ E (.ex x : Rx γ) := fun y e => by cases e; exact h x rfl
theorem bnX_some {α β : Type} {m : Option (Rx α × PSt)} {f : α → PSt → Option (Rx β × PSt)} {r : Rx β} {σ' : PSt} (h : bnX m f = some (r, σ')) : (∃ x, m = some (.ex x, σ') ∧ r = .ex x) ∨ ∃ a σ1, m = some (.ok a, σ1) ∧ f a σ1 = some (r, σ') := by
  unfold bnX at h
  split at h
  · exact .inr ⟨_, _, rfl, h⟩
  · cases h; exact .inl ⟨_, rfl, rfl⟩
  · cases h
theorem Iv.toB (h : Iv X M ((p, v) :: (Δ ++ Γ)) H) : Iv X M (Δ ++ (p, v) :: Γ) H := h.perm List.perm_middle.symm
theorem Iv.toF (h : Iv X M (Δ ++ (p, v) :: Γ) H) : Iv X M ((p, v) :: (Δ ++ Γ)) H := h.perm List.perm_middle
theorem Iv.toBs (h : Iv X M (A ++ (Δ ++ Γ)) H) : Iv X M (Δ ++ (A ++ Γ)) H := h.perm (swA _ _ _)
end

section
variable {ca : Str → Value} {c : PCn} {T : Tab} {K : PySem.W.Frag} {n : Nat}
def XEs (ca : Str → Value) (c : PCn) (T : Tab) (K : PySem.W.Frag) (n : Nat) (e : Ex) : Prop :=
  ∀ ⦃X : Hp⦄ ⦃M : Addr → Prop⦄ ⦃Γ : List (PV × V)⦄ ⦃H : Hp⦄ ⦃σp σp' : PSt⦄ ⦃σ : L2.St⦄ ⦃r : Rx PV⦄ ⦃Q : VK⦄ ⦃E : XK⦄, evX c e σp = some (r, σp') → envC σp σ → Iv X M (envG σp σ ++ Γ) H → HXX ca X M σp' σ Γ E r →
    (∀ p, r = .ok p → ∀ x H1, envC σp' σ → Iv X M ((p, x) :: (envG σp' σ ++ Γ)) H1 → Q x H1) → wpE (cnOf T K n) E e σ H Q
theorem xB {a : Ex} (ih : XEs ca c T K n a) {β : Type} {X : Hp} {M : Addr → Prop} {Γ : List (PV × V)} {H : Hp} {σp σp' : PSt} {σ : L2.St} {f : PV → PSt → Option (Rx β × PSt)} {r : Rx β} {Q : VK} {E : XK} (h : bnX (evX c a σp) f = some (r, σp')) (hc : envC σp σ) (iv : Iv X M (envG σp σ ++ Γ) H) (hx : HXX ca X M σp' σ Γ E r)
    (hk : ∀ p x σ1 H1, f p σ1 = some (r, σp') → envC σ1 σ → Iv X M ((p, x) :: (envG σ1 σ ++ Γ)) H1 → Q x H1) : wpE (cnOf T K n) E a σ H Q := by
  rcases bnX_some h with ⟨x, h1, rfl⟩ | ⟨p, σ1, h1, h2⟩
  · exact ih h1 hc iv hx.cast fun p e => by cases e
  · exact ih h1 hc iv HXX.ok fun p' e x H1 hc1 iv1 => by cases e; exact hk p x σ1 H1 h2 hc1 iv1
def XAs (ca : Str → Value) (c : PCn) (T : Tab) (K : PySem.W.Frag) (n : Nat) (es : Exs) : Prop :=
  ∀ ⦃X : Hp⦄ ⦃M : Addr → Prop⦄ ⦃Γ : List (PV × V)⦄ ⦃H : Hp⦄ ⦃σp σp' : PSt⦄ ⦃σ : L2.St⦄ ⦃r : Rx (List PV)⦄ ⦃Q : List V → Hp → Prop⦄ ⦃E : XK⦄, evXs c es σp = some (r, σp') → envC σp σ → Iv X M (envG σp σ ++ Γ) H → HXX ca X M σp' σ Γ E r →
    (∀ ps, r = .ok ps → ∀ xs H1, xs.length = ps.length → ps.length = es.len → envC σp' σ → Iv X M (ps.zip xs ++ (envG σp' σ ++ Γ)) H1 → Q xs H1) → wpEs (cnOf T K n) E es σ H Q
theorem xBs {es : Exs} (ih : XAs ca c T K n es) {β : Type} {X : Hp} {M : Addr → Prop} {Γ : List (PV × V)} {H : Hp} {σp σp' : PSt} {σ : L2.St} {f : List PV → PSt → Option (Rx β × PSt)} {r : Rx β} {Q : List V → Hp → Prop} {E : XK} (h : bnX (evXs c es σp) f = some (r, σp')) (hc : envC σp σ) (iv : Iv X M (envG σp σ ++ Γ) H) (hx : HXX ca X M σp' σ Γ E r)
    (hk : ∀ ps xs σ1 H1, f ps σ1 = some (r, σp') → xs.length = ps.length → ps.length = es.len → envC σ1 σ → Iv X M (ps.zip xs ++ (envG σ1 σ ++ Γ)) H1 → Q xs H1) : wpEs (cnOf T K n) E es σ H Q := by
  rcases bnX_some h with ⟨x, h1, rfl⟩ | ⟨p, σ1, h1, h2⟩
  · exact ih h1 hc iv hx.cast fun p e => by cases e
  · exact ih h1 hc iv HXX.ok fun p' e x H1 l1 l2 hc1 iv1 => by cases e; exact hk p x σ1 H1 h2 l1 l2 hc1 iv1
def XTs (ca : Str → Value) (c : PCn) (T : Tab) (K : PySem.W.Frag) (n : Nat) (t : Ts) : Prop :=
  ∀ ⦃X : Hp⦄ ⦃M : Addr → Prop⦄ ⦃Γ : List (PV × V)⦄ ⦃H : Hp⦄ ⦃σp σp' : PSt⦄ ⦃σ : L2.St⦄ ⦃r : Rx Bool⦄ ⦃Q : Bool → Hp → Prop⦄ ⦃E : XK⦄, evXT c t σp = some (r, σp') → envC σp σ → Iv X M (envG σp σ ++ Γ) H → HXX ca X M σp' σ Γ E r →
    (∀ b, r = .ok b → ∀ H1, envC σp' σ → Iv X M (envG σp' σ ++ Γ) H1 → Q b H1) → wpT (cnOf T K n) E t σ H Q
theorem xBt {t : Ts} (ih : XTs ca c T K n t) {β : Type} {X : Hp} {M : Addr → Prop} {Γ : List (PV × V)} {H : Hp} {σp σp' : PSt} {σ : L2.St} {f : Bool → PSt → Option (Rx β × PSt)} {r : Rx β} {Q : Bool → Hp → Prop} {E : XK} (h : bnX (evXT c t σp) f = some (r, σp')) (hc : envC σp σ) (iv : Iv X M (envG σp σ ++ Γ) H) (hx : HXX ca X M σp' σ Γ E r)
    (hk : ∀ b σ1 H1, f b σ1 = some (r, σp') → envC σ1 σ → Iv X M (envG σ1 σ ++ Γ) H1 → Q b H1) : wpT (cnOf T K n) E t σ H Q := by
  rcases bnX_some h with ⟨x, h1, rfl⟩ | ⟨p, σ1, h1, h2⟩
  · exact ih h1 hc iv hx.cast fun p e => by cases e
  · exact ih h1 hc iv HXX.ok fun p' e H1 hc1 iv1 => by cases e; exact hk p σ1 H1 h2 hc1 iv1

theorem xU (g : GOk ca c T K n) {e : Ex} {vs : List Nat} {X : Hp} {M : Addr → Prop} {Γ : List (PV × V)} {H : Hp} {σp σp' : PSt} {σ : L2.St} {r : Rx PV} {Q : VK} {E : XK} (h : comm vs (evP c e (keepF vs 0 σp)) σp = some (r, σp')) (hc : envC σp σ) (iv : Iv X M (envG σp σ ++ Γ) H) (hx : HXX ca X M σp' σ Γ E r)
    (hk : ∀ p, r = .ok p → ∀ x H1, Same H H1 → envC σp' σ → Iv X M ((p, x) :: (envG σp' σ ++ Γ)) H1 → Q x H1) : wpE (cnOf T K n) E e σ H Q := by
  obtain ⟨M', iv1, av, cl, dm, _⟩ := iv.look hc vs
  unfold comm at h
  split at h
  · rename_i p hp
    cases h
    refine pE g e hp av iv1 HX.ok fun p' e' x H1 iv2 => ?_
    cases e'
    by_cases hcl : cln p = true
    · rw [if_pos hcl] at hk
      exact hk p rfl x H1 iv2.same hc (cl p x H1 hcl iv2)
    · rw [if_neg hcl] at hk
      exact hk p rfl x H1 iv2.same (hc.dm vs 0) (dm [(p, x)] H1 iv2)
  · rename_i x hp
    cases h
    refine pE g e hp av iv1 ?_ fun p' e' => by cases e'
    intro x' e' ws cls d H1 hv iv2
    cases e'
    exact hx x rfl (hc.dm vs 0) ws cls d H1 hv (dm _ H1 iv2)
  · cases h
theorem xJ (g : GOk ca c T K n) {i : Ex} {j : Int} {X : Hp} {M : Addr → Prop} {Γ : List (PV × V)} {H : Hp} {σp : PSt} {σ : L2.St} {Q : VK} {E : XK} (h : evJ c i σp = some j) (hc : envC σp σ) (iv : Iv X M (envG σp σ ++ Γ) H)
    (hk : ∀ H1, Same H H1 → Iv X M (envG σp σ ++ Γ) H1 → Q (.int j) H1) : wpE (cnOf T K n) E i σ H Q := by
  unfold evJ at h
  split at h
  · rename_i vs e
    obtain ⟨M', iv1, av, cl, dm, kp⟩ := iv.look hc vs
    split at h
    · rename_i j' hp
      cases h
      show wpE (cnOf T K n) E e σ H Q
      refine pE g e hp av iv1 HX.ok fun p' e' x H1 iv2 => ?_
      cases e'
      cases iv2.int_
      exact hk H1 iv2.same (kp _ _ iv2)
    · cases h
  · cases h
    exact e_int (hk H (Same.refl H) iv)
  · cases h

def argR : List (Option Nat × PV) → List V → List (PV × V)
  | (none, p) :: as, u :: us => (p, u) :: argR as us
  | (some _, _) :: as, _ :: us => argR as us
  | _, _ => []
def argV (σ : L2.St) : List (Option Nat × PV) → List V → Prop
  | (none, _) :: as, _ :: us => argV σ as us
  | (some i, _) :: as, u :: us => σ[i]? = some (some u) ∧ argV σ as us
  | [], [] => True
  | _, _ => False
theorem take_ok {X : Hp} {M : Addr → Prop} {H : Hp} {σ : L2.St} : ∀ {fl : List Bool} {as : List (Option Nat × PV)} {us : List V} {σp σp1 : PSt} {ps : List PV} {Γ : List (PV × V)}, ioTake fl as σp = some (ps, σp1) → argV σ as us → envC σp σ → Iv X M (argR as us ++ (envG σp σ ++ Γ)) H →
    us.length = ps.length ∧ envC σp1 σ ∧ Iv X M (ps.zip us ++ (envG σp1 σ ++ Γ)) H
  | fl, [], [], σp, σp1, ps, Γ, h, hv, hc, iv => by rw [ioTake] at h; cases h; exact ⟨rfl, hc, iv⟩
  | _, [], _ :: _, _, _, _, _, _, hv, _, _ => hv.elim
  | _, (none, _) :: _, [], _, _, _, _, _, hv, _, _ => hv.elim
  | _, (some _, _) :: _, [], _, _, _, _, _, hv, _, _ => hv.elim
  | fl, (none, p) :: as, u :: us, σp, σp1, ps, Γ, h, hv, hc, iv => by
    rw [ioTake] at h
    split at h
    · rename_i ps' σ' h1
      cases h
      have iv0 : Iv X M ((p, u) :: (argR as us ++ (envG σp σ ++ Γ))) H := iv
      have ivp : ∀ p', p' = p ∨ p' = sh p → Iv X M ((p', u) :: (argR as us ++ (envG σp σ ++ Γ))) H := by
        intro p' e
        rcases e with rfl | rfl
        · exact iv0
        · exact iv0.sh1
      have hp' := tkP_or fl p
      generalize tkP fl p = p' at hp' ⊢
      have iv1 : Iv X M (argR as us ++ (envG σp σ ++ ((p', u) :: Γ))) H := by
        have z := ivp p' hp'
        refine z.perm ?_
        refine List.perm_middle.symm.trans (List.Perm.append_left _ ?_)
        exact List.perm_middle.symm
      obtain ⟨l, c1, iv2⟩ := take_ok (us := us) h1 hv hc iv1
      refine ⟨by simp [l], c1, ?_⟩
      refine iv2.perm ?_
      rw [List.zip_cons_cons]
      refine (List.Perm.append_left _ List.perm_middle).trans ?_
      exact List.perm_middle
    · cases h
  | fl, (some i, z) :: as, u :: us, σp, σp1, ps, Γ, h, hv, hc, iv => by
    rw [ioTake] at h
    split at h
    · rename_i p hp
      split at h
      · rename_i ps' σ' h1
        cases h
        obtain ⟨hv1, hv2⟩ := hv
        have iv1 : Iv X M (argR as us ++ (envG (σp.set i none) σ ++ ((p, u) :: Γ))) H := by
          have z := Iv.takeE (iv.toBs (A := argR as us)) hp hv1
          refine z.perm ?_
          refine (List.Perm.cons _ (swA _ _ _)).trans ?_
          refine List.perm_middle.symm.trans (List.Perm.append_left _ ?_)
          exact List.perm_middle.symm
        obtain ⟨l, c1, iv2⟩ := take_ok (us := us) h1 hv2 (hc.killL i) iv1
        refine ⟨by simp [l], c1, ?_⟩
        refine iv2.perm ?_
        rw [List.zip_cons_cons]
        refine (List.Perm.append_left _ List.perm_middle).trans ?_
        exact List.perm_middle
      · cases h
    · cases h
theorem put_ok {X : Hp} {M : Addr → Prop} {H : Hp} {σ : L2.St} : ∀ {as : List (Option Nat × PV)} {us : List V} {fs : List (Option PV)} {σp : PSt} {Γ : List (PV × V)}, argV σ as us → envC σp σ → Iv X M (envG fs (us.map some) ++ (envG σp σ ++ Γ)) H →
    envC (ioPut as fs σp) σ ∧ Iv X M (envG (ioPut as fs σp) σ ++ Γ) H
  | [], us, fs, σp, Γ, hv, hc, iv => by simp only [ioPut]; exact ⟨hc, iv.right⟩
  | (none, _) :: _, [], _, _, _, hv, _, _ => hv.elim
  | (some _, _) :: _, [], _, _, _, hv, _, _ => hv.elim
  | (none, _) :: as, u :: us, [], σp, Γ, hv, hc, iv => by simp only [ioPut]; exact ⟨hc, iv.right⟩
  | (some _, _) :: as, u :: us, [], σp, Γ, hv, hc, iv => by simp only [ioPut]; exact ⟨hc, iv.right⟩
  | (none, z) :: as, u :: us, f :: fs, σp, Γ, hv, hc, iv => by
    simp only [ioPut]
    refine put_ok (us := us) hv hc ?_
    cases f with
    | none => simpa only [List.map_cons, envG] using iv
    | some p =>
      have iv' : Iv X M ((p, u) :: (envG fs (us.map some) ++ (envG σp σ ++ Γ))) H := by simpa only [List.map_cons, envG, List.cons_append] using iv
      exact iv'.tail
  | (some i, z) :: as, u :: us, f :: fs, σp, Γ, hv, hc, iv => by
    simp only [ioPut]
    obtain ⟨hv1, hv2⟩ := hv
    cases f with
    | none =>
      refine put_ok (us := us) hv2 (hc.killL i) ?_
      have iv' : Iv X M (envG fs (us.map some) ++ (envG σp σ ++ Γ)) H := by simpa only [List.map_cons, envG] using iv
      exact (iv'.toBs.killE i).toBs
    | some p =>
      refine put_ok (us := us) hv2 (hc.setL hv1) ?_
      have iv' : Iv X M ((p, u) :: (envG fs (us.map some) ++ (envG σp σ ++ Γ))) H := by simpa only [List.map_cons, envG, List.cons_append] using iv
      have z := (iv'.perm (List.Perm.cons _ (swA _ _ _)))
      have z2 : Iv X M (envG σp σ ++ ((p, u) :: (envG fs (us.map some) ++ Γ))) H := z.toB
      have z3 := (z2.killE i).toF
      exact (Iv.putE z3 hv1).toBs
theorem callX (g : GOk ca c T K n) {f : Str} {as : List (Option Nat × PV)} {us : List V} {σp σp1 : PSt} {σ : L2.St} {ps : List PV} {r : Rx PV} {fin : List (Option PV)} {X : Hp} {M : Addr → Prop} {Γ : List (PV × V)} {H : Hp} {Q : VK} {E : XK} {fl : List Bool} (ht : ioTake fl as σp = some (ps, σp1)) (hG : c.G f ps = some (r, fin)) (hv : argV σ as us) (hc : envC σp σ)
    (iv : Iv X M (argR as us ++ (envG σp σ ++ Γ)) H) (hx : HXX ca X M (ioPut as fin σp1) σ Γ E r) (hk : ∀ p, r = .ok p → ∀ x H1, envC (ioPut as fin σp1) σ → Iv X M ((p, x) :: (envG (ioPut as fin σp1) σ ++ Γ)) H1 → Q x H1) : SPn T K n f us H Q E := by
  obtain ⟨l, hc1, iv1⟩ := take_ok ht hv hc iv
  obtain ⟨X', M', ivA, back⟩ := iv1.frame
  refine g.fn hG l ivA ?_ ?_
  · intro p e x H1 d
    have z := back _ _ d
    have z1 : Iv X M (envG fin (us.map some) ++ (envG σp1 σ ++ ((p, x) :: Γ))) H1 := z.perm (by
      refine List.perm_middle.symm.trans (List.Perm.append_left _ ?_)
      exact List.perm_middle.symm)
    obtain ⟨c2, z2⟩ := put_ok hv hc1 z1
    exact hk p e x H1 c2 z2.toF
  · intro x e ws cls d H1 hxv dv
    have z := back _ _ dv
    rw [List.append_assoc] at z
    have z1 : Iv X M (envG fin (us.map some) ++ (envG σp1 σ ++ ((x.fs.map (·.2)).zip ws ++ Γ))) H1 := z.perm (by
      refine (swA _ _ _).trans (List.Perm.append_left _ ?_)
      exact swA _ _ _)
    obtain ⟨c2, z2⟩ := put_ok hv hc1 z1
    exact hx x e c2 ws cls d H1 hxv z2.toBs

theorem vAt_det {H : Hp} : ∀ {π : List Nat} {v w w' : V}, vAt H v π w → vAt H v π w' → w = w'
  | [], _, _, _, h, h' => by cases h; exact h'
  | m :: π, .ref a, w, w', h, h' => by
    obtain ⟨vs, u, h1, h2, h3⟩ := h
    obtain ⟨ws, z, g1, g2, g3⟩ := h'
    have e : vs = ws := by
      rcases h1 with h1 | h1 <;> rcases g1 with g1 | g1
      · have := h1.symm.trans g1; simpa using this
      · have := h1.symm.trans g1; simp at this
      · have := h1.symm.trans g1; simp at this
      · have := h1.symm.trans g1; simpa using this
    subst e
    rw [h2] at g2
    cases g2
    exact vAt_det h3 g3
  | _ :: _, .non, _, _, h, _ => h.elim
  | _ :: _, .bl _, _, _, h, _ => h.elim
  | _ :: _, .int _, _, _, h, _ => h.elim
  | _ :: _, .str _, _, _, h, _ => h.elim
  | _ :: _, .byt _, _, _, h, _ => h.elim
  | _ :: _, .flt _, _, _, h, _ => h.elim
  | _ :: _, .ty _, _, _, h, _ => h.elim
theorem getP_at {H : Hp} : ∀ {π : List Nat} {p q : PV} {v : V} {X : Hp} {M : Addr → Prop} {Γ : List (PV × V)}, getP π p = some q → Iv X M ((p, v) :: Γ) H → ∃ w Γ', vAt H v π w ∧ Iv X M ((q, w) :: Γ') H
  | [], p, q, v, X, M, Γ, h, iv => by cases h; exact ⟨v, Γ, rfl, iv⟩
  | m :: π, .nod k t xs, q, v, X, M, Γ, h, iv => by
    rw [getP] at h
    split at h
    · rename_i hk
      split at h
      · rename_i q1 hq
        obtain ⟨a, vs, rfl, ha, hl, iv2⟩ := iv.open_
        obtain ⟨u, hu, hm⟩ := get_len hl hq
        obtain ⟨w, Γ', h1, h2⟩ := getP_at h (iv2.pick hm)
        refine ⟨w, Γ', ⟨vs, u, ?_, hu, h1⟩, h2⟩
        rw [Bool.or_eq_true] at hk
        rcases hk with hk | hk
        · have e := Kd.isL_ok hk; subst e; exact .inl ha
        · have e := Kd.isT_ok hk; subst e; exact .inr ha
      · cases h
    · cases h
  | _ :: _, .non, _, _, _, _, _, h, _ => by simp [getP] at h
  | _ :: _, .bl _, _, _, _, _, _, h, _ => by simp [getP] at h
  | _ :: _, .int _, _, _, _, _, _, h, _ => by simp [getP] at h
  | _ :: _, .str _, _, _, _, _, _, h, _ => by simp [getP] at h
theorem put_at {f : PV → Option PV} {π : List Nat} {p p' : PV} {v : V} {i : Nat} {X : Hp} {M : Addr → Prop} {Γ Γe : List (PV × V)} {H : Hp} {σp : PSt} {σ : L2.St} (h : upP f π p = some p') (hp : σp[i]? = some (some p)) (hv : σ[i]? = some (some v)) (iv : Iv X M (Γe ++ (envG σp σ ++ Γ)) H)
    (hf : ∀ q q', f q = some q' → ∃ xs, q = LL true xs) {R : Addr → List V → Prop}
    (leaf : ∀ b vs, H b = some (.lst vs) → vAt H v π (.ref b) → (∀ ws : List V, (∀ xs, vs.length = xs.length → (∃ X' M' Γ', Iv X' M' (xs.zip vs ++ Γ') H) → ∀ q', f (LL true xs) = some q' → ∃ ys, q' = LL true ys ∧ ws.length = ys.length ∧ ∃ Γ0, (ys.zip ws ++ Γ0).Perm (xs.zip vs ++ Γe)) →
      Iv X M (envG (σp.set i (some p')) σ ++ Γ) (upd H b (.lst ws))) → R b vs) : ∃ b vs, R b vs := by
  have iv1 : Iv X M ((p, v) :: (Γe ++ (envG (σp.set i none) σ ++ Γ))) H := by
    have z := Iv.takeE iv.toBs hp hv
    exact z.perm (List.Perm.cons _ (swA _ _ _))
  obtain ⟨w, q, q', X', M', Γ', h1, h2, h3⟩ := upP_at h iv1
  obtain ⟨xs, rfl⟩ := hf q q' h2
  obtain ⟨b, vs, rfl, hb, hl, _⟩ := h3.open_
  refine ⟨b, vs, leaf b vs hb h1 fun ws hw => ?_⟩
  obtain ⟨b', e, iv2⟩ := upP_ok (f := f) (o := .lst ws) (w := .ref b) (Γe := Γe) (H := H) (fun {X M Γ q q'} hq ivq => by
    obtain ⟨xs, rfl⟩ := hf q q' hq
    obtain ⟨b2, vs2, e, hb2, hl2, ivo⟩ := ivq.open_
    cases e
    have e2 : vs2 = vs := by
      have := hb2.symm.trans hb
      simpa [Kd.ho] using this
    subst e2
    obtain ⟨ys, rfl, l3, Γ0, hp⟩ := hw xs hl2 ⟨_, _, _, ivo⟩ q' hq
    refine ⟨b, rfl, ?_⟩
    refine Iv.write (k := .lst) (k' := .lst) (ys := ys) (ws := ws) (Γ0 := Γ0) ivq rfl hb2 hl2 ?_ l3 rfl rfl
    refine List.Perm.trans ?_ ((hp.append_right Γ).trans (by rw [List.append_assoc]))
    rw [List.append_assoc, List.append_assoc]
    exact List.Perm.append_left _ List.perm_append_comm) h h1 iv1
  cases e
  exact Iv.putE iv2 hv
end
end VC

namespace VC
open PySem PySem.Spec PyProof.Rows L2

def itP : Itm → List PV
  | .one p => [p]
  | .two p q => [p, q]
def SrcV (s : Src) (i : Nat) : Itm → List V → Prop
  | .one p, ws => ∃ v, ws = [v] ∧ ((∃ a xs, (s = .lst a xs ∨ s = .tup a xs) ∧ xs[i]? = some v) ∨ ∃ lo c n, s = .rng lo c n ∧ v = .int (lo + (i : Nat) * c))
  | .two p q, ws => ∃ v w, ws = [v, w] ∧ ((∃ a xs, s = .enm a xs ∧ v = .int (i : Nat) ∧ xs[i]? = some w) ∨ ∃ a b xs ys, s = .zip a b xs ys ∧ xs[i]? = some v ∧ ys[i]? = some w)
def itG : List Itm → List (List V) → List (PV × V)
  | i :: is, w :: ws => (itP i).zip w ++ itG is ws
  | _, _ => []
structure SrcM (K : PySem.W.Frag) (X : Hp) (s : Src) (its : List Itm) (wss : List (List V)) : Prop where
  len : s.len = its.length
  wl : wss.length = its.length
  ok : ∀ H, Same X H → s.ok K H
  at_ : ∀ (i : Nat) (itm : Itm) (ws : List V), its[i]? = some itm → wss[i]? = some ws → SrcV s i itm ws

section
variable {ca : Str → Value} {X : Hp} {M : Addr → Prop} {Γ Γ' Γ1 Γ2 Δ A : List (PV × V)} {H H1 : Hp} {p q : PV} {v w : V} {a b : Addr} {K : PySem.W.Frag} {σp σp1 σp' : PSt} {σ σ1 : L2.St} {E : XK} {β γ : Type}
theorem setAll_out {lk : List Nat} {j : Nat} (hj : j ∈ lk) : ∀ {js : List Nat} {ws : List V} {σ : L2.St}, js.any (lk.contains ·) = false → (setAll σ js ws)[j]? = σ[j]?
  | [], _, _, _ => by simp only [VC.setAll]
  | _ :: _, [], _, _ => by simp only [VC.setAll]
  | i :: js, w :: ws, σ, h => by
    simp only [VC.setAll]
    rw [List.any_cons, Bool.or_eq_false_iff] at h
    rw [setAll_out hj h.2, List.getElem?_set, if_neg]
    intro e
    subst e
    have := h.1
    simp [hj] at this
structure TgD (tg : Tg) (σ σ1 : L2.St) : Prop where
  len : σ1.length = σ.length
  out : ∀ lk : List Nat, tgOk lk tg = true → ∀ j ∈ lk, σ1[j]? = σ[j]?
  wp : ∀ vs : List Nat, tgIn vs tg = true → wipe σ1 vs = wipe σ vs
theorem setAll_len : ∀ {js : List Nat} {ws : List V} {σ : L2.St}, (setAll σ js ws).length = σ.length
  | [], _, _ => by simp only [VC.setAll]
  | _ :: _, [], _ => by simp only [VC.setAll]
  | j :: js, w :: ws, σ => by simp only [VC.setAll]; rw [setAll_len, List.length_set]
theorem TgD.name {j : Nat} {y : Option V} : TgD (.name j) σ (σ.set j y) := by
  refine ⟨by simp, fun lk h i hi => ?_, fun vs h => wipe_set (by simpa [tgIn] using h)⟩
  rw [List.getElem?_set, if_neg]
  intro e
  subst e
  simp [tgOk, hi] at h
theorem TgD.tup {js : List Nat} {ws : List V} : TgD (.tup js) σ (setAll σ js ws) := by
  refine ⟨setAll_len, fun lk h i hi => setAll_out hi (by simpa [tgOk] using h), fun vs h => wipe_setAll (by simpa [tgIn] using h)⟩
theorem TgD.two {j k : Nat} : TgD (.tup [j, k]) σ ((σ.set j (some v)).set k (some w)) := by
  have := TgD.tup (σ := σ) (js := [j, k]) (ws := [v, w])
  simpa only [VC.setAll] using this
theorem srcM_step {s : Src} {its : List Itm} {wss : List (List V)} {itm : Itm} {ws : List V} {i : Nat} {tg : Tg} {R : L2.St → Hp → Prop} (h : SrcM K X s its wss) (hi : its[i]? = some itm) (hw : wss[i]? = some ws) (hb : bndT tg itm σp = some σp1) (hc : envC σp σ) (iv : Iv X M ((itP itm).zip ws ++ (envG σp σ ++ Γ)) H)
    (hR : ∀ σ1 H1, envC σp1 σ1 → TgD tg σ σ1 → Iv X M (envG σp1 σ1 ++ Γ) H1 → R σ1 H1) : s.step K tg i σ H R := by
  have it := h.at_ i itm ws hi hw
  unfold bndT at hb
  split at hb
  · rename_i j p
    cases hb
    obtain ⟨v, rfl, hs⟩ := it
    have q := hR (σ.set j (some v)) H (hc.set j) .name (Iv.setE iv j)
    rcases hs with ⟨a, xs, rfl | rfl, hx⟩ | ⟨lo, c, n, rfl, rfl⟩
    · exact ⟨v, hx, q⟩
    · exact ⟨v, hx, q⟩
    · exact q
  · rename_i js t ys
    split at hb
    · rename_i hl
      cases hb
      obtain ⟨v, rfl, hs⟩ := it
      obtain ⟨b, us, rfl, hb, hm, iv'⟩ := Iv.open_ iv
      obtain ⟨z1, z2⟩ := Iv.setsE (js := js) iv' hm hc
      have q := hR (setAll σ js us) H z2 .tup z1
      rcases hs with ⟨a, xs, rfl | rfl, hx⟩ | ⟨lo, c, n, rfl, z⟩
      · refine ⟨b, hx, ?_⟩
        show onT K H b _
        rw [onT_of hb]
        exact ⟨by rw [hm]; exact eq_of_beq hl, q⟩
      · refine ⟨b, hx, ?_⟩
        show onT K H b _
        rw [onT_of hb]
        exact ⟨by rw [hm]; exact eq_of_beq hl, q⟩
      · cases z
    · cases hb
  · rename_i j k p q
    cases hb
    obtain ⟨v, w, rfl, hs⟩ := it
    have iv1 : Iv X M ((p, v) :: (envG σp σ ++ ((q, w) :: Γ))) H := by
      refine Iv.perm iv ?_
      show ((p, v) :: (q, w) :: (envG σp σ ++ Γ)).Perm _
      exact List.Perm.cons _ List.perm_middle.symm
    have iv2 := (iv1.setE j).toF.setE k
    have q := fun H1 (s : Same H H1) => hR ((σ.set j (some v)).set k (some w)) H1 ((hc.set j).set k) .two (iv2.keep s)
    rcases hs with ⟨a, xs, rfl, rfl, hx⟩ | ⟨a, b, xs, ys, rfl, hx, hy⟩
    · exact ⟨w, hx, q⟩
    · exact ⟨v, w, hx, hy, q⟩
  · cases hb
theorem itG_one : ∀ {xs : List PV} {vs : List V}, itG (xs.map .one) (vs.map fun v => [v]) = xs.zip vs
  | [], _ => by simp [itG]
  | _ :: _, [] => by simp [itG]
  | x :: xs, v :: vs => by simp only [List.map_cons, itG, itP, List.zip_cons_cons]; rw [itG_one]; rfl
theorem itG_drop : ∀ {its : List Itm} {wss : List (List V)} {i : Nat} {itm : Itm} {ws : List V}, its[i]? = some itm → wss[i]? = some ws → itG (its.drop i) (wss.drop i) = (itP itm).zip ws ++ itG (its.drop (i + 1)) (wss.drop (i + 1)) := by
  intro its wss i itm ws h1 h2
  obtain ⟨l1, e1⟩ := List.getElem?_eq_some_iff.mp h1
  obtain ⟨l2, e2⟩ := List.getElem?_eq_some_iff.mp h2
  rw [List.drop_eq_getElem_cons l1, List.drop_eq_getElem_cons l2, e1, e2]
  rfl
theorem dropF_get (vs : List Nat) : ∀ (σ : PSt) (m i : Nat) (p : PV), (dropF vs m σ)[i]? = some (some p) → σ[i]? = some (some p) ∧ vs.contains (m + i) = false
  | [], m, i, p, h => by simp [dropF] at h
  | x :: σ, m, 0, p, h => by
    simp only [dropF, List.getElem?_cons_zero] at h ⊢
    split at h
    · cases h
    · rename_i hc; exact ⟨h, by simpa using hc⟩
  | x :: σ, m, i + 1, p, h => by
    simp only [dropF, List.getElem?_cons_succ] at h ⊢
    obtain ⟨h1, h2⟩ := dropF_get vs σ (m + 1) i p h
    exact ⟨h1, by rw [← h2]; congr 1; omega⟩
theorem dropF_len (vs : List Nat) : ∀ (σ : PSt) (m : Nat), (dropF vs m σ).length = σ.length
  | [], m => rfl
  | x :: σ, m => by simp [dropF, dropF_len vs σ]
theorem mrgF_len (vs : List Nat) : ∀ (σ τ : PSt) (m : Nat), σ.length = τ.length → (mrgF vs m σ τ).length = σ.length
  | [], _, m, _ => by simp [mrgF]
  | _ :: _, [], m, h => by cases h
  | x :: σ, y :: τ, m, h => by simp [mrgF, mrgF_len vs σ τ (m + 1) (by simpa using h)]
theorem env_drop (vs : List Nat) : ∀ (σp : PSt) (σ : L2.St) (m : Nat), Sb (envG (dropF vs m σp) σ) (envG σp σ)
  | [], _, m => by simp [dropF, envG]; exact .refl
  | _ :: _, [], m => by simp [dropF, envG]; exact .refl
  | x :: σp, y :: σ, m => by
    have ih := env_drop vs σp σ (m + 1)
    simp only [dropF]
    split
    · cases x <;> cases y <;> simp only [envG] <;> first | exact ih | exact ih.skip
    · cases x <;> cases y <;> simp only [envG] <;> first | exact ih | exact ih.cons
theorem env_mrg (vs : List Nat) : ∀ (σp τp : PSt) (σ : L2.St) (m : Nat), σp.length = τp.length → (envG (mrgF vs m σp τp) σ).Perm (envG (keepF vs m σp) σ ++ envG (dropF vs m τp) σ)
  | [], τ, _, m, h => by cases τ with
    | nil => simp [mrgF, keepF, dropF, envG]
    | cons _ _ => cases h
  | _ :: _, [], _, m, h => by cases h
  | _ :: _, _ :: _, [], m, _ => by simp [mrgF, keepF, dropF, envG]
  | x :: σp, z :: τp, y :: σ, m, h => by
    have ih := env_mrg vs σp τp σ (m + 1) (by simpa using h)
    simp only [mrgF, keepF, dropF]
    by_cases hc : vs.contains m = true
    · rw [if_pos hc, if_pos hc, if_pos hc]
      cases x <;> cases y <;> simp only [envG, List.cons_append] <;> first | exact ih | exact ih.cons _
    · rw [if_neg hc, if_neg hc, if_neg hc]
      cases z <;> cases y <;> simp only [envG] <;> first | exact ih | exact (ih.cons _).trans List.perm_middle.symm
theorem env_congr : ∀ {σp : PSt} {σ τ : L2.St}, σ.length = τ.length → (∀ (i : Nat) (p : PV), σp[i]? = some (some p) → σ[i]? = τ[i]?) → envG σp σ = envG σp τ
  | [], _, _, _, _ => by simp [envG]
  | _ :: _, [], [], _, _ => by simp [envG]
  | _ :: _, [], _ :: _, h, _ => by cases h
  | _ :: _, _ :: _, [], h, _ => by cases h
  | x :: σp, y :: σ, z :: τ, h, hh => by
    have ih := env_congr (σp := σp) (σ := σ) (τ := τ) (by simpa using h) fun i p e => by simpa using hh (i + 1) p (by simpa using e)
    cases x with
    | none => simp only [envG, ih]
    | some p =>
      have := hh 0 p rfl
      simp at this
      subst this
      cases y <;> simp only [envG, ih]
theorem env_wipe {vs : List Nat} (h : wipe σ1 vs = wipe σ vs) (hl : σ1.length = σ.length) : envG (dropF vs 0 σp) σ1 = envG (dropF vs 0 σp) σ := by
  refine env_congr hl fun i p e => ?_
  obtain ⟨_, hc⟩ := dropF_get vs σp 0 i p e
  have hn : i ∉ vs := by simpa using hc
  rw [← wipe_out (σ := σ1) hn, h, wipe_out hn]
theorem wipe_wipe {vs : List Nat} : wipe (wipe σ vs) vs = wipe σ vs := wipe_idem σ vs
theorem envC.drop (h : envC σp σ) (vs : List Nat) : envC (dropF vs 0 σp) (wipe σ vs) := by
  refine ⟨by rw [dropF_len, wipe_length]; exact h.len, fun i p e => ?_⟩
  obtain ⟨e1, hc⟩ := dropF_get vs σp 0 i p e
  have hn : i ∉ vs := by simpa using hc
  rw [wipe_out hn]
  exact h.at_ i p e1
theorem mrgF_get (vs : List Nat) : ∀ (σ τ : PSt) (m i : Nat) (p : PV), (mrgF vs m σ τ)[i]? = some (some p) → σ[i]? = some (some p) ∨ (τ[i]? = some (some p) ∧ vs.contains (m + i) = false)
  | [], _, m, i, p, h => by simp [mrgF] at h
  | _ :: _, [], m, i, p, h => by simp [mrgF] at h
  | x :: σ, y :: τ, m, 0, p, h => by
    simp only [mrgF, List.getElem?_cons_zero] at h ⊢
    split at h
    · exact .inl h
    · rename_i hc; exact .inr ⟨h, by simpa using hc⟩
  | x :: σ, y :: τ, m, i + 1, p, h => by
    simp only [mrgF, List.getElem?_cons_succ] at h ⊢
    rcases mrgF_get vs σ τ (m + 1) i p h with z | ⟨z1, z2⟩
    · exact .inl z
    · exact .inr ⟨z1, by rw [← z2]; congr 1; omega⟩
theorem compX_cons {f : Itm → PSt → Option (Option PV × PSt)} {i : Itm} {is : List Itm} {σ σ' : PSt} {r : Rx (List PV)} (h : compX f (i :: is) σ = some (r, σ')) : (∃ σ1, f i σ = some (none, σ1) ∧ compX f is σ1 = some (r, σ')) ∨ ∃ p qs σ1, f i σ = some (some p, σ1) ∧ compX f is σ1 = some (.ok qs, σ') ∧ r = .ok (p :: qs) := by
  rw [compX] at h
  split at h
  · cases h
  · exact .inl ⟨_, by assumption, h⟩
  · rename_i p σ1 hp
    split at h
    · cases h; exact .inr ⟨p, _, σ1, hp, by assumption, rfl⟩
    · cases h
theorem compX_ok {X' : Hp} {M' : Addr → Prop} {Γo : List (PV × V)} {H : Hp} {τ : L2.St} {s : Src} {its : List Itm} {wss : List (List V)} {tg : Tg} {tt : TT} {te : TE} {d : Addr} {Q : VK} {f : Itm → PSt → Option (Option PV × PSt)} {r : Rx (List PV)} {own : List Nat} {σ0 σf : PSt}
    (sm : SrcM K X' s its wss) (hc0 : envC (dropF own 0 σ0) τ) (iv : Iv X' M' (itG its wss ++ (envG (dropF own 0 σ0) τ ++ Γo)) H) (hd : H d = none) (hz : its.length ≤ 100000) (hf : compX f its (dropF own 0 σ0) = some (r, σf))
    (turn : ∀ i itm ws acc H' σk o σk' (W' : Hp → Prop), its[i]? = some itm → wss[i]? = some ws → f itm σk = some (o, σk') → envC (dropF own 0 σk) τ → ∀ Γ', Iv X' M' ((itP itm).zip ws ++ (envG (dropF own 0 σk) τ ++ ((LL true acc, .ref d) :: Γ'))) H' →
      (∀ p y H4, o = some p → envC (dropF own 0 σk') τ → Iv X' M' ((p, y) :: (envG (dropF own 0 σk') τ ++ ((LL true acc, .ref d) :: Γ'))) H4 → ∃ acc, H4 d = some (.lst acc) ∧ acc.length < sizeLine ∧ W' (upd H4 d (.lst (acc ++ [y])))) →
      (∀ H3, o = none → envC (dropF own 0 σk') τ → Iv X' M' (envG (dropF own 0 σk') τ ++ ((LL true acc, .ref d) :: Γ')) H3 → W' H3) →
      s.step K tg i τ H' fun σ2 H2 => tt σ2 H2 fun b H3 => if b = true then te σ2 H3 fun y H4 => ∃ acc, H4 d = some (.lst acc) ∧ acc.length < sizeLine ∧ W' (upd H4 d (.lst (acc ++ [y]))) else W' H3)
    (done : ∀ ps H', r = .ok ps → envC (dropF own 0 σf) τ → Iv X' M' ((LL true ps, .ref d) :: (envG (dropF own 0 σf) τ ++ Γo)) H' → Q (.ref d) H') : lcW K s tg tt te τ d Q (upd H d (.lst [])) := by
  have hr : ∃ ps, r = .ok ps := by
    clear iv hc0 turn done sm hz
    generalize dropF own 0 σ0 = σs at hf
    induction its generalizing σs r with
    | nil => rw [compX] at hf; cases hf; exact ⟨[], rfl⟩
    | cons i is ih =>
      rcases compX_cons hf with ⟨σ1, h1, h2⟩ | ⟨p, qs, σ1, h1, h2, rfl⟩
      · exact ih _ h2
      · exact ⟨_, rfl⟩
  obtain ⟨ps, rfl⟩ := hr
  refine ⟨fun i H' => ∃ acc rest σk, Iv X' M' ((LL true acc, .ref d) :: (itG (its.drop i) (wss.drop i) ++ (envG (dropF own 0 σk) τ ++ Γo))) H' ∧ envC (dropF own 0 σk) τ ∧ compX f (its.drop i) σk = some (.ok rest, σf) ∧ ps = acc ++ rest ∧ acc.length ≤ i ∧ (i = its.length → dropF own 0 σk = dropF own 0 σf), ?_, ?_, ?_⟩
  · refine ⟨[], ps, dropF own 0 σ0, ?_, ?_, hf, rfl, Nat.le_refl _, ?_⟩
    · have dd : dropF own 0 (dropF own 0 σ0) = dropF own 0 σ0 := by
        have : ∀ (σ : PSt) (m : Nat), dropF own m (dropF own m σ) = dropF own m σ := by
          intro σ
          induction σ with
          | nil => intro m; rfl
          | cons x σ ih => intro m; simp only [dropF, ih]; split <;> rfl
        exact this σ0 0
      rw [dd]
      exact Iv.alloc (k := .lst) (xs := []) (vs := []) iv hd (same_new hd) upd_same rfl rfl rfl
    · have dd : dropF own 0 (dropF own 0 σ0) = dropF own 0 σ0 := by
        have : ∀ (σ : PSt) (m : Nat), dropF own m (dropF own m σ) = dropF own m σ := by
          intro σ
          induction σ with
          | nil => intro m; rfl
          | cons x σ ih => intro m; simp only [dropF, ih]; split <;> rfl
        exact this σ0 0
      rw [dd]; exact hc0
    · intro e
      have : its = [] := List.length_eq_zero_iff.mp e.symm
      subst this
      rw [compX] at hf
      cases hf
      rfl
  · rintro i H' hi ⟨acc, rest, σk, iv1, hc, hcx, rfl, hl, _⟩
    have hi' : i < its.length := by rw [← sm.len]; exact hi
    have hw' : i < wss.length := by rw [sm.wl]; exact hi'
    refine ⟨sm.ok H' iv1.same, ?_⟩
    have hit : its[i]? = some its[i] := List.getElem?_eq_getElem hi'
    have hiw : wss[i]? = some wss[i] := List.getElem?_eq_getElem hw'
    rw [itG_drop hit hiw] at iv1
    rw [List.drop_eq_getElem_cons hi'] at hcx
    have iv2 : Iv X' M' ((itP its[i]).zip wss[i] ++ (envG (dropF own 0 σk) τ ++ ((LL true acc, .ref d) :: (itG (its.drop (i + 1)) (wss.drop (i + 1)) ++ Γo)))) H' := by
      refine iv1.perm ?_
      rw [List.append_assoc]
      refine List.perm_middle.symm.trans (List.Perm.append_left _ ?_)
      refine (List.Perm.cons _ (swA _ _ _)).trans ?_
      exact List.perm_middle.symm
    have last : ∀ σk', compX f (its.drop (i + 1)) σk' = some (.ok rest, σf) ∨ True → True := fun _ _ => trivial
    rcases compX_cons hcx with ⟨σ1, h1, h2⟩ | ⟨p, qs, σ1, h1, h2, h3⟩
    · refine turn i its[i] wss[i] acc H' σk none σ1 _ hit hiw h1 hc _ iv2 (fun p y H4 e => by cases e) ?_
      intro H3 _ hc3 iv3
      refine ⟨acc, rest, σ1, ?_, hc3, h2, rfl, by omega, ?_⟩
      · refine iv3.perm ?_
        refine List.perm_middle.trans (List.Perm.cons _ ?_)
        exact swA _ _ _
      · intro e
        rw [List.drop_eq_nil_of_le (by omega), compX] at h2
        cases h2; rfl
    · cases h3
      refine turn i its[i] wss[i] acc H' σk (some p) σ1 _ hit hiw h1 hc _ iv2 ?_ (fun H3 e => by cases e)
      intro p' y H4 e hc4 iv4
      cases e
      have iv5 : Iv X' M' ((LL true acc, .ref d) :: (p, y) :: (itG (its.drop (i + 1)) (wss.drop (i + 1)) ++ (envG (dropF own 0 σ1) τ ++ Γo))) H4 := by
        refine iv4.perm ?_
        refine (List.Perm.cons _ List.perm_middle).trans ?_
        refine (List.Perm.swap _ _ _).trans (List.Perm.cons _ (List.Perm.cons _ ?_))
        exact swA _ _ _
      obtain ⟨a, accV, e1, ha, hl2, _⟩ := iv5.open_
      cases e1
      refine ⟨accV, ha, fit1 (by rw [hl2]; omega), acc ++ [p], qs, σ1, ?_, hc4, h2, by simp, by simp; omega, ?_⟩
      · refine Iv.write (k := .lst) (k' := .lst) (ys := acc ++ [p]) (ws := accV ++ [y]) (Γ0 := []) iv5 rfl ha hl2 ?_ (by simp [hl2]) rfl rfl
        rw [zip_app hl2, List.append_nil, List.append_assoc]
        exact List.Perm.append_left _ (.refl _)
      · intro e
        rw [List.drop_eq_nil_of_le (by omega), compX] at h2
        cases h2; rfl
  · rintro H' ⟨acc, rest, σk, iv1, hc, hcx, rfl, hl, hlast⟩
    rw [sm.len] at hlast iv1 hcx
    rw [List.drop_length, compX] at hcx
    cases hcx
    refine ⟨sm.ok H' iv1.same, done _ H' rfl hc ?_⟩
    rw [List.append_nil]
    rw [List.drop_length] at iv1
    simpa only [itG, List.nil_append] using iv1
end
section
variable {ca : Str → Value} {c : PCn} {T : Tab} {K : PySem.W.Frag} {n : Nat}
def XIs (ca : Str → Value) (c : PCn) (T : Tab) (K : PySem.W.Frag) (n : Nat) (it : Ir) : Prop :=
  ∀ ⦃X : Hp⦄ ⦃M : Addr → Prop⦄ ⦃Γ : List (PV × V)⦄ ⦃H : Hp⦄ ⦃σp σp' : PSt⦄ ⦃σ : L2.St⦄ ⦃r : Rx (List Itm)⦄ ⦃R : Src → Hp → Prop⦄ ⦃E : XK⦄, evIX c it σp = some (r, σp') → envC σp σ → Iv X M (envG σp σ ++ Γ) H → HXX ca X M σp' σ Γ E r →
    (∀ its, r = .ok its → ∀ s X' M' wss H1, SrcM K X' s its wss → envC σp' σ → Iv X' M' (itG its wss ++ (envG σp' σ ++ Γ)) H1 → (∀ Γ' H', Iv X' M' Γ' H' → Iv X M Γ' H') → R s H1) → wpI (cnOf T K n) E it σ H R
theorem xBi {it : Ir} (ih : XIs ca c T K n it) {β : Type} {X : Hp} {M : Addr → Prop} {Γ : List (PV × V)} {H : Hp} {σp σp' : PSt} {σ : L2.St} {f : List Itm → PSt → Option (Rx β × PSt)} {r : Rx β} {R : Src → Hp → Prop} {E : XK} (h : bnX (evIX c it σp) f = some (r, σp')) (hc : envC σp σ) (iv : Iv X M (envG σp σ ++ Γ) H) (hx : HXX ca X M σp' σ Γ E r)
    (hk : ∀ its s X' M' wss σ1 H1, f its σ1 = some (r, σp') → SrcM K X' s its wss → envC σ1 σ → Iv X' M' (itG its wss ++ (envG σ1 σ ++ Γ)) H1 → (∀ Γ' H', Iv X' M' Γ' H' → Iv X M Γ' H') → R s H1) : wpI (cnOf T K n) E it σ H R := by
  rcases bnX_some h with ⟨x, h1, rfl⟩ | ⟨p, σ1, h1, h2⟩
  · exact ih h1 hc iv hx.cast fun p e => by cases e
  · exact ih h1 hc iv HXX.ok fun p' e s X' M' wss H1 sm hc1 iv1 th => by cases e; exact hk p s X' M' wss σ1 H1 h2 sm hc1 iv1 th
theorem src_one {X : Hp} {M : Addr → Prop} {Γ : List (PV × V)} {H : Hp} {t : Bool} {xs : List PV} {v : V} (iv : Iv X M ((.nod .lst t xs, v) :: Γ) H) : ∃ a vs X' M' wss, v = .ref a ∧ H a = some (.lst vs) ∧ SrcM K X' (.lst a vs) (xs.map .one) wss ∧ Iv X' M' (itG (xs.map .one) wss ++ Γ) H ∧ ∀ Γ' H', Iv X' M' Γ' H' → Iv X M Γ' H' := by
  obtain ⟨a, vs, rfl, ha, hl, iv3, th⟩ := iv.freeze
  refine ⟨a, vs, _, _, vs.map fun v => [v], rfl, ha, ⟨?_, ?_, ?_, ?_⟩, by rw [itG_one]; exact iv3, th⟩
  · simp [Src.len, hl]
  · simp [hl]
  · intro H s; exact .inl (.inl (s a _ upd_same))
  · intro i itm ws e1 e2
    rw [List.getElem?_map] at e1 e2
    cases g1 : xs[i]? with
    | none => rw [g1] at e1; cases e1
    | some p =>
      cases g2 : vs[i]? with
      | none => rw [g2] at e2; cases e2
      | some u =>
        rw [g1] at e1; rw [g2] at e2
        cases e1; cases e2
        exact ⟨u, rfl, .inl ⟨a, vs, .inl rfl, g2⟩⟩
theorem src_oneT {X : Hp} {M : Addr → Prop} {Γ : List (PV × V)} {H : Hp} {t : Bool} {xs : List PV} {v : V} (iv : Iv X M ((.nod .tup t xs, v) :: Γ) H) : ∃ a vs X' M' wss, v = .ref a ∧ H a = some (.tup vs) ∧ SrcM K X' (.tup a vs) (xs.map .one) wss ∧ Iv X' M' (itG (xs.map .one) wss ++ Γ) H ∧ ∀ Γ' H', Iv X' M' Γ' H' → Iv X M Γ' H' := by
  obtain ⟨a, vs, rfl, ha, hl, iv3, th⟩ := iv.freezeT
  refine ⟨a, vs, _, _, vs.map fun v => [v], rfl, ha, ⟨?_, ?_, ?_, ?_⟩, by rw [itG_one]; exact iv3, th⟩
  · simp [Src.len, hl]
  · simp [hl]
  · intro H s; exact .inl (.inl (s a _ upd_same))
  · intro i itm ws e1 e2
    rw [List.getElem?_map] at e1 e2
    cases g1 : xs[i]? with
    | none => rw [g1] at e1; cases e1
    | some p =>
      cases g2 : vs[i]? with
      | none => rw [g2] at e2; cases e2
      | some u =>
        rw [g1] at e1; rw [g2] at e2
        cases e1; cases e2
        exact ⟨u, rfl, .inl ⟨a, vs, .inr rfl, g2⟩⟩
theorem itG_enm : ∀ {xs : List PV} {vs : List V} {m : Nat}, vs.length = xs.length → ∃ Γ0, (itG (enmP m xs) ((List.range' m vs.length).zipWith (fun (i : Nat) v => [V.int (i : Nat), v]) vs)).Perm (Γ0 ++ xs.zip vs) ∧ ∀ g ∈ Γ0, flP g.1 = some g.2
  | [], [], m, _ => ⟨[], by simp [enmP, itG], by simp⟩
  | [], _ :: _, _, h => by cases h
  | _ :: _, [], _, h => by cases h
  | x :: xs, v :: vs, m, h => by
    obtain ⟨Γ0, h1, h2⟩ := itG_enm (xs := xs) (vs := vs) (m := m + 1) (by simpa using h)
    refine ⟨(.int (m : Nat), .int (m : Nat)) :: Γ0, ?_, ?_⟩
    · simp only [List.length_cons, List.range'_succ, List.zipWith_cons_cons, enmP, itG, itP, List.zip_cons_cons, List.zip_nil_right, List.cons_append, List.nil_append, List.zip_nil_left]
      refine List.Perm.cons _ ?_
      exact (h1.cons _).trans List.perm_middle.symm
    · intro g hg
      rcases List.mem_cons.mp hg with rfl | hg
      · rfl
      · exact h2 g hg
theorem src_enmM {X : Hp} {M : Addr → Prop} {Γ : List (PV × V)} {H : Hp} {t : Bool} {xs : List PV} {v : V} (iv : Iv X M ((.nod .lst t xs, v) :: Γ) H) : ∃ a vs X' M' wss, v = .ref a ∧ H a = some (.lst vs) ∧ SrcM K X' (.enm a vs) (enmP 0 xs) wss ∧ Iv X' M' (itG (enmP 0 xs) wss ++ Γ) H ∧ ∀ Γ' H', Iv X' M' Γ' H' → Iv X M Γ' H' := by
  obtain ⟨a, vs, rfl, ha, hl, iv3, th⟩ := iv.freeze
  obtain ⟨Γ0, hp, h0⟩ := itG_enm (xs := xs) (vs := vs) (m := 0) hl
  refine ⟨a, vs, _, _, (List.range' 0 vs.length).zipWith (fun (i : Nat) v => [V.int (i : Nat), v]) vs, rfl, ha, ⟨?_, ?_, ?_, ?_⟩, ?_, th⟩
  · simp [Src.len, hl, enmP_len]
  · simp [hl, enmP_len]
  · intro H s; exact .inl (.inl (s a _ upd_same))
  · intro i itm ws e1 e2
    rw [enmP_get] at e1
    rw [List.getElem?_zipWith] at e2
    cases g1 : xs[i]? with
    | none => rw [g1] at e1; cases e1
    | some p =>
      rw [g1] at e1
      simp only [Option.map_some, Option.some.injEq, Nat.zero_add] at e1
      subst e1
      have hi : i < vs.length := by rw [hl]; exact (List.getElem?_eq_some_iff.mp g1).1
      rw [List.getElem?_range' hi, List.getElem?_eq_getElem hi] at e2
      simp only [Nat.zero_add, Nat.one_mul, Option.some.injEq] at e2
      subst e2
      exact ⟨_, _, rfl, .inl ⟨a, vs, rfl, rfl, List.getElem?_eq_getElem hi⟩⟩
  · refine (Iv.addFs iv3 h0).perm ?_
    rw [← List.append_assoc]
    exact (hp.append_right Γ).symm
theorem itG_zip : ∀ {xs ys : List PV} {vs ws : List V}, vs.length = xs.length → ws.length = ys.length → Sb (itG (zipP xs ys) (vs.zipWith (fun v w => [v, w]) ws)) (xs.zip vs ++ ys.zip ws)
  | [], ys, vs, ws, h1, h2 => ⟨ys.zip ws, by simp [zipP, itG]⟩
  | x :: xs, [], vs, ws, h1, h2 => ⟨(x :: xs).zip vs, by simp [zipP, itG]⟩
  | x :: xs, y :: ys, [], ws, h, _ => by cases h
  | x :: xs, y :: ys, _ :: _, [], _, h => by cases h
  | x :: xs, y :: ys, v :: vs, w :: ws, h1, h2 => by
    obtain ⟨Γ0, hp⟩ := itG_zip (xs := xs) (ys := ys) (vs := vs) (ws := ws) (by simpa using h1) (by simpa using h2)
    refine ⟨Γ0, ?_⟩
    simp only [zipP, List.zipWith_cons_cons, itG, itP, List.zip_cons_cons, List.zip_nil_right, List.cons_append, List.nil_append, List.zip_nil_left]
    refine List.Perm.cons _ ?_
    exact (hp.cons _).trans List.perm_middle.symm
theorem src_zipM {X : Hp} {M : Addr → Prop} {Γ : List (PV × V)} {H : Hp} {t u : Bool} {xs ys : List PV} {v w : V} (iv : Iv X M ((.nod .lst t xs, v) :: (.nod .lst u ys, w) :: Γ) H) : ∃ a b vs ws X' M' wss, v = .ref a ∧ H a = some (.lst vs) ∧ w = .ref b ∧ H b = some (.lst ws) ∧ SrcM K X' (.zip a b vs ws) (zipP xs ys) wss ∧ Iv X' M' (itG (zipP xs ys) wss ++ Γ) H ∧ ∀ Γ' H', Iv X' M' Γ' H' → Iv X M Γ' H' := by
  obtain ⟨a, vs, rfl, ha, hl, iv4, th⟩ := iv.freeze
  obtain ⟨b, ws, rfl, hb, hm, iv5, th2⟩ := (iv4.perm List.perm_middle).freeze
  have sa : ∀ H, Same (upd (upd X a (.lst vs)) b (.lst ws)) H → H a = some (.lst vs) ∧ H b = some (.lst ws) := by
    intro H s
    refine ⟨?_, s b _ upd_same⟩
    by_cases hab : a = b
    · subst hab
      rw [ha] at hb
      have := Option.some.inj hb
      rw [this]
      exact s a _ upd_same
    · exact s a _ (by rw [upd_ne hab]; exact upd_same)
  refine ⟨a, b, vs, ws, _, _, vs.zipWith (fun v w => [v, w]) ws, rfl, ha, rfl, hb, ⟨?_, ?_, ?_, ?_⟩, ?_, fun Γ' H' z => th _ _ (th2 _ _ z)⟩
  · simp [Src.len, hl, hm, zipP_len]
  · simp [hl, hm, zipP_len]
  · intro H s
    obtain ⟨s1, s2⟩ := sa H s
    exact ⟨.inl (.inl s1), .inl (.inl s2)⟩
  · intro i itm us e1 e2
    obtain ⟨x', y', g1, g2, rfl⟩ := zipP_get _ _ i itm e1
    obtain ⟨v', f1, _⟩ := get_len hl g1
    obtain ⟨w', f2, _⟩ := get_len hm g2
    rw [List.getElem?_zipWith, f1, f2] at e2
    cases e2
    exact ⟨v', w', rfl, .inr ⟨a, b, vs, ws, rfl, f1, f2⟩⟩
  · have z : Iv _ _ ((xs.zip vs ++ ys.zip ws) ++ Γ) H := iv5.perm (by rw [List.append_assoc]; exact swA _ _ _)
    exact z.sb (Sb.app (itG_zip hl hm))

theorem apL_some {x q q' : PV} (h : apL x q = some q') : ∃ xs, q = LL true xs ∧ xs.length < 100000 ∧ q' = LL true (xs ++ [x]) := by
  unfold apL at h
  split at h
  · split at h
    · rename_i hf; cases h; exact ⟨_, rfl, of_decide_eq_true hf, rfl⟩
    · cases h
  · cases h
theorem evU_some {e : Ex} {σ : PSt} {r : Rx PV × PSt} (h : evU c e σ = some r) : ∃ vs e', e = .us vs e' ∧ comm vs (evP c e' (keepF vs 0 σ)) σ = some r := by
  unfold evU at h
  split at h
  · exact ⟨_, _, rfl, h⟩
  · cases h
mutual
theorem xE (g : GOk ca c T K n) : ∀ e : Ex, XEs ca c T K n e
  | .us vs e => by
    intro X M Γ H σp σp' σ r Q E h hc iv hx hq
    simp only [evX] at h
    exact xU g h hc iv hx fun p e x H1 _ hc1 iv1 => hq p e x H1 hc1 iv1
  | .mv i => by
    intro X M Γ H σp σp' σ r Q E h hc iv hx hq
    simp only [evX] at h
    split at h
    · rename_i p hp
      cases h
      obtain ⟨v, hv⟩ := hc.at_ i p hp
      show (match σ[i]? with
        | some (some v) => Q v H
        | _ => False)
      rw [hv]
      exact hq p rfl v H (hc.killL i) (iv.takeE hp hv)
    · cases h
  | .con k => by
    intro X M Γ H σp σp' σ r Q E h hc iv hx hq
    simp only [evX] at h
    show (match conV k with
      | some v => Q v H
      | none => False)
    split at h
    · rename_i v hv
      try rw [hv]
      cases e : vP v with
      | none => rw [e] at h; cases h
      | some p => rw [e] at h; cases h; exact hq p rfl v H hc (iv.addV e)
    · cases h
  | .bin op a b => by
    intro X M Γ H σp σp' σ r Q E h hc iv hx hq
    simp only [evX] at h
    refine xB (xE g a) h hc iv hx fun p x σ1 H1 h1 hc1 iv1 => ?_
    refine xB (xE g b) h1 hc1 iv1.toB hx.cons fun q y σ2 H2 h2 hc2 iv2 => ?_
    cases e : opB op p q with
    | none => rw [e] at h2; cases h2
    | some z =>
      rw [e] at h2
      cases h2
      exact opB_ok e (iv2.perm (List.Perm.cons _ List.perm_middle)) fun v H3 iv3 => hq z rfl v H3 hc2 iv3
  | .neg a => by
    intro X M Γ H σp σp' σ r Q E h hc iv hx hq
    simp only [evX] at h
    refine xB (xE g a) h hc iv hx fun p x σ1 H1 h1 hc1 iv1 => ?_
    split at h1
    · cases h1; cases iv1.int_
      exact hq _ rfl _ H1 hc1 (iv1.tail.addI _)
    · cases h1
  | .cmp op a b => by
    intro X M Γ H σp σp' σ r Q E h hc iv hx hq
    simp only [evX] at h
    refine xB (xE g a) h hc iv hx fun p x σ1 H1 h1 hc1 iv1 => ?_
    refine xB (xE g b) h1 hc1 iv1.toB hx.cons fun q y σ2 H2 h2 hc2 iv2 => ?_
    cases e : opC op p q with
    | none => rw [e] at h2; cases h2
    | some z =>
      rw [e] at h2
      cases h2
      have iv3 := iv2.perm (List.Perm.cons _ List.perm_middle)
      exact opC_ok e iv3 (hq _ rfl _ H2 hc2 (iv3.tail2.addB _))
  | .not a => by
    intro X M Γ H σp σp' σ r Q E h hc iv hx hq
    simp only [evX] at h
    refine xB (xE g a) h hc iv hx fun p x σ1 H1 h1 hc1 iv1 => ?_
    split at h1
    · cases h1; cases iv1.bl_
      exact hq _ rfl _ H1 hc1 (iv1.tail.addB _)
    · cases h1
  | .and a b => by
    intro X M Γ H σp σp' σ r Q E h hc iv hx hq
    simp only [evX] at h
    refine xB (xE g a) h hc iv hx fun p x σ1 H1 h1 hc1 iv1 => ?_
    split at h1
    · cases iv1.bl_
      exact xE g b h1 hc1 iv1.tail hx hq
    · cases h1; cases iv1.bl_
      exact hq _ rfl _ H1 hc1 iv1
    · cases h1
  | .or a b => by
    intro X M Γ H σp σp' σ r Q E h hc iv hx hq
    simp only [evX] at h
    refine xB (xE g a) h hc iv hx fun p x σ1 H1 h1 hc1 iv1 => ?_
    split at h1
    · cases iv1.bl_
      exact xE g b h1 hc1 iv1.tail hx hq
    · cases h1; cases iv1.bl_
      exact hq _ rfl _ H1 hc1 iv1
    · cases h1
  | .blt f es => by
    intro X M Γ H σp σp' σ r Q E h hc iv hx hq
    simp only [evX] at h
    refine xBs (xEs g es) h hc iv hx fun ps xs σ1 H1 h1 l1 l2 hc1 iv1 => ?_
    cases e : bltP f ps with
    | none => rw [e] at h1; cases h1
    | some z =>
      rw [e] at h1
      cases h1
      exact bltP_ok e l1 iv1 fun v H2 iv2 => hq z rfl v H2 hc1 iv2
  | .tup es => by
    intro X M Γ H σp σp' σ r Q E h hc iv hx hq
    simp only [evX] at h
    refine xBs (xEs g es) h hc iv hx fun ps xs σ1 H1 h1 l1 l2 hc1 iv1 => ?_
    split at h1
    · rename_i hf
      cases h1
      refine ⟨by rw [l1]; exact fitB_ok hf, fun a H2 ha s e => hq _ rfl _ H2 hc1 ?_⟩
      exact Iv.allocT iv1 s e l1
    · cases h1
  | .lst es => by
    intro X M Γ H σp σp' σ r Q E h hc iv hx hq
    simp only [evX] at h
    refine xBs (xEs g es) h hc iv hx fun ps xs σ1 H1 h1 l1 l2 hc1 iv1 => ?_
    split at h1
    · rename_i hf
      cases h1
      refine ⟨by rw [l1]; exact fitB_ok hf, fun a H2 ha s e => hq _ rfl _ H2 hc1 ?_⟩
      exact Iv.alloc (k := .lst) iv1 ha s e rfl l1 rfl
    · cases h1
  | .idx a i => by
    intro X M Γ H σp σp' σ r Q E h hc iv hx hq
    simp only [evX] at h
    split at h
    · rename_i v
      split at h
      · rename_i p0 hp0
        obtain ⟨u, hu⟩ := hc.at_ v p0 hp0
        refine e_idx (e_var hu ?_)
        refine xB (xE g i) h hc iv hx fun y x σ1 H1 h1 hc1 iv1 => ?_
        split at h1
        · rename_i p hp
          split at h1
          · rename_i q hq'
            cases h1
            have iv2 : Iv X M ((p, u) :: ((y, x) :: (envG (σ1.set v none) σ ++ Γ))) H1 := by
              have := Iv.takeE iv1.toB hp hu
              exact this.perm (List.Perm.cons _ List.perm_middle)
            have iv3 : Iv X M ((y, x) :: (sh p, u) :: (envG (σ1.set v none) σ ++ Γ)) H1 := iv2.sh1.sw
            by_cases hcl : cln q = true
            · rw [if_pos hcl] at hq
              -- seen through what is shared, kept as it was
              obtain ⟨O, S, ra, _⟩ := (Iv.left (Γ1 := [(y, x), (sh p, u)]) iv3).ex
              obtain ⟨Sa, rs, _⟩ := ra.shr_
              have e0 : shG [(y, x), (sh p, u)] = [(sh y, x), (sh p, u)] := by simp [shG, sh_sh]
              rw [e0] at rs
              have hy : sh y = y := by
                unfold idxP at hq'
                split at hq' <;> first | rfl | (cases hq'; done)
              rw [hy] at rs
              exact idxP_ok (Γ := []) hq' (Iv.start rs) fun w iv4 => hq q rfl w H1 hc1 (Iv.clean_back iv1.tail iv4 hcl)
            · rw [if_neg hcl] at hq
              refine idxP_in hq' (by simpa using hcl) iv2 fun w iv4 => hq q rfl w H1 (hc1.setL hu) ?_
              have iv5 := iv4.sw
              have iv6 : Iv X M ((shI p, u) :: (envG (σ1.set v none) σ ++ ((q, w) :: Γ))) H1 := iv5.perm (List.Perm.cons _ List.perm_middle.symm)
              exact (Iv.putE iv6 hu).toF
          · cases h1
        · cases h1
      · cases h
    · refine xB (xE g a) h hc iv hx fun p x σ1 H1 h1 hc1 iv1 => ?_
      refine xB (xE g i) h1 hc1 iv1.toB hx.cons fun q y σ2 H2 h2 hc2 iv2 => ?_
      cases e : idxP p q with
      | none => rw [e] at h2; cases h2
      | some z =>
        rw [e] at h2
        cases h2
        exact idxP_ok e (iv2.perm (List.Perm.cons _ List.perm_middle)) fun v iv3 => hq z rfl v H2 hc2 iv3
  | .stp a lo k => by
    intro X M Γ H σp σp' σ r Q E h hc iv hx hq
    simp only [evX] at h
    refine xB (xE g a) h hc iv hx fun p x σ1 H1 h1 hc1 iv1 => ?_
    refine xB (xE g lo) h1 hc1 iv1.toB hx.cons fun q y σ2 H2 h2 hc2 iv2 => ?_
    cases e : stpP p q k with
    | none => rw [e] at h2; cases h2
    | some z =>
      rw [e] at h2
      cases h2
      exact stpP_ok e (iv2.perm (List.Perm.cons _ List.perm_middle)) fun v H3 iv3 => hq z rfl v H3 hc2 iv3
  | .ite t a b => by
    intro X M Γ H σp σp' σ r Q E h hc iv hx hq
    simp only [evX] at h
    refine xBt (xT g t) h hc iv hx fun k σ1 H1 h1 hc1 iv1 => ?_
    cases k with
    | true => exact if_T (xE g a h1 hc1 iv1 hx hq)
    | false => exact if_F (xE g b h1 hc1 iv1 hx hq)
  | .call f es ks kes => by
    intro X M Γ H σp σp' σ r Q E h hc iv hx hq
    simp only [evX] at h
    split at h
    · rcases bnX_some h with ⟨x, h1, rfl⟩ | ⟨as, σ1, h1, h2⟩
      · refine e_callP (xA g es h1 hc iv hx.cast fun as e => by cases e)
      · refine e_callP (xA g es h1 hc iv HXX.ok fun as' e us H1 l1 l2 hv hc1 iv1 => ?_)
        cases e
        refine ⟨by rw [l1, l2], ?_⟩
        split at h2
        · rename_i ps σ2 ht
          split at h2
          · rename_i r' fin hG
            cases h2
            exact callX g ht hG hv hc1 iv1 hx hq
          · cases h2
        · cases h2
    · cases h
  | .mth m o es => by
    intro X M Γ H σp σp' σ r Q E h hc iv hx hq
    simp only [evX] at h
    split at h
    · rename_i i π e ho
      split at h
      · rename_i hm
        subst hm
        split at h
        · rename_i p0 hp0
          split at h
          · rename_i hL
            obtain ⟨u, hu⟩ := hc.at_ i p0 hp0
            have iv0 := iv.takeE hp0 hu
            have hg : ∃ t xs, getP π p0 = some (.nod .lst t xs) := by
              unfold isL at hL
              split at hL
              · exact ⟨_, _, by assumption⟩
              · cases hL
            obtain ⟨t, xs, hg⟩ := hg
            obtain ⟨w0, Γ0, va, ivw⟩ := getP_at hg iv0
            obtain ⟨b0, vs0, rfl, hb0, _, _⟩ := ivw.open_
            refine e_mth (plc_ok ho hu va ?_)
            show (match H b0 with
              | some (.lst _) => wpEs (cnOf T K n) E (.cons e .nil) σ H fun vs H2 => mthW K "append" (.ref b0) vs H2 Q
              | _ => False)
            rw [hb0]
            refine es_cons ?_
            have fin : ∀ x y σ1 H1, vAt H1 u π (.ref b0) → (match σ1[i]? with
                | some (some p) => match upP (apL x) π p with
                  | some p' => some (Rx.ok PV.non, σ1.set i (some p'))
                  | none => none
                | _ => none) = some (r, σp') → envC σ1 σ → Iv X M ((x, y) :: (envG σ1 σ ++ Γ)) H1 → wpEs (cnOf T K n) E .nil σ H1 fun xs H2 => mthW K "append" (.ref b0) (y :: xs) H2 Q := by
              intro x y σ1 H1 va1 h1 hc1 iv1
              split at h1
              · rename_i p hp
                split at h1
                · rename_i p' hup
                  cases h1
                  refine es_nil ?_
                  obtain ⟨b, vs, hR⟩ := put_at (Γe := [(x, y)]) (R := fun b vs => mthW K "append" (.ref b0) [y] H1 Q) hup hp hu iv1 (fun q q' hq => by
                    obtain ⟨xs, e, _⟩ := apL_some hq
                    exact ⟨xs, e⟩) (fun b vs hb va2 k => by
                    have e := vAt_det va1 va2
                    cases e
                    have hlen : vs.length < sizeLine := by
                      obtain ⟨w, q, q', X', M', Γ', z1, z2, z3⟩ := upP_at hup (Iv.takeE iv1.toB hp hu)
                      have e := vAt_det va1 z1
                      subst e
                      obtain ⟨xs, rfl, hlt, _⟩ := apL_some z2
                      obtain ⟨b2, vs2, e2, hb2, hl2, _⟩ := z3.open_
                      cases e2
                      rw [hb] at hb2
                      have e3 : vs = vs2 := by simpa [Kd.ho] using hb2
                      subst e3
                      rw [hl2]
                      exact fit1 hlt
                    refine ⟨vs, hb, hlen, hq _ rfl _ _ (hc1.setL hu) (Iv.addN (k (vs ++ [y]) fun xs hl _ q' hq' => ?_))⟩
                    obtain ⟨xs', e, _, rfl⟩ := apL_some hq'
                    cases e
                    refine ⟨xs ++ [x], rfl, by simp [hl], [], ?_⟩
                    rw [List.append_nil, zip_app hl]
                    exact .refl _)
                  exact hR
                · cases h1
              · cases h1
            cases π with
            | nil =>
              exact xB (xE g e) h hc iv hx fun x y σ1 H1 h1 hc1 iv1 => fin x y σ1 H1 va h1 hc1 iv1
            | cons m π =>
              rcases bnX_some h with ⟨z, h1, rfl⟩ | ⟨x, σ1, h1, h2⟩
              · obtain ⟨vs, e', rfl, h1'⟩ := evU_some h1
                show wpE (cnOf T K n) E e' σ H _
                exact xU g h1' hc iv hx fun p e => by cases e
              · obtain ⟨vs, e', rfl, h1'⟩ := evU_some h1
                show wpE (cnOf T K n) E e' σ H _
                refine xU g h1' hc iv HXX.ok fun p e y H1 sm hc1 iv1 => ?_
                cases e
                exact fin x y σ1 H1 (va.same sm) h2 hc1 iv1
          · cases h
        · cases h
      · cases h
    · rename_i i ho
      split at h
      · rename_i hm
        subst hm
        split at h
        · rename_i xs hp
          split at h
          · rename_i q hq'
            cases h
            obtain ⟨v, hv⟩ := hc.at_ i _ hp
            have iv1 := iv.takeE hp hv
            obtain ⟨a, vs, rfl, ha, hl, _⟩ := iv1.open_
            refine e_mth (plc_ok (w := .ref a) ho hv rfl ?_)
            show (match H a with
              | some (.lst _) => wpEs (cnOf T K n) E .nil σ H fun vs H2 => mthW K "pop" (.ref a) vs H2 Q
              | _ => False)
            rw [ha]
            have hne : xs ≠ [] := fun e => by subst e; simp at hq'
            have hnv : vs ≠ [] := fun e => by subst e; cases xs with | nil => exact hne rfl | cons _ _ => cases hl
            obtain ⟨y, hy, _⟩ := get_len hl hq'
            refine ⟨vs, y, ha, by rw [hl]; exact hy, ?_⟩
            refine hq q rfl y _ (hc.setL hv) ?_
            have ex : xs = xs.dropLast ++ [q] := by
              rw [List.getElem?_eq_getElem (by have := List.length_pos_iff.mpr hne; omega)] at hq'
              have e1 := List.dropLast_concat_getLast hne
              rw [List.getLast_eq_getElem hne] at e1
              rw [← Option.some.inj hq']
              exact e1.symm
            have ev : vs = vs.dropLast ++ [y] := by
              have hy' : vs[vs.length - 1]? = some y := by rw [hl]; exact hy
              rw [List.getElem?_eq_getElem (by have := List.length_pos_iff.mpr hnv; omega)] at hy'
              have e1 := List.dropLast_concat_getLast hnv
              rw [List.getLast_eq_getElem hnv] at e1
              rw [← Option.some.inj hy']
              exact e1.symm
            have ld : vs.dropLast.length = xs.dropLast.length := by simp [hl]
            have iv2 := Iv.write (k := .lst) (k' := .lst) (ys := xs.dropLast) (ws := vs.dropLast) (Γ' := (q, y) :: (envG (σp.set i none) σ ++ Γ)) (Γ0 := []) iv1 rfl ha hl (by
              rw [List.append_nil]
              conv => rhs; rw [ex, ev]
              rw [zip_app ld, List.append_assoc]
              exact .refl _) ld rfl rfl
            have iv3 : Iv X M ((LL true xs.dropLast, .ref a) :: (envG (σp.set i none) σ ++ ((q, y) :: Γ))) (upd H a (.lst vs.dropLast)) := iv2.perm (List.Perm.cons _ List.perm_middle.symm)
            exact (Iv.putE iv3 hv).toF
          · cases h
        · cases h
      · cases h
    · cases h
  | .comp e tg it cs own => by
    intro X M Γ H σp σp' σ r Q E h hc iv hx hq
    simp only [evX] at h
    refine xBi (xI g it) h hc iv hx fun its s X' M' wss σ1 H1 h1 sm hc1 iv1 th => ?_
    split at h1
    · rename_i hf
      rw [Bool.and_eq_true] at hf
      intro d hd
      rcases bnX_some h1 with ⟨x, h2, rfl⟩ | ⟨ps, σ2, h2, h3⟩
      · exfalso
        clear hx hq h1
        have : ∀ (f : Itm → PSt → Option (Option PV × PSt)) (its : List Itm) (σ : PSt) (x : PX) (σ' : PSt), compX f its σ ≠ some (.ex x, σ') := by
          intro f its
          induction its with
          | nil => intro σ x σ' h; rw [compX] at h; cases h
          | cons i is ih =>
            intro σ x σ' h
            rcases compX_cons h with ⟨σ1, _, z⟩ | ⟨_, _, _, _, _, z⟩
            · exact ih _ _ _ z
            · cases z
        exact this _ _ _ _ _ h2
      cases h3
      have wlen : (wipe σ (own.map (·.2))).length = σ.length := wipe_length _ _
      have eqE : ∀ σk : PSt, envG (dropF (own.map (·.2)) 0 σk) (wipe σ (own.map (·.2))) = envG (dropF (own.map (·.2)) 0 σk) σ := fun σk => env_wipe wipe_wipe wlen
      have iv2 : Iv X' M' (itG its wss ++ (envG (dropF (own.map (·.2)) 0 σ1) (wipe σ (own.map (·.2))) ++ (envG (keepF (own.map (·.2)) 0 σ1) σ ++ Γ))) H1 := by
        rw [eqE]
        refine iv1.perm (List.Perm.append_left _ ?_)
        refine ((env_split (own.map (·.2)) σ1 σ 0).append_right Γ).trans ?_
        rw [List.append_assoc]
        exact swA _ _ _
      refine compX_ok sm (hc1.drop _) iv2 hd (of_decide_eq_true hf.1) h2 ?_ ?_
      · intro i itm ws acc H' σk o σk' W' hi hw ho hck Γ' ivk k1 k2
        split at ho
        · cases ho
        · rename_i σ3 hb
          refine srcM_step sm hi hw hb hck ivk fun σr H2 hc3 td iv3 => ?_
          have wr : wipe σr (own.map (·.2)) = wipe σ (own.map (·.2)) := by rw [td.wp _ hf.2, wipe_wipe]
          have lr : σr.length = (wipe σ (own.map (·.2))).length := td.len
          have eqR : ∀ σk : PSt, envG (dropF (own.map (·.2)) 0 σk) σr = envG (dropF (own.map (·.2)) 0 σk) (wipe σ (own.map (·.2))) := fun σk => env_wipe (by rw [wr, wipe_wipe]) lr
          have back : ∀ (σz : PSt) (H3 : Hp) (Δ' : List (PV × V)), envC σz σr → Iv X' M' (Δ' ++ (envG σz σr ++ ((LL true acc, .ref d) :: Γ'))) H3 → envC (dropF (own.map (·.2)) 0 σz) (wipe σ (own.map (·.2))) ∧ Iv X' M' (Δ' ++ (envG (dropF (own.map (·.2)) 0 σz) (wipe σ (own.map (·.2))) ++ ((LL true acc, .ref d) :: Γ'))) H3 := by
            intro σz H3 Δ' hcz ivz
            refine ⟨by rw [← wr]; exact hcz.drop _, ?_⟩
            rw [← eqR]
            exact (ivz.toBs.sb (env_drop _ _ _ 0).app).toBs
          split at ho
          · rename_i σ4 hcond
            split at ho
            · rename_i p σ5 hp
              cases ho
              refine xC g cs hcond hc3 iv3 HXX.ok fun b e' H3 hc4 iv4 => ?_
              cases e'
              refine if_T (xE g e hp hc4 iv4 HXX.ok fun p' e' y H4 hc5 iv5 => ?_)
              cases e'
              obtain ⟨z1, z2⟩ := back _ H4 [(p, y)] hc5 iv5
              exact k1 p y H4 rfl z1 z2
            · cases ho
          · rename_i σ4 hcond
            cases ho
            refine xC g cs hcond hc3 iv3 HXX.ok fun b e' H3 hc4 iv4 => ?_
            cases e'
            obtain ⟨z1, z2⟩ := back _ H3 [] hc4 iv4
            exact if_F (k2 H3 rfl z1 z2)
          · cases ho
      · intro ps' H' e' hcf ivf
        cases e'
        have lf : σ1.length = σ2.length := by
          have a1 := hc1.len
          have a2 := hcf.len
          rw [dropF_len, wlen] at a2
          omega
        refine hq _ rfl _ H' ?_ (th _ _ ?_)
        · refine ⟨by rw [mrgF_len _ _ _ _ lf]; exact hc1.len, fun i p e => ?_⟩
          rcases mrgF_get _ _ _ 0 i p e with z | ⟨z1, z2⟩
          · exact hc1.at_ i p z
          · have hn : i ∉ own.map (·.2) := by simpa using z2
            have : (dropF (own.map (·.2)) 0 σ2)[i]? = some (some p) := by
              have : ∀ (τ : PSt) (m i : Nat), τ[i]? = some (some p) → (own.map (·.2)).contains (m + i) = false → (dropF (own.map (·.2)) m τ)[i]? = some (some p) := by
                intro τ
                induction τ with
                | nil => intro m i h; simp at h
                | cons x τ ih =>
                  intro m i h hc
                  cases i with
                  | zero => simp only [dropF, List.getElem?_cons_zero] at h ⊢; rw [if_neg (by simpa using hc)]; exact h
                  | succ i => simp only [dropF, List.getElem?_cons_succ] at h ⊢; exact ih (m + 1) i h (by rw [← hc]; congr 1; omega)
              exact this σ2 0 i z1 z2
            obtain ⟨v, hv⟩ := hcf.at_ i p this
            rw [wipe_out hn] at hv
            exact ⟨v, hv⟩
        · rw [eqE] at ivf
          refine ivf.perm (List.Perm.cons _ ?_)
          refine (swA _ _ _).trans ?_
          rw [← List.append_assoc]
          exact ((env_mrg _ σ1 σ2 σ 0 lf).append_right Γ).symm
    · cases h1
  | .var _ => by intro X M Γ H σp σp' σ r Q E h; simp only [evX] at h; cases h
  | .glb _ => by intro X M Γ H σp σp' σ r Q E h; simp only [evX] at h; cases h
  | .chn _ _ _ _ _ => by intro X M Γ H σp σp' σ r Q E h; simp only [evX] at h; cases h
  | .sl2 _ _ _ => by intro X M Γ H σp σp' σ r Q E h; simp only [evX] at h; cases h
  | .sl1 _ _ => by intro X M Γ H σp σp' σ r Q E h; simp only [evX] at h; cases h
  | .sl0 _ _ => by intro X M Γ H σp σp' σ r Q E h; simp only [evX] at h; cases h
  | .rev _ => by intro X M Γ H σp σp' σ r Q E h; simp only [evX] at h; cases h
  | .isi _ _ => by intro X M Γ H σp σp' σ r Q E h; simp only [evX] at h; cases h
  | .lrg _ => by intro X M Γ H σp σp' σ r Q E h; simp only [evX] at h; cases h
  | .lzp _ _ => by intro X M Γ H σp σp' σ r Q E h; simp only [evX] at h; cases h
theorem xEs (g : GOk ca c T K n) : ∀ es : Exs, XAs ca c T K n es
  | .nil => by
    intro X M Γ H σp σp' σ r Q E h hc iv hx hq
    simp only [evXs] at h
    cases h
    exact hq [] rfl [] H rfl rfl hc iv
  | .cons e es => by
    intro X M Γ H σp σp' σ r Q E h hc iv hx hq
    simp only [evXs] at h
    refine xB (xE g e) h hc iv hx fun p x σ1 H1 h1 hc1 iv1 => ?_
    refine xBs (xEs g es) h1 hc1 iv1.toB hx.cons fun ps xs σ2 H2 h2 l1 l2 hc2 iv2 => ?_
    cases h2
    refine hq _ rfl (x :: xs) H2 (by simp [l1]) (by simp [Exs.len, l2]) hc2 (iv2.perm ?_)
    rw [List.zip_cons_cons]
    refine (List.Perm.append_left _ List.perm_middle).trans ?_
    exact List.perm_middle
theorem xA (g : GOk ca c T K n) : ∀ (es : Exs) ⦃fl : List Bool⦄ ⦃X : Hp⦄ ⦃M : Addr → Prop⦄ ⦃Γ : List (PV × V)⦄ ⦃H : Hp⦄ ⦃σp σp' : PSt⦄ ⦃σ : L2.St⦄ ⦃r : Rx (List (Option Nat × PV))⦄ ⦃Q : List V → Hp → Prop⦄ ⦃E : XK⦄, evXA c es fl σp = some (r, σp') → envC σp σ → Iv X M (envG σp σ ++ Γ) H → HXX ca X M σp' σ Γ E r →
    (∀ as, r = .ok as → ∀ us H1, us.length = as.length → as.length = es.len → argV σ as us → envC σp' σ → Iv X M (argR as us ++ (envG σp' σ ++ Γ)) H1 → Q us H1) → wpEs (cnOf T K n) E es σ H Q
  | .nil => by
    intro fl X M Γ H σp σp' σ r Q E h hc iv hx hq
    simp only [evXA] at h
    cases h
    exact hq [] rfl [] H rfl rfl trivial hc iv
  | .cons e es => by
    intro fl X M Γ H σp σp' σ r Q E h hc iv hx hq
    simp only [evXA] at h
    split at h
    · split at h
      · rename_i fl' i
        split at h
        · rename_i p0 hp0
          obtain ⟨u, hu⟩ := hc.at_ i p0 hp0
          refine es_cons (e_var hu ?_)
          rcases bnX_some h with ⟨z, h2, rfl⟩ | ⟨as, σ2, h2, h3⟩
          · exact xA g es h2 hc iv hx.cast fun as e => by cases e
          · refine xA g es h2 hc iv HXX.ok fun as' e us H2 l1 l2 hv hc2 iv2 => ?_
            cases e
            cases h3
            exact hq _ rfl (u :: us) H2 (by simp [l1]) (by simp [Exs.len, l2]) ⟨hu, hv⟩ hc2 iv2
        · cases h
      · refine xB (xE g e) h hc iv hx fun p x σ1 H1 h1 hc1 iv1 => ?_
        rcases bnX_some h1 with ⟨z, h2, rfl⟩ | ⟨as, σ2, h2, h3⟩
        · exact xA g es h2 hc1 iv1.toB hx.cons.cast fun as e => by cases e
        · refine xA g es h2 hc1 iv1.toB HXX.ok fun as' e us H2 l1 l2 hv hc2 iv2 => ?_
          cases e
          cases h3
          refine hq _ rfl (x :: us) H2 (by simp [l1]) (by simp [Exs.len, l2]) hv hc2 (iv2.perm ?_)
          show _
          refine (List.Perm.append_left _ List.perm_middle).trans ?_
          exact List.perm_middle
    · refine xB (xE g e) h hc iv hx fun p x σ1 H1 h1 hc1 iv1 => ?_
      rcases bnX_some h1 with ⟨z, h2, rfl⟩ | ⟨as, σ2, h2, h3⟩
      · exact xA g es h2 hc1 iv1.toB hx.cons.cast fun as e => by cases e
      · refine xA g es h2 hc1 iv1.toB HXX.ok fun as' e us H2 l1 l2 hv hc2 iv2 => ?_
        cases e
        cases h3
        refine hq _ rfl (x :: us) H2 (by simp [l1]) (by simp [Exs.len, l2]) hv hc2 (iv2.perm ?_)
        show _
        refine (List.Perm.append_left _ List.perm_middle).trans ?_
        exact List.perm_middle
theorem xT (g : GOk ca c T K n) : ∀ t : Ts, XTs ca c T K n t
  | .us vs t => by
    intro X M Γ H σp σp' σ r Q E h hc iv hx hq
    simp only [evXT] at h
    obtain ⟨M', iv1, av, cl, dm, kp⟩ := iv.look hc vs
    show wpT (cnOf T K n) E t σ H Q
    split at h
    · rename_i b hp
      cases h
      refine pT g t hp av iv1 HX.ok fun b' e H1 iv2 => ?_
      cases e
      exact hq b rfl H1 hc (kp _ _ iv2)
    · rename_i x hp
      cases h
      refine pT g t hp av iv1 ?_ fun b' e => by cases e
      intro x' e' ws cls d H1 hv iv2
      cases e'
      exact hx x rfl (hc.dm vs 0) ws cls d H1 hv (dm _ H1 iv2)
    · cases h
  | .val e => by
    intro X M Γ H σp σp' σ r Q E h hc iv hx hq
    simp only [evXT] at h
    refine xB (xE g e) h hc iv hx fun p x σ1 H1 h1 hc1 iv1 => ?_
    split at h1
    · cases h1; cases iv1.bl_
      exact hq _ rfl H1 hc1 iv1.tail
    · cases h1
  | .cmp op a b => by
    intro X M Γ H σp σp' σ r Q E h hc iv hx hq
    simp only [evXT] at h
    refine xB (xE g a) h hc iv hx fun p x σ1 H1 h1 hc1 iv1 => ?_
    refine xB (xE g b) h1 hc1 iv1.toB hx.cons fun q y σ2 H2 h2 hc2 iv2 => ?_
    cases e : opC op p q with
    | none => rw [e] at h2; cases h2
    | some z =>
      rw [e] at h2
      cases h2
      have iv3 := iv2.perm (List.Perm.cons _ List.perm_middle)
      exact opC_ok e iv3 (hq _ rfl H2 hc2 iv3.tail2)
  | .not a => by
    intro X M Γ H σp σp' σ r Q E h hc iv hx hq
    simp only [evXT] at h
    refine xBt (xT g a) h hc iv hx fun b σ1 H1 h1 hc1 iv1 => ?_
    cases h1
    exact hq _ rfl H1 hc1 iv1
  | .and a b => by
    intro X M Γ H σp σp' σ r Q E h hc iv hx hq
    simp only [evXT] at h
    refine xBt (xT g a) h hc iv hx fun k σ1 H1 h1 hc1 iv1 => ?_
    cases k with
    | true => exact if_T (xT g b h1 hc1 iv1 hx hq)
    | false => cases h1; exact if_F (hq _ rfl H1 hc1 iv1)
  | .or a b => by
    intro X M Γ H σp σp' σ r Q E h hc iv hx hq
    simp only [evXT] at h
    refine xBt (xT g a) h hc iv hx fun k σ1 H1 h1 hc1 iv1 => ?_
    cases k with
    | true => cases h1; exact if_T (hq _ rfl H1 hc1 iv1)
    | false => exact if_F (xT g b h1 hc1 iv1 hx hq)
  | .chn _ _ _ _ _ => by intro X M Γ H σp σp' σ r Q E h; simp only [evXT] at h; cases h
theorem xC (g : GOk ca c T K n) : ∀ (cs : Cd) ⦃X : Hp⦄ ⦃M : Addr → Prop⦄ ⦃Γ : List (PV × V)⦄ ⦃H : Hp⦄ ⦃σp σp' : PSt⦄ ⦃σ : L2.St⦄ ⦃r : Rx Bool⦄ ⦃Q : Bool → Hp → Prop⦄, evXC c cs σp = some (r, σp') → envC σp σ → Iv X M (envG σp σ ++ Γ) H → HXX ca X M σp' σ Γ E0 r →
    (∀ b, r = .ok b → ∀ H1, envC σp' σ → Iv X M (envG σp' σ ++ Γ) H1 → Q b H1) → wpTs (cnOf T K n) cs σ H Q
  | .no => by
    intro X M Γ H σp σp' σ r Q h hc iv hx hq
    simp only [evXC] at h
    cases h
    exact hq _ rfl H hc iv
  | .one t => by
    intro X M Γ H σp σp' σ r Q h hc iv hx hq
    simp only [evXC] at h
    exact xT g t h hc iv hx hq
theorem xI (g : GOk ca c T K n) : ∀ it : Ir, XIs ca c T K n it
  | .us vs (.seq e) => by
    intro X M Γ H σp σp' σ r R E h hc iv hx hq
    simp only [evIX] at h
    show wpE (cnOf T K n) E e σ H _
    rcases bnX_some h with ⟨z, h1, rfl⟩ | ⟨x, σ1, h1, h2⟩
    · exact xU g h1 hc iv hx.cast fun p e => by cases e
    · refine xU g h1 hc iv HXX.ok fun p e y H1 _ hc1 iv1 => ?_
      cases e
      split at h2
      · cases h2
        obtain ⟨a, vs, X', M', wss, rfl, ha, sm, iv2, th⟩ := src_one (K := K) iv1
        show onQ K H1 a _ _
        rw [onQ_l ha]
        exact hq _ rfl _ X' M' wss H1 sm hc1 iv2 th
      · cases h2
        obtain ⟨a, vs, X', M', wss, rfl, ha, sm, iv2, th⟩ := src_oneT (K := K) iv1
        show onQ K H1 a _ _
        rw [onQ_t ha]
        exact hq _ rfl _ X' M' wss H1 sm hc1 iv2 th
      · cases h2
  | .us vs (.rng es) => by
    intro X M Γ H σp σp' σ r R E h hc iv hx hq
    simp only [evIX] at h
    obtain ⟨M', iv1, av, cl, dm, kp⟩ := iv.look hc vs
    show wpEs (cnOf T K n) E es σ H _
    split at h
    · rename_i ps hp
      split at h
      · rename_i xs hr
        cases h
        refine pEs g es hp av iv1 HX.ok fun ps' e us H1 l1 l2 iv2 => ?_
        cases e
        have ivk := kp _ _ iv2
        have fin : ∀ (lo st : Int) (m : Nat), xs = ((List.range m).map fun (i : Nat) => PV.int (lo + (i : Nat) * st)) → R (.rng lo st m) H1 := by
          intro lo st m e
          subst e
          refine hq _ rfl _ X M (((List.range m).map fun (i : Nat) => V.int (lo + (i : Nat) * st)).map fun v => [v]) H1 ⟨by simp [Src.len], by simp, fun _ _ => trivial, ?_⟩ hc ?_ fun _ _ z => z
          · intro i itm ws e1 e2
            rw [List.getElem?_map, List.getElem?_map] at e1 e2
            by_cases hi : i < m
            · rw [List.getElem?_range hi] at e1 e2
              cases e1; cases e2
              exact ⟨_, rfl, .inr ⟨lo, st, m, rfl, rfl⟩⟩
            · rw [List.getElem?_eq_none (by simp; omega)] at e1; cases e1
          · rw [itG_one, List.zip_map']
            refine Iv.addFs ivk ?_
            intro g hg
            obtain ⟨i, _, rfl⟩ := List.mem_map.mp hg
            rfl
        unfold rngP at hr
        split at hr
        · split at hr
          · rename_i hf
            cases hr
            have hf := of_decide_eq_true hf
            obtain ⟨u, rfl⟩ := len1 l1
            cases Iv.int_ iv2
            exact ⟨hf.1, hf.2, fin 0 1 _ rfl⟩
          · cases hr
        · split at hr
          · rename_i hf
            cases hr
            have hf := of_decide_eq_true hf
            obtain ⟨u, w, rfl⟩ := lenPV2 l1
            cases Iv.int_ iv2
            cases Iv.int_ iv2.tail
            exact ⟨hf, fin _ 1 _ rfl⟩
          · cases hr
        · split at hr
          · rename_i hf
            cases hr
            have hf := of_decide_eq_true hf
            match us, l1, iv2 with
            | [u, w, z], _, iv2 =>
              cases Iv.int_ iv2
              cases Iv.int_ iv2.tail
              cases Iv.int_ iv2.tail.tail
              exact ⟨hf.1, hf.2, fin _ (-1) _ rfl⟩
          · cases hr
        · cases hr
      · cases h
    · cases h
  | .us vs (.enm e) => by
    intro X M Γ H σp σp' σ r R E h hc iv hx hq
    simp only [evIX] at h
    show wpE (cnOf T K n) E e σ H _
    rcases bnX_some h with ⟨z, h1, rfl⟩ | ⟨x, σ1, h1, h2⟩
    · exact xU g h1 hc iv hx.cast fun p e => by cases e
    · refine xU g h1 hc iv HXX.ok fun p e y H1 _ hc1 iv1 => ?_
      cases e
      split at h2
      · cases h2
        obtain ⟨a, vs, X', M', wss, rfl, ha, sm, iv2, th⟩ := src_enmM (K := K) iv1
        show onL K H1 a _
        rw [onL_of ha]
        exact hq _ rfl _ X' M' wss H1 sm hc1 iv2 th
      · cases h2
  | .us vs (.zip e1 e2) => by
    intro X M Γ H σp σp' σ r R E h hc iv hx hq
    simp only [evIX] at h
    show wpE (cnOf T K n) E e1 σ H _
    rcases bnX_some h with ⟨z, h1, rfl⟩ | ⟨x, σ1, h1, h2⟩
    · exact xU g h1 hc iv hx.cast fun p e => by cases e
    · refine xU g h1 hc iv HXX.ok fun p e v H1 _ hc1 iv1 => ?_
      cases e
      rcases bnX_some h2 with ⟨z, h3, rfl⟩ | ⟨y, σ2, h3, h4⟩
      · exact xU g h3 hc1 iv1.toB hx.cons.cast fun p e => by cases e
      · refine xU g h3 hc1 iv1.toB HXX.ok fun p e w H2 _ hc2 iv2 => ?_
        cases e
        split at h4
        · cases h4
          obtain ⟨a, b, vs, ws, X', M', wss, rfl, ha, rfl, hb, sm, iv3, th⟩ := src_zipM (K := K) (iv2.perm ((List.Perm.cons _ List.perm_middle).trans (List.Perm.swap _ _ _)))
          show onL K H2 a _
          rw [onL_of ha]
          show onL K H2 b _
          rw [onL_of hb]
          exact hq _ rfl _ X' M' wss H2 sm hc2 iv3 th
        · cases h4
  | .us vs (.us _ _) => by intro X M Γ H σp σp' σ r Q E h; simp only [evIX] at h; cases h
  | .seq e => by
    intro X M Γ H σp σp' σ r R E h hc iv hx hq
    simp only [evIX] at h
    refine xB (xE g e) h hc iv hx fun p x σ1 H1 h1 hc1 iv1 => ?_
    split at h1
    · cases h1
      obtain ⟨a, vs, X', M', wss, rfl, ha, sm, iv2, th⟩ := src_one (K := K) iv1
      show onQ K H1 a _ _
      rw [onQ_l ha]
      exact hq _ rfl _ X' M' wss H1 sm hc1 iv2 th
    · cases h1
      obtain ⟨a, vs, X', M', wss, rfl, ha, sm, iv2, th⟩ := src_oneT (K := K) iv1
      show onQ K H1 a _ _
      rw [onQ_t ha]
      exact hq _ rfl _ X' M' wss H1 sm hc1 iv2 th
    · cases h1
  | .rng es => by
    intro X M Γ H σp σp' σ r R E h hc iv hx hq
    simp only [evIX] at h
    refine xBs (xEs g es) h hc iv hx fun ps us σ1 H1 h1 l1 l2 hc1 iv2 => ?_
    split at h1
    · rename_i xs hr
      cases h1
      have ivk := iv2.right
      have fin : ∀ (lo st : Int) (m : Nat), xs = ((List.range m).map fun (i : Nat) => PV.int (lo + (i : Nat) * st)) → R (.rng lo st m) H1 := by
        intro lo st m e
        subst e
        refine hq _ rfl _ X M (((List.range m).map fun (i : Nat) => V.int (lo + (i : Nat) * st)).map fun v => [v]) H1 ⟨by simp [Src.len], by simp, fun _ _ => trivial, ?_⟩ hc1 ?_ fun _ _ z => z
        · intro i itm ws e1 e2
          rw [List.getElem?_map, List.getElem?_map] at e1 e2
          by_cases hi : i < m
          · rw [List.getElem?_range hi] at e1 e2
            cases e1; cases e2
            exact ⟨_, rfl, .inr ⟨lo, st, m, rfl, rfl⟩⟩
          · rw [List.getElem?_eq_none (by simp; omega)] at e1; cases e1
        · rw [itG_one, List.zip_map']
          refine Iv.addFs ivk ?_
          intro g hg
          obtain ⟨i, _, rfl⟩ := List.mem_map.mp hg
          rfl
      unfold rngP at hr
      split at hr
      · split at hr
        · rename_i hf
          cases hr
          have hf := of_decide_eq_true hf
          obtain ⟨u, rfl⟩ := len1 l1
          cases Iv.int_ iv2
          exact ⟨hf.1, hf.2, fin 0 1 _ rfl⟩
        · cases hr
      · split at hr
        · rename_i hf
          cases hr
          have hf := of_decide_eq_true hf
          obtain ⟨u, w, rfl⟩ := lenPV2 l1
          cases Iv.int_ iv2
          cases Iv.int_ iv2.tail
          exact ⟨hf, fin _ 1 _ rfl⟩
        · cases hr
      · split at hr
        · rename_i hf
          cases hr
          have hf := of_decide_eq_true hf
          match us, l1, iv2 with
          | [u, w, z], _, iv2 =>
            cases Iv.int_ iv2
            cases Iv.int_ iv2.tail
            cases Iv.int_ iv2.tail.tail
            exact ⟨hf.1, hf.2, fin _ (-1) _ rfl⟩
        · cases hr
      · cases hr
    · cases h1
  | .enm _ => by intro X M Γ H σp σp' σ r Q E h; simp only [evIX] at h; cases h
  | .zip _ _ => by intro X M Γ H σp σp' σ r Q E h; simp only [evIX] at h; cases h
end
end
end VC

namespace VC
open PySem PySem.Spec PyProof.Rows L2

structure EI (X : Hp) (M : Addr → Prop) (Γ : List (PV × V)) (σ0 : L2.St) (lk : List Nat) (σp : PSt) (σ : L2.St) (H : Hp) : Prop where
  c : envC σp σ
  iv : Iv X M (envG σp σ ++ Γ) H
  lk : ∀ j ∈ lk, σ[j]? = σ0[j]?
structure DO (ca : Str → Value) (X : Hp) (M : Addr → Prop) (Γ : List (PV × V)) (σ0 : L2.St) (lk : List Nat) (D : Ends) (E : XK) (o : Out) : Prop where
  nx : ∀ σp, o = .nx σp → ∀ σ H, EI X M Γ σ0 lk σp σ H → D.nx σ H
  bk : ∀ σp, o = .bk σp → ∀ σ H, EI X M Γ σ0 lk σp σ H → D.bk σ H
  ct : ∀ σp, o = .ct σp → ∀ σ H, EI X M Γ σ0 lk σp σ H → D.ct σ H
  rt : ∀ p σp, o = .rt p σp → ∀ v σ H, EI X M ((p, v) :: Γ) σ0 lk σp σ H → D.rt v H
  ex : ∀ x σp, o = .ex x σp → ∀ vs cls d σ H, XV ca x vs cls d H → EI X M ((x.fs.map (·.2)).zip vs ++ Γ) σ0 lk σp σ H → E cls d H
section
variable {ca : Str → Value} {X : Hp} {M : Addr → Prop} {Γ Δ : List (PV × V)} {H H1 : Hp} {p q : PV} {v w : V} {K : PySem.W.Frag} {σp σp1 σp' : PSt} {σ σ0 σ1 : L2.St} {lk : List Nat} {E : XK} {D : Ends} {o : Out}
theorem bnS_some {α : Type} {m : Option (Rx α × PSt)} {f : α → PSt → Option Out} {o : Out} (h : bnS m f = some o) : (∃ x σ1, m = some (.ex x, σ1) ∧ o = .ex x σ1) ∨ ∃ a σ1, m = some (.ok a, σ1) ∧ f a σ1 = some o := by
  unfold bnS at h
  split at h
  · exact .inr ⟨_, _, rfl, h⟩
  · cases h; exact .inl ⟨_, _, rfl, rfl⟩
  · cases h
theorem DO.hx {x : PX} {β : Type} (d : DO ca X M Γ σ0 lk D E (.ex x σp)) (hl : ∀ j ∈ lk, σ[j]? = σ0[j]?) : HXX ca X M σp σ Γ E (.ex x : Rx β) := fun y e hc vs cls dd H1 hv iv => by
  cases e
  exact d.ex x σp rfl vs cls dd σ H1 hv ⟨hc, iv.toBs, hl⟩
theorem EI.set (hl : ∀ j ∈ lk, σ[j]? = σ0[j]?) (hc : envC σp σ) (iv : Iv X M ((p, v) :: (envG σp σ ++ Γ)) H) {j : Nat} {σp' : PSt} (h : stP lk j p σp = some σp') : EI X M Γ σ0 lk σp' (σ.set j (some v)) H := by
  unfold stP at h
  split at h
  · cases h
  · rename_i hn
    cases h
    refine ⟨hc.set j, iv.setE j, fun i hi => ?_⟩
    rw [List.getElem?_set, if_neg]
    · exact hl i hi
    · intro e; subst e; simp [hi] at hn
theorem EI.sets (hl : ∀ j ∈ lk, σ[j]? = σ0[j]?) (hc : envC σp σ) {ys : List PV} {ws : List V} (iv : Iv X M (ys.zip ws ++ (envG σp σ ++ Γ)) H) (l : ws.length = ys.length) {js : List Nat} {σp' : PSt} (h : stPs lk js ys σp = some σp') : EI X M Γ σ0 lk σp' (setAll σ js ws) H := by
  unfold stPs at h
  split at h
  · cases h
  · rename_i hn
    cases h
    obtain ⟨z1, z2⟩ := Iv.setsE (js := js) iv l hc
    exact ⟨z2, z1, fun i hi => by rw [setAll_out hi (by simpa using hn)]; exact hl i hi⟩
theorem stL_some {j : Int} {x q q' : PV} (h : stL j x q = some q') : ∃ xs m, q = LL true xs ∧ ixN xs.length j = some m ∧ q' = LL true (xs.set m x) := by
  unfold stL at h
  split at h
  · rename_i xs
    cases e : ixN xs.length j with
    | none => rw [e] at h; cases h
    | some m => rw [e] at h; cases h; exact ⟨xs, m, rfl, e, rfl⟩
  · cases h
theorem agL_some {op : Operator} {j : Int} {y q q' : PV} (h : agL op j y q = some q') : ∃ xs u w z, q = LL true xs ∧ 0 ≤ j ∧ xs[j.toNat]? = some (.int u) ∧ y = .int w ∧ opI op (.int u) (.int w) = some z ∧ q' = LL true (xs.set j.toNat z) := by
  unfold agL at h
  split at h
  · rename_i xs
    split at h
    · rename_i hj
      split at h
      · rename_i u hu
        split at h
        · rename_i w
          cases e : opI op (.int u) (.int w) with
          | none => rw [e] at h; cases h
          | some z => rw [e] at h; cases h; exact ⟨xs, u, w, z, rfl, hj, hu, rfl, e, rfl⟩
        · cases h
      · cases h
    · cases h
  · cases h
theorem opI_int {op : Operator} {u w : Int} {z : PV} {H : Hp} {Q : VK} (h : opI op (.int u) (.int w) = some z) (hq : ∀ i, z = .int i → Q (.int i) H) : opIp op (.int u) (.int w) H Q := by
  unfold opI at h
  split at h <;> try (cases h; done)
  · rename_i e1 e2; cases e1; cases e2; cases h; exact hq _ rfl
  · rename_i e1 e2; cases e1; cases e2; cases h; exact hq _ rfl
  · rename_i e1 e2
    cases e1; cases e2
    split at h
    · rename_i hf
      cases h
      simp only [Bool.and_eq_true, decide_eq_true_eq] at hf
      exact ⟨.inr ⟨by omega, by omega⟩, hq _ rfl⟩
    · cases h
theorem opI_get {op : Operator} {u w : Int} {z : PV} (h : opI op (.int u) (.int w) = some z) : ∃ i, z = .int i := by
  unfold opI at h
  split at h <;> try (cases h; done)
  · cases h; exact ⟨_, rfl⟩
  · cases h; exact ⟨_, rfl⟩
  · split at h
    · cases h; exact ⟨_, rfl⟩
    · cases h
end
section
variable {ca : Str → Value} {c : PCn} {T : Tab} {K : PySem.W.Frag} {n : Nat}
def SSs (ca : Str → Value) (c : PCn) (T : Tab) (K : PySem.W.Frag) (n : Nat) (lk : List Nat) (f : PSt → Option Out) (wp : XK → TS) : Prop :=
  ∀ ⦃X : Hp⦄ ⦃M : Addr → Prop⦄ ⦃Γ : List (PV × V)⦄ ⦃σ0 : L2.St⦄ ⦃H : Hp⦄ ⦃σp : PSt⦄ ⦃σ : L2.St⦄ ⦃o : Out⦄ ⦃D : Ends⦄ ⦃E : XK⦄, f σp = some o → EI X M Γ σ0 lk σp σ H → DO ca X M Γ σ0 lk D E o → wp E D σ H
theorem sB (g : GOk ca c T K n) {e : Ex} {X : Hp} {M : Addr → Prop} {Γ : List (PV × V)} {σ0 : L2.St} {lk : List Nat} {H : Hp} {σp : PSt} {σ : L2.St} {o : Out} {D : Ends} {E : XK} {f : PV → PSt → Option Out} {Q : VK} (h : bnS (evX c e σp) f = some o) (i : EI X M Γ σ0 lk σp σ H) (d : DO ca X M Γ σ0 lk D E o)
    (hk : ∀ p x σ1 H1, f p σ1 = some o → envC σ1 σ → Iv X M ((p, x) :: (envG σ1 σ ++ Γ)) H1 → Q x H1) : wpE (cnOf T K n) E e σ H Q := by
  rcases bnS_some h with ⟨x, σ1, h1, rfl⟩ | ⟨p, σ1, h1, h2⟩
  · exact xE g e h1 i.c i.iv (d.hx i.lk) fun p e => by cases e
  · exact xE g e h1 i.c i.iv HXX.ok fun p' e x H1 hc iv => by cases e; exact hk p x σ1 H1 h2 hc iv
theorem for_ok {lk : List Nat} {f : PSt → Option Out} {tb : XK → TS} (ih : SSs ca c T K n lk f tb) {tg : Tg} (ht : tgOk lk tg = true) {X X' : Hp} {M M' : Addr → Prop} {Γ : List (PV × V)} {σ0 : L2.St} {H : Hp} {σp : PSt} {σ : L2.St} {o : Out} {D : Ends} {E : XK} {s : Src} {its : List Itm} {wss : List (List V)}
    (sm : SrcM K X' s its wss) (hc : envC σp σ) (hl : ∀ j ∈ lk, σ[j]? = σ0[j]?) (iv : Iv X' M' (itG its wss ++ (envG σp σ ++ Γ)) H) (th : ∀ Γ' H', Iv X' M' Γ' H' → Iv X M Γ' H') (h : forX f tg its σp = some o) (d : DO ca X M Γ σ0 lk D E o) : forW K s tg (tb E) D σ H := by
  refine ⟨fun i σ H => ∃ σk, forX f tg (its.drop i) σk = some o ∧ envC σk σ ∧ (∀ j ∈ lk, σ[j]? = σ0[j]?) ∧ Iv X' M' (itG (its.drop i) (wss.drop i) ++ (envG σk σ ++ Γ)) H, ⟨σp, h, hc, hl, iv⟩, ?_, ?_⟩
  · rintro i σ H hi ⟨σk, hf, hck, hlk, ivk⟩
    have hi' : i < its.length := by rw [← sm.len]; exact hi
    have hw' : i < wss.length := by rw [sm.wl]; exact hi'
    refine ⟨sm.ok H ivk.same, ?_⟩
    have hit : its[i]? = some its[i] := List.getElem?_eq_getElem hi'
    have hiw : wss[i]? = some wss[i] := List.getElem?_eq_getElem hw'
    rw [itG_drop hit hiw, List.append_assoc] at ivk
    rw [List.drop_eq_getElem_cons hi', forX] at hf
    split at hf
    · cases hf
    · rename_i σ1 hb
      have iv1 : Iv X' M' ((itP its[i]).zip wss[i] ++ (envG σk σ ++ (itG (its.drop (i + 1)) (wss.drop (i + 1)) ++ Γ))) H := ivk.perm (List.Perm.append_left _ (swA _ _ _))
      refine srcM_step sm hit hiw hb hck iv1 fun σr H2 hc2 td iv2 => ?_
      have hl2 : ∀ j ∈ lk, σr[j]? = σ0[j]? := fun j hj => by rw [td.out lk ht j hj]; exact hlk j hj
      have go : ∀ o', f σ1 = some o' → DO ca X' M' (itG (its.drop (i + 1)) (wss.drop (i + 1)) ++ Γ) σ0 lk { nx := fun σ H => ∃ σk, forX f tg (its.drop (i + 1)) σk = some o ∧ envC σk σ ∧ (∀ j ∈ lk, σ[j]? = σ0[j]?) ∧ Iv X' M' (itG (its.drop (i + 1)) (wss.drop (i + 1)) ++ (envG σk σ ++ Γ)) H, ct := fun σ H => ∃ σk, forX f tg (its.drop (i + 1)) σk = some o ∧ envC σk σ ∧ (∀ j ∈ lk, σ[j]? = σ0[j]?) ∧ Iv X' M' (itG (its.drop (i + 1)) (wss.drop (i + 1)) ++ (envG σk σ ++ Γ)) H, bk := D.nx, rt := D.rt } E o' → _ := fun o' ho' dd => ih ho' ⟨hc2, iv2, hl2⟩ dd
      have dropR : ∀ {σz : PSt} {σy : L2.St} {H3 : Hp}, Iv X' M' (envG σz σy ++ (itG (its.drop (i + 1)) (wss.drop (i + 1)) ++ Γ)) H3 → Iv X M (envG σz σy ++ Γ) H3 := fun z => th _ _ z.midA
      cases hfo : f σ1 with
      | none => rw [hfo] at hf; cases hf
      | some o' =>
        rw [hfo] at hf
        refine go o' hfo ?_
        cases o' with
        | nx σ2 => exact ⟨fun σp e σ H e1 => by cases e; exact ⟨_, hf, e1.c, e1.lk, e1.iv.toBs⟩, (fun _ e => by cases e), (fun _ e => by cases e), (fun _ _ e => by cases e), (fun _ _ e => by cases e)⟩
        | ct σ2 => exact ⟨(fun _ e => by cases e), (fun _ e => by cases e), fun σp e σ H e1 => by cases e; exact ⟨_, hf, e1.c, e1.lk, e1.iv.toBs⟩, (fun _ _ e => by cases e), (fun _ _ e => by cases e)⟩
        | bk σ2 => cases hf; exact ⟨(fun _ e => by cases e), fun σp e σ H e1 => by cases e; exact d.nx _ rfl σ H ⟨e1.c, dropR e1.iv, e1.lk⟩, (fun _ e => by cases e), (fun _ _ e => by cases e), (fun _ _ e => by cases e)⟩
        | rt p σ2 => cases hf; exact ⟨(fun _ e => by cases e), (fun _ e => by cases e), (fun _ e => by cases e), fun p σp e v σ H e1 => by cases e; exact d.rt _ _ rfl v σ H ⟨e1.c, by have z := th _ _ (Iv.midA (Γ1 := envG σ2 σ ++ [(p, v)]) (Γ2 := itG (its.drop (i + 1)) (wss.drop (i + 1))) (Γ := Γ) (by rw [List.append_assoc]; exact e1.iv)); rw [List.append_assoc] at z; exact z, e1.lk⟩, (fun _ _ e => by cases e)⟩
        | ex x σ2 => cases hf; exact ⟨(fun _ e => by cases e), (fun _ e => by cases e), (fun _ e => by cases e), (fun _ _ e => by cases e), fun x σp e vs cls dd σ H hv e1 => by
            cases e
            refine d.ex _ _ rfl vs cls dd σ H hv ⟨e1.c, ?_, e1.lk⟩
            have z := e1.iv.toBs
            have z2 : Iv X' M' ((x.fs.map (·.2)).zip vs ++ (itG (its.drop (i + 1)) (wss.drop (i + 1)) ++ (envG σ2 σ ++ Γ))) H := z.perm (List.Perm.append_left _ (swA _ _ _))
            exact (th _ _ z2.midA).toBs⟩
  · rintro σ H ⟨σk, hf, hck, hlk, ivk⟩
    rw [sm.len] at hf ivk
    rw [List.drop_length, forX] at hf
    cases hf
    refine ⟨sm.ok H ivk.same, d.nx _ rfl σ H ⟨hck, ?_, hlk⟩⟩
    rw [List.drop_length] at ivk
    exact th _ _ (by simpa only [itG, List.nil_append] using ivk)
theorem whl_ok (g : GOk ca c T K n) {lk : List Nat} {t : Ts} {f : PSt → Option Out} {tb : XK → TS} (ih : SSs ca c T K n lk f tb) {X : Hp} {M : Addr → Prop} {Γ : List (PV × V)} {σ0 : L2.St} {o : Out} {D : Ends} {E : XK} (d : DO ca X M Γ σ0 lk D E o) {m : Nat} {σp : PSt} {σ : L2.St} {H : Hp} (h : whlX (evXT c t) f m σp = some o) (i : EI X M Γ σ0 lk σp σ H) :
    whileW (wpT (cnOf T K n) E t) (tb E) D σ H := by
  refine ⟨fun m σ H => ∃ σk, whlX (evXT c t) f m σk = some o ∧ EI X M Γ σ0 lk σk σ H, ⟨m, σp, h, i⟩, ?_⟩
  rintro m σ H ⟨σk, hw, ei⟩
  cases m with
  | zero => rw [whlX] at hw; cases hw
  | succ m =>
    rw [whlX] at hw
    cases ht : evXT c t σk with
    | none => rw [ht] at hw; cases hw
    | some rt =>
      obtain ⟨r, σ1⟩ := rt
      rw [ht] at hw
      cases r with
      | ex x => cases hw; exact xT g t ht ei.c ei.iv (d.hx ei.lk) fun b e => by cases e
      | ok b =>
        refine xT g t ht ei.c ei.iv HXX.ok fun b' e H1 hc1 iv1 => ?_
        cases e
        cases b with
        | false => cases hw; exact if_F (d.nx _ rfl σ H1 ⟨hc1, iv1, ei.lk⟩)
        | true =>
          refine if_T ?_
          dsimp only at hw
          cases hfo : f σ1 with
          | none => rw [hfo] at hw; cases hw
          | some o' =>
            rw [hfo] at hw
            refine ih hfo ⟨hc1, iv1, ei.lk⟩ ?_
            cases o' with
            | nx σ2 => exact ⟨fun σp e σ H e1 => by cases e; exact ⟨m, Nat.lt_succ_self m, _, hw, e1⟩, (fun _ e => by cases e), (fun _ e => by cases e), (fun _ _ e => by cases e), (fun _ _ e => by cases e)⟩
            | ct σ2 => exact ⟨(fun _ e => by cases e), (fun _ e => by cases e), fun σp e σ H e1 => by cases e; exact ⟨m, Nat.lt_succ_self m, _, hw, e1⟩, (fun _ _ e => by cases e), (fun _ _ e => by cases e)⟩
            | bk σ2 => cases hw; exact ⟨(fun _ e => by cases e), fun σp e σ H e1 => by cases e; exact d.nx _ rfl σ H e1, (fun _ e => by cases e), (fun _ _ e => by cases e), (fun _ _ e => by cases e)⟩
            | rt p σ2 => cases hw; exact ⟨(fun _ e => by cases e), (fun _ e => by cases e), (fun _ e => by cases e), fun p σp e v σ H e1 => by cases e; exact d.rt _ _ rfl v σ H e1, (fun _ _ e => by cases e)⟩
            | ex x σ2 => cases hw; exact ⟨(fun _ e => by cases e), (fun _ e => by cases e), (fun _ e => by cases e), (fun _ _ e => by cases e), fun x σp e vs cls dd σ H hv e1 => by cases e; exact d.ex _ _ rfl vs cls dd σ H hv e1⟩

theorem set_perm {xs : List PV} {vs : List V} {m : Nat} {p : PV} {x : V} (hx : m < xs.length) (hl : vs.length = xs.length) : ∃ Γ0, ((xs.set m p).zip (vs.set m x) ++ Γ0).Perm (xs.zip vs ++ [(p, x)]) := by
  have key : ∀ (xs : List PV) (vs : List V) (m : Nat) (hx : m < xs.length) (hv : m < vs.length), ∃ Γ2, (xs.zip vs).Perm ((xs[m], vs[m]) :: Γ2) ∧ ((xs.set m p).zip (vs.set m x)).Perm ((p, x) :: Γ2) := by
    intro xs
    induction xs with
    | nil => intro vs m hx; cases hx
    | cons a xs ih =>
      intro vs m hx hv
      cases vs with
      | nil => cases hv
      | cons b vs =>
        cases m with
        | zero => exact ⟨xs.zip vs, .refl _, .refl _⟩
        | succ m =>
          obtain ⟨Γ2, w1, w2⟩ := ih vs m (by simpa using hx) (by simpa using hv)
          exact ⟨(a, b) :: Γ2, (w1.cons _).trans (.swap _ _ _), (w2.cons _).trans (.swap _ _ _)⟩
  obtain ⟨Γ2, w1, w2⟩ := key xs vs m hx (by rw [hl]; exact hx)
  refine ⟨[(xs[m], vs[m]'(by rw [hl]; exact hx))], ?_⟩
  refine (w2.append_right _).trans (List.Perm.trans ?_ (w1.append_right _).symm)
  show ((p, x) :: (Γ2 ++ [(xs[m], _)])).Perm ((xs[m], _) :: (Γ2 ++ [(p, x)]))
  exact (List.Perm.cons _ List.perm_append_comm).trans ((List.Perm.swap _ _ _).trans (List.Perm.cons _ (List.perm_append_comm (l₁ := [(p, x)]))))
theorem exL_some {x y z : PV} (h : exL x y = some z) : ∃ xs t ys, x = LL true xs ∧ y = .nod .lst t ys ∧ xs.length + ys.length ≤ sizeLine ∧ z = LL true (xs ++ ys) := by
  unfold exL at h
  split at h
  · split at h
    · rename_i hf; cases h; exact ⟨_, _, _, rfl, rfl, fitB_ok hf, rfl⟩
    · cases h
  · cases h
theorem set_self {σ : L2.St} {j : Nat} {v : V} (h : σ[j]? = some (some v)) : σ.set j (some v) = σ := by
  obtain ⟨hl, e⟩ := List.getElem?_eq_some_iff.mp h
  rw [← e, List.set_getElem_self]
theorem stA_ok (g : GOk ca c T K n) {o' ix : Ex} {p : PV} {x : V} {σ1 σ2 : PSt} {σ : L2.St} {X : Hp} {M : Addr → Prop} {Γ : List (PV × V)} {H1 : Hp} {E : XK} {F : Hp → Prop} (h : stA c o' ix p σ1 = some σ2) (hc1 : envC σ1 σ) (iv1 : Iv X M ((p, x) :: (envG σ1 σ ++ Γ)) H1)
    (hF : ∀ H2, envC σ2 σ → Iv X M (envG σ2 σ ++ Γ) H2 → F H2) : wpE (cnOf T K n) E o' σ H1 fun a H2 => wpE (cnOf T K n) E ix σ H2 fun b H3 => match a, b with
      | .ref p, .int k => ∃ xs j, H3 p = some (.lst xs) ∧ ixN xs.length k = some j ∧ F (upd H3 p (.lst (xs.set j x)))
      | _, _ => False := by
  unfold stA at h
  split at h
  · rename_i v π j ho hj
    split at h
    · rename_i q hq
      split at h
      · rename_i q' hup
        cases h
        obtain ⟨u, hu⟩ := hc1.at_ v q hq
        obtain ⟨w, z, z', X', M', Γ', va, hz, ivz⟩ := upP_at hup (Iv.takeE iv1.toB hq hu)
        obtain ⟨xs, m, rfl, hm, _⟩ := stL_some hz
        obtain ⟨b, vs, rfl, hb, hl, _⟩ := ivz.open_
        refine plc_ok ho hu va ?_
        refine xJ g hj hc1 iv1.toB fun H2 s2 iv2 => ?_
        show ∃ xs j', H2 b = some (.lst xs) ∧ ixN xs.length j = some j' ∧ F (upd H2 b (.lst (xs.set j' x)))
        obtain ⟨b', vs', hR⟩ := put_at (Γe := [(p, x)]) (R := fun b' vs' => ∃ xs j', H2 b = some (.lst xs) ∧ ixN xs.length j = some j' ∧ F (upd H2 b (.lst (xs.set j' x)))) hup hq hu iv2.toF (fun q q' hq => by
          obtain ⟨xs, m, e, _⟩ := stL_some hq
          exact ⟨xs, e⟩) (fun b' vs' hb' va' kk => by
          have e := vAt_det (va.same s2) va'
          cases e
          have e2 : vs' = vs := by
            have := hb'.symm.trans (s2 b _ hb)
            simpa [Kd.ho] using this
          subst e2
          refine ⟨vs', m, hb', by rw [hl]; exact hm, hF _ (hc1.setL hu) (kk _ fun xs' hl' _ q' hq' => ?_)⟩
          obtain ⟨xs2, m2, e3, hm2, rfl⟩ := stL_some hq'
          cases e3
          have e4 : m2 = m := by
            rw [← hl', hl, hm] at hm2
            exact (Option.some.inj hm2).symm
          subst e4
          have hml : m2 < xs'.length := by
            rw [← hl', hl]
            unfold ixN at hm
            split at hm
            · split at hm
              · cases hm; omega
              · cases hm
            · split at hm
              · cases hm; omega
              · cases hm
          exact ⟨_, rfl, by simp [hl'], set_perm hml hl'⟩
          )
        exact hR
      · cases h
    · cases h
  · cases h
mutual
theorem yS (g : GOk ca c T K n) (lk : List Nat) : ∀ s : Sm, SSs ca c T K n lk (evS c lk s) (fun E => wpS (cnOf T K n) E s)
  | .expr e => by
    intro X M Γ σ0 H σp σ o D E h i d
    simp only [evS] at h
    refine sB g h i d fun p x σ1 H1 h1 hc1 iv1 => ?_
    cases h1
    exact d.nx _ rfl σ H1 ⟨hc1, iv1.tail, i.lk⟩
  | .ret e => by
    intro X M Γ σ0 H σp σ o D E h i d
    simp only [evS] at h
    refine sB g h i d fun p x σ1 H1 h1 hc1 iv1 => ?_
    cases h1
    exact d.rt _ _ rfl x σ H1 ⟨hc1, iv1.toB, i.lk⟩
  | .retN => by
    intro X M Γ σ0 H σp σ o D E h i d
    simp only [evS] at h
    cases h
    exact d.rt _ _ rfl .non σ H ⟨i.c, (Iv.addN i.iv).toB, i.lk⟩
  | .asg j e => by
    intro X M Γ σ0 H σp σ o D E h i d
    simp only [evS] at h
    refine sB g h i d fun p x σ1 H1 h1 hc1 iv1 => ?_
    cases hs : stP lk j p σ1 with
    | none => rw [hs] at h1; cases h1
    | some σ2 => rw [hs] at h1; cases h1; exact d.nx _ rfl _ H1 (EI.set i.lk hc1 iv1 hs)
  | .unp is e => by
    intro X M Γ σ0 H σp σ o D E h i d
    simp only [evS] at h
    refine sB g h i d fun p x σ1 H1 h1 hc1 iv1 => ?_
    split at h1
    · split at h1
      · rename_i t ys hl
        cases hs : stPs lk is ys σ1 with
        | none => rw [hs] at h1; cases h1
        | some σ2 =>
          rw [hs] at h1
          cases h1
          obtain ⟨a, vs, rfl, ha, hm, iv2⟩ := iv1.open_
          show onT K H1 a _
          rw [onT_of ha]
          exact ⟨by rw [hm]; exact eq_of_beq hl, d.nx _ rfl _ H1 (EI.sets i.lk hc1 iv2 hm hs)⟩
      · cases h1
    · cases h1
  | .par is es => by
    intro X M Γ σ0 H σp σ o D E h i d
    simp only [evS] at h
    rcases bnS_some h with ⟨x, σ1, h1, rfl⟩ | ⟨ps, σ1, h1, h2⟩
    · exact xEs g es h1 i.c i.iv (d.hx i.lk) fun p e => by cases e
    · refine xEs g es h1 i.c i.iv HXX.ok fun ps' e xs H1 l1 l2 hc1 iv1 => ?_
      cases e
      split at h2
      · rename_i hl
        cases hs : stPs lk is ps σ1 with
        | none => rw [hs] at h2; cases h2
        | some σ2 =>
          rw [hs] at h2
          cases h2
          exact ⟨by rw [l1]; exact eq_of_beq hl, d.nx _ rfl _ H1 (EI.sets i.lk hc1 iv1 l1 hs)⟩
      · cases h2
  | .setI o' ix e => by
    intro X M Γ σ0 H σp σ o D E h i d
    simp only [evS] at h
    refine sB g h i d fun p x σ1 H1 h1 hc1 iv1 => ?_
    cases hs : stA c o' ix p σ1 with
    | none => rw [hs] at h1; cases h1
    | some σ2 =>
      rw [hs] at h1
      cases h1
      exact stA_ok g hs hc1 iv1 fun H2 hc2 iv2 => d.nx _ rfl σ _ ⟨hc2, iv2, i.lk⟩
  | .setI2 o' ix o2 ix2 e => by
    intro X M Γ σ0 H σp σ o D E h i d
    simp only [evS] at h
    refine sB g h i d fun p x σ1 H1 h1 hc1 iv1 => ?_
    split at h1
    · rename_i t y z
      cases hs : stA c o' ix y σ1 with
      | none => rw [hs] at h1; cases h1
      | some σ2 =>
        rw [hs] at h1
        have h1 : Option.map Out.nx (stA c o2 ix2 z σ2) = some o := h1
        cases hs2 : stA c o2 ix2 z σ2 with
        | none => rw [hs2] at h1; cases h1
        | some σ3 =>
          rw [hs2] at h1
          cases h1
          obtain ⟨a, vs, rfl, ha, hm, iv2⟩ := iv1.open_
          show onT K H1 a _
          rw [onT_of ha]
          obtain ⟨v, w, rfl⟩ := lenPV2 hm
          have iv3 : Iv X M ((y, v) :: (envG σ1 σ ++ ((z, w) :: Γ))) H1 := by
            refine iv2.perm ?_
            show ((y, v) :: (z, w) :: (envG σ1 σ ++ Γ)).Perm _
            exact List.Perm.cons _ List.perm_middle.symm
          refine stA_ok (E := E) (F := fun H3 => wpE (cnOf T K n) E o2 σ H3 fun x H4 => wpE (cnOf T K n) E ix2 σ H4 fun y H5 => match x, y with
              | .ref p, .int k => ∃ xs j, H5 p = some (.lst xs) ∧ ixN xs.length k = some j ∧ D.nx σ (upd H5 p (.lst (xs.set j w)))
              | _, _ => False) g hs hc1 iv3 fun H2 hc2 iv4 => ?_
          exact stA_ok g hs2 hc2 iv4.toF fun H3 hc3 iv5 => d.nx _ rfl σ _ ⟨hc3, iv5, i.lk⟩
    · cases h1
  | .aug j op e => by
    intro X M Γ σ0 H σp σ o D E h i d
    simp only [evS] at h
    split at h
    · rename_i u hu
      obtain ⟨v, hv⟩ := i.c.at_ j _ hu
      have ev := (Iv.takeE i.iv hu hv).int_
      subst ev
      refine s_aug hv ?_
      refine sB g h i d fun y x σ1 H1 h1 hc1 iv1 => ?_
      split at h1
      · rename_i z hz
        cases hs : stP lk j z σ1 with
        | none => rw [hs] at h1; cases h1
        | some σ2 =>
          rw [hs] at h1
          cases h1
          have hy : ∃ w, y = .int w := by
            unfold opI at hz
            split at hz <;> first | (cases hz; done) | exact ⟨_, rfl⟩
          obtain ⟨w, rfl⟩ := hy
          cases iv1.int_
          refine opI_int hz fun k ek => ?_
          subst ek
          exact d.nx _ rfl _ H1 (EI.set i.lk hc1 (iv1.tail.addI k) hs)
      · cases h1
    · rename_i k t xs hu
      split at h
      · rename_i hop
        subst hop
        obtain ⟨v, hv⟩ := i.c.at_ j _ hu
        refine s_aug hv ?_
        refine sB g h i d fun y x σ1 H1 h1 hc1 iv1 => ?_
        split at h1
        · rename_i q hq
          split at h1
          · rename_i z hz
            cases h1
            obtain ⟨xs', t', ys, rfl, rfl, hsz, rfl⟩ := exL_some hz
            have iv2 : Iv X M ((PV.nod .lst t' ys, x) :: (LL true xs', v) :: (envG (σ1.set j none) σ ++ Γ)) H1 := ((Iv.takeE iv1.toB hq hv).perm (List.Perm.cons _ List.perm_middle)).sw
            obtain ⟨a, us, b, ws, rfl, ha, hl, rfl, hb, hm, _⟩ := iv2.open2
            refine ⟨us, ws, ha, hb, by rw [hl, hm]; exact hsz, ?_⟩
            show D.nx (σ.set j (some (V.ref a))) _
            rw [set_self hv]
            refine d.nx _ rfl _ _ ⟨hc1.setL hv, ?_, i.lk⟩
            obtain ⟨b', ws', e5, hb', hm', iv3⟩ := iv2.open_
            cases e5
            have e6 : ws' = ws := by
              have := hb'.symm.trans hb
              simpa [Kd.ho] using this
            subst e6
            have iv4 : Iv X M ((LL true xs', .ref a) :: (ys.zip ws' ++ (envG (σ1.set j none) σ ++ Γ))) H1 := iv3.perm List.perm_middle
            have iv5 := Iv.write (k := .lst) (k' := .lst) (ys := xs' ++ ys) (ws := us ++ ws') (Γ' := envG (σ1.set j none) σ ++ Γ) (Γ0 := []) iv4 rfl ha hl (by
              rw [List.append_nil, zip_app hl, List.append_assoc]) (by simp [hl, hm]) rfl rfl
            exact Iv.putE iv5 hv
          · cases h1
        · cases h1
      · cases h
    · cases h
  | .augI o' ix op e => by
    intro X M Γ σ0 H σp σ o D E h i d
    simp only [evS] at h
    split at h
    · rename_i v π j vs e ho hj
      split at h
      · rename_i y q hy hq
        split at h
        · rename_i q' hup
          cases h
          obtain ⟨u, hu⟩ := i.c.at_ v q hq
          obtain ⟨w, z, z', X', M', Γ', va, hz, ivz⟩ := upP_at hup (Iv.takeE i.iv hq hu)
          obtain ⟨xs, u1, w1, z1, rfl, hj0, hu1, rfl, hop, _⟩ := agL_some hz
          obtain ⟨b, bs, rfl, hb, hl, ivo⟩ := ivz.open_
          obtain ⟨k1, rfl⟩ := opI_get hop
          show wpE (cnOf T K n) E o' σ H _
          refine plc_ok ho hu va ?_
          refine xJ g hj i.c i.iv fun H2 s2 iv2 => ?_
          have hb2 : H2 b = some (.lst bs) := s2 b _ hb
          have hbj : bs[j.toNat]? = some (.int u1) := by
            obtain ⟨v1, g1, g2⟩ := get_len hl hu1
            have := (ivo.pick g2).int_
            rw [g1, this]
          refine ⟨bs, .int u1, hb2, hj0, hbj, ?_⟩
          obtain ⟨M', iv3, av, cl, dm, kp⟩ := iv2.look i.c vs
          show wpE (cnOf T K n) E e σ H2 _
          refine pE g e hy av iv3 HX.ok fun p' e' x H3 iv4 => ?_
          cases e'
          cases iv4.int_
          have s3 : Same H2 H3 := iv4.same
          have iv5 := kp _ _ iv4
          refine opI_int hop fun k2 ek => ?_
          cases ek
          obtain ⟨b', vs', hR⟩ := put_at (Γe := [(.int k1, .int k1)]) (R := fun b' vs' => ∃ ys, H3 b = some (.lst ys) ∧ j < ys.length ∧ D.nx σ (upd H3 b (.lst (ys.set j.toNat (.int k1))))) hup hq hu (iv5.addI k1) (fun q q' hq => by
            obtain ⟨xs, _, _, _, e, _⟩ := agL_some hq
            exact ⟨xs, e⟩) (fun b' vs' hb' va' kk => by
            have e := vAt_det ((va.same s2).same s3) va'
            cases e
            have e2 : vs' = bs := by
              have := hb'.symm.trans (s3 b _ hb2)
              simpa using this
            subst e2
            have hjl : j.toNat < vs'.length := (List.getElem?_eq_some_iff.mp hbj).1
            refine ⟨vs', hb', by omega, d.nx _ rfl σ _ ⟨i.c.setL hu, kk _ fun xs' hl' hex q' hq' => ?_, i.lk⟩⟩
            obtain ⟨xs2, u2, w2, z2, e3, _, hu2, e5, hop2, rfl⟩ := agL_some hq'
            cases e3
            cases e5
            have hxl : j.toNat < xs'.length := by rw [← hl']; exact hjl
            have e7 : u2 = u1 := by
              obtain ⟨X2, M2, Γ2, iv6⟩ := hex
              obtain ⟨v1, g1, g2⟩ := get_len hl' hu2
              have e8 := (iv6.pick g2).int_
              rw [g1, e8] at hbj
              cases hbj; rfl
            subst e7
            rw [hop] at hop2
            cases hop2
            exact ⟨_, rfl, by simp [hl'], set_perm hxl hl'⟩)
          exact hR
        · cases h
      · cases h
    · cases h
  | .ife t a b => by
    intro X M Γ σ0 H σp σ o D E h i d
    simp only [evS] at h
    rcases bnS_some h with ⟨x, σ1, h1, rfl⟩ | ⟨k, σ1, h1, h2⟩
    · exact xT g t h1 i.c i.iv (d.hx i.lk) fun p e => by cases e
    · refine xT g t h1 i.c i.iv HXX.ok fun k' e H1 hc1 iv1 => ?_
      cases e
      cases k with
      | true => exact if_T (ySs g lk a h2 ⟨hc1, iv1, i.lk⟩ d)
      | false => exact if_F (ySs g lk b h2 ⟨hc1, iv1, i.lk⟩ d)
  | .forI tg it b => by
    intro X M Γ σ0 H σp σ o D E h i d
    simp only [evS] at h
    split at h
    · rename_i ht
      rcases bnS_some h with ⟨x, σ1, h1, rfl⟩ | ⟨its, σ1, h1, h2⟩
      · exact xI g it h1 i.c i.iv (d.hx i.lk) fun p e => by cases e
      · refine xI g it h1 i.c i.iv HXX.ok fun its' e s X' M' wss H1 sm hc1 iv1 th => ?_
        cases e
        exact for_ok (ySs g lk b) ht sm hc1 i.lk iv1 th h2 d
    · cases h
  | .whl t b => by
    intro X M Γ σ0 H σp σ o D E h i d
    simp only [evS] at h
    exact whl_ok g (ySs g lk b) d h i
  | .pass => by
    intro X M Γ σ0 H σp σ o D E h i d
    simp only [evS] at h
    cases h
    exact d.nx _ rfl σ H i
  | .brk => by
    intro X M Γ σ0 H σp σ o D E h i d
    simp only [evS] at h
    cases h
    exact d.bk _ rfl σ H i
  | .cont => by
    intro X M Γ σ0 H σp σ o D E h i d
    simp only [evS] at h
    cases h
    exact d.ct _ rfl σ H i
  | .never => by
    intro X M Γ σ0 H σp σ o D E h i d
    simp only [evS] at h
    cases h
theorem ySs (g : GOk ca c T K n) (lk : List Nat) : ∀ s : Ss, SSs ca c T K n lk (evSs c lk s) (fun E => wpSs (cnOf T K n) E s)
  | .nil => by
    intro X M Γ σ0 H σp σ o D E h i d
    simp only [evSs] at h
    cases h
    exact d.nx _ rfl σ H i
  | .cons s r => by
    intro X M Γ σ0 H σp σ o D E h i d
    simp only [evSs] at h
    show wpS (cnOf T K n) E s { D with nx := wpSs (cnOf T K n) E r D } σ H
    cases hs : evS c lk s σp with
    | none => rw [hs] at h; cases h
    | some o' =>
      rw [hs] at h
      refine yS g lk s hs i ?_
      cases o' with
      | nx σ1 => exact ⟨fun σp e σ H e1 => by cases e; exact ySs g lk r h e1 d, (fun _ e => by cases e), (fun _ e => by cases e), (fun _ _ e => by cases e), (fun _ _ e => by cases e)⟩
      | bk σ1 => cases h; exact ⟨(fun _ e => by cases e), d.bk, (fun _ e => by cases e), (fun _ _ e => by cases e), (fun _ _ e => by cases e)⟩
      | ct σ1 => cases h; exact ⟨(fun _ e => by cases e), (fun _ e => by cases e), d.ct, (fun _ _ e => by cases e), (fun _ _ e => by cases e)⟩
      | rt p σ1 => cases h; exact ⟨(fun _ e => by cases e), (fun _ e => by cases e), (fun _ e => by cases e), d.rt, (fun _ _ e => by cases e)⟩
      | ex x σ1 => cases h; exact ⟨(fun _ e => by cases e), (fun _ e => by cases e), (fun _ e => by cases e), (fun _ _ e => by cases e), d.ex⟩
end

theorem fin_env : ∀ {fl : List Bool} {σp : PSt} {σ : L2.St} {vs : List V} {m : Nat}, (∀ i, m + i ∈ lkOf m fl → i < vs.length → σ[i]? = (vs.map some)[i]?) → envC σp σ → Sb (envG (finP fl σp) (vs.map some)) (envG σp σ)
  | [], σp, σ, vs, m, h, hc => ⟨envG σp σ, by simp [finP, envG]⟩
  | b :: fl, [], σ, vs, m, h, hc => ⟨envG [] σ, by cases b <;> simp [finP, envG]⟩
  | true :: fl, x :: σp, [], vs, m, h, hc => by have := hc.len; simp at this
  | true :: fl, x :: σp, y :: σ, [], m, h, hc => ⟨envG (x :: σp) (y :: σ), by simp [envG]⟩
  | true :: fl, x :: σp, y :: σ, v :: vs, m, h, hc => by
    have ih := fin_env (fl := fl) (σp := σp) (σ := σ) (vs := vs) (m := m + 1) (fun i hi hl => by
      have := h (i + 1) (by simp only [lkOf]; exact List.mem_cons_of_mem _ (by rw [show m + (i + 1) = m + 1 + i by omega]; exact hi)) (by simpa using hl)
      simpa using this) hc.tl
    have e2 := h 0 (by simp [lkOf]) (by simp)
    simp at e2
    subst e2
    cases x with
    | none => simp only [finP, List.map_cons, envG]; exact ih
    | some p => simp only [finP, List.map_cons, envG]; exact ih.cons
  | false :: fl, x :: σp, [], vs, m, h, hc => by have := hc.len; simp at this
  | false :: fl, x :: σp, y :: σ, [], m, h, hc => ⟨envG (x :: σp) (y :: σ), by simp [envG]⟩
  | false :: fl, x :: σp, y :: σ, v :: vs, m, h, hc => by
    have ih := fin_env (fl := fl) (σp := σp) (σ := σ) (vs := vs) (m := m + 1) (fun i hi hl => by
      have := h (i + 1) (by simp only [lkOf]; rw [show m + (i + 1) = m + 1 + i by omega]; exact hi) (by simpa using hl)
      simpa using this) hc.tl
    simp only [finP, List.map_cons, envG]
    cases x with
    | none => simp only [envG]; exact ih
    | some p => cases y with
      | none => simp only [envG]; exact ih
      | some w => simp only [envG]; exact ih.skip
theorem env_start : ∀ {ps : List PV} {vs : List V} {m : Nat}, vs.length = ps.length → envG (ps.map some ++ List.replicate m none) (vs.map some ++ List.replicate m none) = ps.zip vs
  | [], [], m, _ => by
    simp only [List.map_nil, List.nil_append, List.zip_nil_left]
    induction m with
    | zero => simp [envG]
    | succ m ih => simp only [List.replicate_succ, envG]; exact ih
  | [], _ :: _, _, h => by cases h
  | _ :: _, [], _, h => by cases h
  | p :: ps, v :: vs, m, h => by
    simp only [List.map_cons, List.cons_append, envG, List.zip_cons_cons]
    rw [env_start (by simpa using h)]
theorem envC_start {ps : List PV} {vs : List V} {m : Nat} (h : vs.length = ps.length) : envC (ps.map some ++ List.replicate m none) (vs.map some ++ List.replicate m none) := by
  refine ⟨by simp [h], fun i p e => ?_⟩
  by_cases hi : i < ps.length
  · refine ⟨vs[i]'(by rw [h]; exact hi), ?_⟩
    rw [List.getElem?_append_left (by simp [h, hi])]
    simp [h, hi]
  · rw [List.getElem?_append_right (by simp; omega)] at e
    rw [List.getElem?_replicate] at e
    split at e <;> cases e
theorem gg_ok (ca : Str → Value) (T : Tab) (K : PySem.W.Frag) (io : Str → List Bool) (fu : Nat) : ∀ k, GOk ca ⟨GG T io fu k, fun f => ((T.fns.lookup f).map (·.ps)).getD [], fun y => T.cons.lookup y, io, fu⟩ T K k
  | 0 => ⟨fun _ => rfl, fun _ => rfl, fun {f ps r fin X M vs H Q E} h => by cases h⟩
  | k + 1 => by
    refine ⟨fun _ => rfl, fun _ => rfl, ?_⟩
    intro f ps r fin X M vs H Q E h hl iv hq hx
    have h' : GG T io fu (k + 1) f ps = some (r, fin) := h
    rw [GG] at h'
    cases hF : T.fns.lookup f with
    | none => rw [hF] at h'; cases h'
    | some F =>
      rw [hF] at h'
      dsimp only at h'
      split at h'
      · rename_i hps
        have hps := eq_of_beq hps
        refine SPn_of hF (by rw [hl]; exact hps) ?_
        have hst : L2.start F.N vs = vs.map some ++ List.replicate (F.N.length - ps.length) none := by
          unfold L2.start; rw [hl]
        rw [hst]
        have ei : EI X M [] (vs.map some ++ List.replicate (F.N.length - ps.length) none) (lkOf 0 (io f)) (ps.map some ++ List.replicate (F.N.length - ps.length) none) (vs.map some ++ List.replicate (F.N.length - ps.length) none) H :=
          ⟨envC_start hl, by rw [env_start hl, List.append_nil]; exact iv, fun _ _ => rfl⟩
        have lkf : ∀ {σ : L2.St}, (∀ j ∈ lkOf 0 (io f), σ[j]? = (vs.map some ++ List.replicate (F.N.length - ps.length) none)[j]?) → ∀ {σp : PSt}, envC σp σ → Sb (envG (finP (io f) σp) (vs.map some)) (envG σp σ) := by
          intro σ hk σp hc
          refine fin_env (m := 0) (fun i hi hlt => ?_) hc
          have := hk i (by simpa using hi)
          rw [this, List.getElem?_append_left (by simpa using hlt)]
        cases hr : evSs ⟨GG T io fu k, fun f => ((T.fns.lookup f).map (·.ps)).getD [], fun y => T.cons.lookup y, io, fu⟩ (lkOf 0 (io f)) F.body (ps.map some ++ List.replicate (F.N.length - ps.length) none) with
        | none => rw [hr] at h'; cases h'
        | some o =>
          rw [hr] at h'
          refine ySs (gg_ok ca T K io fu k) (lkOf 0 (io f)) F.body hr ei ?_
          cases o with
          | nx σ1 =>
            cases h'
            refine ⟨fun σp e σ H1 e1 => ?_, (fun _ e => by cases e), (fun _ e => by cases e), (fun _ _ e => by cases e), (fun _ _ e => by cases e)⟩
            cases e
            have z := e1.iv
            rw [List.append_nil] at z
            exact hq _ rfl .non H1 (Iv.addN (z.sb (lkf e1.lk e1.c)))
          | rt p σ1 =>
            cases h'
            refine ⟨(fun _ e => by cases e), (fun _ e => by cases e), (fun _ e => by cases e), fun p' σp e v σ H1 e1 => ?_, (fun _ _ e => by cases e)⟩
            cases e
            have z := e1.iv.toF
            rw [List.append_nil] at z
            exact hq _ rfl v H1 (z.sb (lkf e1.lk e1.c).cons)
          | ex x σ1 =>
            cases h'
            refine ⟨(fun _ e => by cases e), (fun _ e => by cases e), (fun _ e => by cases e), (fun _ _ e => by cases e), fun x' σp e us cls d σ H1 hv e1 => ?_⟩
            cases e
            have z := e1.iv
            rw [List.append_nil] at z
            refine hx x rfl us cls d H1 hv ?_
            have z2 := z.sb (Sb.app (Δ := (x.fs.map (·.2)).zip us) (lkf e1.lk e1.c))
            exact z2.swap
          | bk _ => cases h'
          | ct _ => cases h'
      · cases h'
end
end VC

namespace VC
open PySem PySem.Spec PyProof.Rows L2

def SubK (K K' : PySem.W.Frag) : Prop := ∀ b o, K.lookup b = some o → (∀ its n, o.data ≠ .seq its n) → K'.lookup b = some o
theorem FunD.sub {K K' : PySem.W.Frag} {x qual : Str} {a : Arguments} {body : List Stmt} {sc : Scope} {f : Addr} {fd : FuncData} (h : SubK K K') (D : FunD K x qual a body sc [] [] f fd) : FunD K' x qual a body sc [] [] f fd := by
  obtain ⟨oc, od, dV, kV, doc, pm, an, cdv, ct, osl, rfl, lk, hcd, hD, hKw⟩ := D.ex
  have lk' := h _ _ lk (fun its n e => by cases e)
  refine ⟨⟨oc, od, dV, kV, doc, pm, an, cdv, ct, osl, rfl, lk', ?_, ?_, .inl rfl⟩, ?_⟩
  · unfold PySem.W.codeIn at hcd ⊢
    cases cdv <;> first | (cases hcd; done) | skip
    rename_i c
    dsimp only at hcd ⊢
    cases hl : K.lookup c with
    | none => rw [hl] at hcd; cases hcd
    | some o =>
      rw [hl] at hcd
      obtain ⟨o1, o2, o3, o4⟩ := o
      cases o3 <;> first | (cases hcd; done) | skip
      rw [h _ _ hl (fun its n e => by cases e)]
      exact hcd
  · rcases hD with z | ⟨z, _⟩
    · exact .inl z
    · exact absurd rfl z
  · unfold PySem.W.keepIn
    dsimp only
    rw [lk']
def delK (K : PySem.W.Frag) (a : Addr) : PySem.W.Frag := K.filter fun g => !(g.1 == a)
theorem delK_look {K : PySem.W.Frag} {a : Addr} : ∀ {b : Addr}, b ≠ a → (delK K a).lookup b = K.lookup b := by
  intro b hb
  induction K with
  | nil => rfl
  | cons g K ih =>
    obtain ⟨c, o⟩ := g
    unfold delK at ih ⊢
    rw [List.filter_cons]
    by_cases hc : c = a
    · have e : (!(c == a)) = false := by simp [hc]
      rw [e, if_neg (by decide), ih, List.lookup_cons]
      have : (b == c) = false := by simp [hc, hb]
      rw [this]
    · have e : (!(c == a)) = true := by simp [hc]
      rw [e, if_pos rfl, List.lookup_cons, List.lookup_cons, ih]
theorem delK_self {K : PySem.W.Frag} {a : Addr} : (delK K a).lookup a = none := by
  induction K with
  | nil => rfl
  | cons g K ih =>
    obtain ⟨c, o⟩ := g
    unfold delK at ih ⊢
    rw [List.filter_cons]
    by_cases hc : c = a
    · have e : (!(c == a)) = false := by simp [hc]
      rw [e, if_neg (by decide), ih]
    · have e : (!(c == a)) = true := by simp [hc]
      rw [e, if_pos rfl, List.lookup_cons, ih]
      have : (a == c) = false := by simp; exact fun z => hc z.symm
      rw [this]
theorem delK_in {K : PySem.W.Frag} {a : Addr} {h : Heap} (X : K.In h) : (delK K a).In h := fun b o e => by
  by_cases hb : b = a
  · subst hb; rw [delK_self] at e; cases e
  · rw [delK_look hb] at e; exact X b o e
theorem delK_sub {K : PySem.W.Frag} {a : Addr} {h : Heap} {vs : List Value} (X : K.In h) (ha : h.get? a = some { cls := .type "list", data := .seq vs.toArray }) : SubK K (delK K a) := fun b o e hs => by
  by_cases hb : b = a
  · subst hb
    have := X b o e
    rw [ha] at this
    cases this
    exact absurd rfl (hs _ _)
  · rw [delK_look hb]; exact e

theorem law_endH {l : PySem.W.OpenLaw} {n k : Nat} {q : Program} {loose : List Str} {XP : (Str → Option Value) → Heap → Prop} {YP : World → Heap → Prop} {d : DefRec} {x : Str}
    (hn : l.most = some n) (hn2 : n ≤ sizeLine) (hdf : d.params.defaults = []) (hr : Room k callerA)
    (F : ∀ (w : World) (mg : Str → Option Value) (fa : Addr) (h : Heap) (a : Addr) (vs : List Value), YP w h → h.Ns mainGlobals mg → mg d.name = some (.ref fa) → h.get? a = some { cls := .type "list", data := .seq vs.toArray } →
      ∃ (K : PySem.W.Frag) (fd : FuncData) (sp : Sp), K.In h ∧ K.lookup a = none ∧ (∀ (s : Shared) (u : Value), BindsTo s fd ⟨[u], []⟩ [(x, u)]) ∧
        (∀ (H : Hp) (o : Obj) (ns : List Int), ns.length ≤ n → H a = some (.frz o (.lst (ns.map V.int))) → sp [.ref a] H (fun v _ => v = .bl true) fun _ _ _ => False) ∧
        ∀ base : Heap, K.In base → base.Ns mainGlobals mg → FnG l.prog w K mg base k fa fd [x] sp) :
    PySem.W.WalkO q loose XP YP l.row.toRowW d [] (fun f vs => PySem.call f vs) := by
  apply Att.attach_call hn hdf
  intro w s0 s1 mg mb fa o pm cd doc a vs ns G Y ho hd hcd hmg hobj hints hlen hg
  obtain ⟨K, fd, sp, KX, hK, hb, hsp, hF⟩ := F w mg fa _ a vs Y G.T.g hmg hobj
  refine law_runG KX G.T.g G.T.b G.T.builtins G.T.nolimit hg hobj hints (Nat.le_trans hlen hn2) hr hF hb (fun H hS => ?_)
  rcases hS.here with ⟨o, z⟩ | ⟨z, y⟩
  · exact hsp H o ns hlen z
  · exfalso
    rcases y with (y | ⟨_, y⟩) | ⟨o, _, _, y, _⟩
    · rw [z] at y; cases y
    · rw [z] at y; cases y
    · rw [hK] at y; cases y
theorem law_val {T : Tab} {K : PySem.W.Frag} {io : Str → List Bool} {fu k : Nat} {H : Hp} {o : Obj} {ns : List Int} {a : Addr} {fin : List (Option PV)}
    (h : GG T io fu k "law" [.nod (.scr o) false (ns.map .int)] = some (.ok (.bl true), fin)) (ha : H a = some (.frz o (.lst (ns.map V.int)))) : SPn T K k "law" [.ref a] H (fun v _ => v = .bl true) fun _ _ _ => False := by
  refine (gg_ok (fun _ => .none) T K io fu k).fn (X := H) (M := fun b => b ∈ [a]) h rfl ?_ ?_ (fun _ e => by cases e)
  · show Iv H (fun b => b ∈ [a]) ([(PV.nod (.scr o) false (ns.map .int), V.ref a)] ++ []) H
    refine Iv.start (S := [a]) ?_
    refine RA.shr (vs := ns.map V.int) rfl ha (by simp) rfl ?_
    have : ∀ ns : List Int, RA H ((ns.map PV.int).zip (ns.map V.int) ++ []) [] [] := by
      intro ns
      induction ns with
      | nil => exact .nil
      | cons n ns ih => exact .int n ih
    exact this ns
  · intro p e x H1 iv
    cases e
    exact iv.bl_
end VC

namespace VC
open PySem PySem.Spec PyProof.Rows L2

class HasF (T : Tab) (io : Str → List Bool) (f : Str) (F : outParam Fn) (fl : outParam (List Bool)) : Prop where
  fn : T.fns.lookup f = some F
  io : io f = fl
class HasC (T : Tab) (x : Str) (v : outParam V) : Prop where
  eq : T.cons.lookup x = some v
abbrev pcn (T : Tab) (io : Str → List Bool) (fu k : Nat) : PCn := ⟨GG T io fu k, fun f => ((T.fns.lookup f).map (·.ps)).getD [], fun y => T.cons.lookup y, io, fu⟩
theorem GG_of {T : Tab} {io : Str → List Bool} {fu k : Nat} {f : Str} {F : Fn} {fl : List Bool} (h : HasF T io f F fl) {ps : List PV} (hl : ps.length = F.ps.length) {p : PV} {σ : PSt}
    (hr : evSs (pcn T io fu k) (lkOf 0 fl) F.body (ps.map some ++ List.replicate (F.N.length - ps.length) none) = some (.rt p σ)) : GG T io fu (k + 1) f ps = some (.ok p, finP fl σ) := by
  rw [GG, h.fn]
  dsimp only
  rw [if_pos (by simp [hl]), h.io, hr]
theorem GG_nx {T : Tab} {io : Str → List Bool} {fu k : Nat} {f : Str} {F : Fn} {fl : List Bool} (h : HasF T io f F fl) {ps : List PV} (hl : ps.length = F.ps.length) {σ : PSt}
    (hr : evSs (pcn T io fu k) (lkOf 0 fl) F.body (ps.map some ++ List.replicate (F.N.length - ps.length) none) = some (.nx σ)) : GG T io fu (k + 1) f ps = some (.ok .non, finP fl σ) := by
  rw [GG, h.fn]
  dsimp only
  rw [if_pos (by simp [hl]), h.io, hr]
end VC

namespace VC
open PySem PySem.Spec PyProof.Rows L2
def g_is_whole : Fn := ⟨["thing"], ["thing"],
  (.cons (.ret (.us [0] (.and (.isi (.var 0) "int") (.not (.isi (.var 0) "bool")))))
 .nil)⟩
def g_check_down : Fn := ⟨["down"], ["down", "index", "link"],
  (.cons (.ife (.us [0] (.or (.not (.val (.isi (.var 0) "list"))) (.not (.chn .LtE .LtE (.con (.int 1)) (.blt "len" (.cons (.var 0) .nil)) (.glb "MOST_PLACES")))))
  (.cons .never
  .nil)
  .nil)
 (.cons (.forI (.tup [1, 2]) (.us [0] (.enm (.var 0)))
  (.cons (.ife (.us [1, 2] (.or (.not (.val (.call "is_whole" (.cons (.var 2) .nil) [] .nil))) (.not (.chn .LtE .LtE (.con (.int 0)) (.var 2) (.var 1)))))
   (.cons .never
   .nil)
   .nil)
  .nil))
 .nil))⟩
def g_check_up : Fn := ⟨["up"], ["up", "index", "link"],
  (.cons (.ife (.us [0] (.or (.not (.val (.isi (.var 0) "list"))) (.not (.chn .LtE .LtE (.con (.int 1)) (.blt "len" (.cons (.var 0) .nil)) (.glb "MOST_PLACES")))))
  (.cons .never
  .nil)
  .nil)
 (.cons (.forI (.tup [1, 2]) (.us [0] (.enm (.var 0)))
  (.cons (.ife (.us [0, 1, 2] (.or (.not (.val (.call "is_whole" (.cons (.var 2) .nil) [] .nil))) (.not (.chn .LtE .LtE (.bin .Add (.var 1) (.con (.int 2))) (.var 2) (.bin .Add (.blt "len" (.cons (.var 0) .nil)) (.con (.int 1)))))))
   (.cons .never
   .nil)
   .nil)
  .nil))
 .nil))⟩
def g_check_place : Fn := ⟨["place", "places"], ["place", "places"],
  (.cons (.ife (.us [0, 1] (.or (.not (.val (.call "is_whole" (.cons (.var 0) .nil) [] .nil))) (.not (.chn .LtE .LtE (.con (.int 1)) (.var 0) (.var 1)))))
  (.cons .never
  .nil)
  .nil)
 .nil)⟩
def g_steps_down : Fn := ⟨["down", "place"], ["down", "place", "told"],
  (.cons (.asg 2 (.us [] (.lst .nil)))
 (.cons (.whl (.us [1] (.cmp .Gt (.var 1) (.con (.int 0))))
  (.cons (.expr (.mth "append" (.var 2) (.cons (.us [1] (.var 1)) .nil)))
  (.cons (.asg 1 (.us [0, 1] (.idx (.var 0) (.bin .Sub (.var 1) (.con (.int 1))))))
  .nil)))
 (.cons (.ret (.mv 2))
 .nil)))⟩
def g_steps_up : Fn := ⟨["up", "place"], ["up", "place", "told"],
  (.cons (.asg 2 (.us [] (.lst .nil)))
 (.cons (.whl (.us [0, 1] (.cmp .LtE (.var 1) (.blt "len" (.cons (.var 0) .nil))))
  (.cons (.expr (.mth "append" (.var 2) (.cons (.us [1] (.var 1)) .nil)))
  (.cons (.asg 1 (.us [0, 1] (.idx (.var 0) (.bin .Sub (.var 1) (.con (.int 1))))))
  .nil)))
 (.cons (.ret (.mv 2))
 .nil)))⟩
def g_law_draws : Fn := ⟨["_law_cell"], ["_law_cell"],
  (.cons (.ret (.us [0] (.lst (.cons (.bin .Mod (.blt "int" (.cons (.var 0) .nil)) (.bin .Pow (.bin .Pow (.bin .Pow (.con (.int 10)) (.con (.int 60))) (.con (.int 60))) (.con (.int 4)))) (.cons (.con (.int 0)) (.cons (.cmp .GtE (.var 0) (.bin .Pow (.con (.int 10)) (.con (.int 18)))) .nil))))))
 .nil)⟩
def g_law_next : Fn := ⟨["_law_draws_here"], ["_law_draws_here", "_law_k", "_law_number"],
  (.cons (.setI (.var 0) (.con (.int 1)) (.us [0] (.bin .Add (.idx (.var 0) (.con (.int 1))) (.con (.int 1)))))
 (.cons (.asg 1 (.us [0] (.idx (.var 0) (.con (.int 1)))))
 (.cons (.ife (.us [0] (.val (.idx (.var 0) (.con (.int 2)))))
  (.cons (.asg 2 (.us [0] (.bin .Mod (.blt "int" (.cons (.idx (.var 0) (.con (.int 0))) .nil)) (.bin .Pow (.con (.int 10)) (.con (.int 6))))))
  (.cons (.setI (.var 0) (.con (.int 0)) (.us [0] (.bin .FloorDiv (.idx (.var 0) (.con (.int 0))) (.bin .Pow (.con (.int 10)) (.con (.int 6))))))
  (.cons (.ret (.mv 2))
  .nil)))
  .nil)
 (.cons (.asg 2 (.us [0, 1] (.bin .Mod (.blt "int" (.cons (.bin .Mult (.bin .Add (.bin .Add (.bin .Mod (.blt "int" (.cons (.idx (.var 0) (.con (.int 0))) .nil)) (.con (.int 1000003))) (.bin .Mult (.bin .Mult (.var 1) (.var 1)) (.con (.int 7919)))) (.var 1)) (.con (.int 48271))) .nil)) (.con (.int 2147483629)))))
 (.cons (.asg 2 (.us [2] (.bin .Mod (.blt "int" (.cons (.bin .Mult (.var 2) (.var 2)) .nil)) (.con (.int 2147483587)))))
 (.cons (.ret (.us [2] (.bin .FloorDiv (.bin .Mod (.blt "int" (.cons (.bin .Mult (.var 2) (.bin .Add (.var 2) (.con (.int 2)))) .nil)) (.con (.int 2147483579))) (.con (.int 7)))))
 .nil))))))⟩
def g_law_next_b : Fn := ⟨["_law_draws_here"], ["_law_draws_here", "_law_k", "_law_drawn"],
  (.cons (.setI (.var 0) (.con (.int 1)) (.us [0] (.bin .Add (.idx (.var 0) (.con (.int 1))) (.con (.int 1)))))
 (.cons (.asg 1 (.us [0] (.idx (.var 0) (.con (.int 1)))))
 (.cons (.ife (.us [0] (.val (.idx (.var 0) (.con (.int 2)))))
  (.cons (.asg 2 (.us [0] (.bin .Mod (.blt "int" (.cons (.idx (.var 0) (.con (.int 0))) .nil)) (.bin .Pow (.con (.int 10)) (.con (.int 6))))))
  (.cons (.setI (.var 0) (.con (.int 0)) (.us [0] (.bin .FloorDiv (.idx (.var 0) (.con (.int 0))) (.bin .Pow (.con (.int 10)) (.con (.int 6))))))
  (.cons (.ret (.mv 2))
  .nil)))
  .nil)
 (.cons (.asg 2 (.us [0, 1] (.bin .Mod (.blt "int" (.cons (.bin .Mult (.bin .Add (.bin .Add (.bin .Mod (.blt "int" (.cons (.idx (.var 0) (.con (.int 0))) .nil)) (.con (.int 1000003))) (.bin .Mult (.bin .Mult (.var 1) (.var 1)) (.con (.int 7919)))) (.var 1)) (.con (.int 48271))) .nil)) (.con (.int 2147483629)))))
 (.cons (.asg 2 (.us [2] (.bin .Mod (.blt "int" (.cons (.bin .Mult (.var 2) (.var 2)) .nil)) (.con (.int 2147483587)))))
 (.cons (.ret (.us [2] (.bin .FloorDiv (.bin .Mod (.blt "int" (.cons (.bin .Mult (.var 2) (.bin .Add (.var 2) (.con (.int 2)))) .nil)) (.con (.int 2147483579))) (.con (.int 7)))))
 .nil))))))⟩
def g_law_pair : Fn := ⟨["_law_draws_here", "_law_most"], ["_law_draws_here", "_law_most", "_law_many", "_law_falls", "_law_rises", "_law_k"],
  (.cons (.asg 2 (.bin .Add (.con (.int 1)) (.bin .Mod (.blt "int" (.cons (.call "_law_next" (.cons (.var 0) .nil) [] .nil) .nil)) (.mv 1))))
 (.cons (.asg 3 (.comp (.bin .Mod (.blt "int" (.cons (.call "_law_next" (.cons (.var 0) .nil) [] .nil) .nil)) (.us [5] (.bin .Add (.var 5) (.con (.int 1))))) (.name 5) (.us [2] (.rng (.cons (.var 2) .nil))) .no [("_law_k", 5)]))
 (.cons (.asg 4 (.comp (.bin .Add (.us [5] (.bin .Add (.var 5) (.con (.int 2)))) (.bin .Mod (.blt "int" (.cons (.call "_law_next" (.cons (.var 0) .nil) [] .nil) .nil)) (.us [2, 5] (.bin .Sub (.var 2) (.var 5))))) (.name 5) (.us [2] (.rng (.cons (.var 2) .nil))) .no [("_law_k", 5)]))
 (.cons (.ret (.tup (.cons (.mv 3) (.cons (.mv 4) .nil))))
 .nil))))⟩
def g_law_tree : Fn := ⟨["_law_draws_here", "_law_most"], ["_law_draws_here", "_law_most", "_law_many", "_law_falls", "_law_rises", "_law_left", "_law_pick", "_law_some", "_law_root", "_law_low", "_law_high"],
  (.cons (.asg 2 (.bin .Add (.con (.int 1)) (.bin .Mod (.blt "int" (.cons (.call "_law_next" (.cons (.var 0) .nil) [] .nil) .nil)) (.mv 1))))
 (.cons (.asg 3 (.us [2] (.bin .Mult (.lst (.cons (.con (.int 0)) .nil)) (.var 2))))
 (.cons (.asg 4 (.us [2] (.bin .Mult (.lst (.cons (.con (.int 0)) .nil)) (.var 2))))
 (.cons (.asg 5 (.lst (.cons (.tup (.cons (.con (.int 1)) (.cons (.mv 2) .nil))) .nil)))
 (.cons (.whl (.us [5] (.cmp .NotEq (.var 5) (.lst .nil)))
  (.cons (.unp [9, 10] (.mth "pop" (.var 5) .nil))
  (.cons (.asg 6 (.blt "int" (.cons (.call "_law_next" (.cons (.var 0) .nil) [] .nil) .nil)))
  (.cons (.asg 7 (.us [6, 9, 10] (.bin .Add (.var 9) (.bin .Mod (.bin .FloorDiv (.blt "int" (.cons (.var 6) .nil)) (.con (.int 4))) (.bin .Add (.bin .Sub (.var 10) (.var 9)) (.con (.int 1)))))))
  (.cons (.asg 8 (.us [6, 7, 9, 10] (.idx (.lst (.cons (.var 9) (.cons (.var 10) (.cons (.var 7) (.cons (.var 7) .nil))))) (.bin .Mod (.blt "int" (.cons (.var 6) .nil)) (.con (.int 4))))))
  (.cons (.setI (.var 3) (.us [8] (.bin .Sub (.var 8) (.con (.int 1)))) (.us [9] (.bin .Sub (.var 9) (.con (.int 1)))))
  (.cons (.setI (.var 4) (.us [8] (.bin .Sub (.var 8) (.con (.int 1)))) (.us [10] (.bin .Add (.var 10) (.con (.int 1)))))
  (.cons (.asg 5 (.us [5, 8, 9, 10] (.bin .Add (.bin .Add (.var 5) (.bin .Mult (.lst (.cons (.tup (.cons (.var 9) (.cons (.bin .Sub (.var 8) (.con (.int 1))) .nil))) .nil)) (.blt "int" (.cons (.cmp .Lt (.var 9) (.var 8)) .nil)))) (.bin .Mult (.lst (.cons (.tup (.cons (.bin .Add (.var 8) (.con (.int 1))) (.cons (.var 10) .nil))) .nil)) (.blt "int" (.cons (.cmp .Lt (.var 8) (.var 10)) .nil))))))
  .nil))))))))
 (.cons (.ret (.tup (.cons (.mv 3) (.cons (.mv 4) .nil))))
 .nil))))))⟩
def g_law_tree_b : Fn := ⟨["_law_draws_here", "_law_many"], ["_law_draws_here", "_law_many", "_law_ahead", "_law_behind", "_law_left", "_law_pick", "_law_root", "_law_low", "_law_high"],
  (.cons (.asg 2 (.us [1] (.bin .Mult (.lst (.cons (.con (.int 0)) .nil)) (.var 1))))
 (.cons (.asg 3 (.us [1] (.bin .Mult (.lst (.cons (.con (.int 0)) .nil)) (.var 1))))
 (.cons (.asg 4 (.lst (.cons (.tup (.cons (.con (.int 1)) (.cons (.mv 1) .nil))) .nil)))
 (.cons (.whl (.us [4] (.cmp .NotEq (.var 4) (.lst .nil)))
  (.cons (.unp [7, 8] (.mth "pop" (.var 4) .nil))
  (.cons (.asg 5 (.blt "int" (.cons (.call "_law_next" (.cons (.var 0) .nil) [] .nil) .nil)))
  (.cons (.asg 6 (.us [5, 7, 8] (.bin .Add (.var 7) (.bin .Mod (.blt "int" (.cons (.bin .FloorDiv (.var 5) (.con (.int 4))) .nil)) (.bin .Add (.bin .Sub (.var 8) (.var 7)) (.con (.int 1)))))))
  (.cons (.ife (.us [5] (.or (.cmp .Eq (.bin .Mod (.var 5) (.con (.int 4))) (.con (.int 1))) (.cmp .Eq (.bin .Mod (.var 5) (.con (.int 4))) (.con (.int 2)))))
   (.cons (.asg 6 (.us [5, 7, 8] (.idx (.lst (.cons (.var 7) (.cons (.var 8) .nil))) (.bin .Mod (.blt "int" (.cons (.var 5) .nil)) (.con (.int 2))))))
   .nil)
   .nil)
  (.cons (.setI (.var 2) (.us [6] (.bin .Sub (.var 6) (.con (.int 1)))) (.us [7] (.bin .Sub (.var 7) (.con (.int 1)))))
  (.cons (.setI (.var 3) (.us [6] (.bin .Sub (.var 6) (.con (.int 1)))) (.us [8] (.bin .Add (.var 8) (.con (.int 1)))))
  (.cons (.asg 4 (.us [4, 6, 7, 8] (.bin .Add (.bin .Add (.var 4) (.bin .Mult (.lst (.cons (.tup (.cons (.var 7) (.cons (.bin .Sub (.var 6) (.con (.int 1))) .nil))) .nil)) (.blt "int" (.cons (.cmp .Lt (.var 7) (.var 6)) .nil)))) (.bin .Mult (.lst (.cons (.tup (.cons (.bin .Add (.var 6) (.con (.int 1))) (.cons (.var 8) .nil))) .nil)) (.blt "int" (.cons (.cmp .Lt (.var 6) (.var 8)) .nil))))))
  .nil))))))))
 (.cons (.ret (.tup (.cons (.mv 2) (.cons (.mv 3) .nil))))
 .nil)))))⟩
def g_law_bent : Fn := ⟨["_law_draws_here", "_law_a_pair"], ["_law_draws_here", "_law_a_pair", "_law_turn", "_law_falls", "_law_rises", "_law_pick", "_law_k"],
  (.cons (.par [3, 4] (.cons (.us [1] (.blt "list" (.cons (.idx (.var 1) (.con (.int 0))) .nil))) (.cons (.us [1] (.blt "list" (.cons (.idx (.var 1) (.con (.int 1))) .nil))) .nil)))
 (.cons (.forI (.name 2) (.rng (.cons (.bin .Add (.con (.int 1)) (.bin .Mod (.blt "int" (.cons (.call "_law_next" (.cons (.var 0) .nil) [] .nil) .nil)) (.con (.int 3)))) .nil))
  (.cons (.asg 5 (.blt "int" (.cons (.call "_law_next" (.cons (.var 0) .nil) [] .nil) .nil)))
  (.cons (.asg 6 (.us [3, 5] (.bin .Mod (.bin .FloorDiv (.blt "int" (.cons (.var 5) .nil)) (.con (.int 2))) (.blt "len" (.cons (.var 3) .nil)))))
  (.cons (.ife (.us [5] (.cmp .Eq (.bin .Mod (.blt "int" (.cons (.var 5) .nil)) (.con (.int 2))) (.con (.int 0))))
   (.cons (.setI (.var 3) (.us [6] (.var 6)) (.us [5, 6] (.bin .Mod (.bin .FloorDiv (.blt "int" (.cons (.var 5) .nil)) (.con (.int 32))) (.bin .Add (.var 6) (.con (.int 1))))))
   .nil)
   (.cons (.setI (.var 4) (.us [6] (.var 6)) (.us [3, 5, 6] (.bin .Add (.bin .Add (.var 6) (.con (.int 2))) (.bin .Mod (.bin .FloorDiv (.blt "int" (.cons (.var 5) .nil)) (.con (.int 32))) (.bin .Sub (.blt "len" (.cons (.var 3) .nil)) (.var 6))))))
   .nil))
  .nil))))
 (.cons (.ret (.tup (.cons (.mv 3) (.cons (.mv 4) .nil))))
 .nil)))⟩
def g_law_bent_b : Fn := ⟨["_law_draws_here", "_law_links"], ["_law_draws_here", "_law_links", "_law_many", "_law_turn", "_law_ahead", "_law_behind", "_law_at"],
  (.cons (.par [4, 5] (.cons (.us [1] (.blt "list" (.cons (.idx (.var 1) (.con (.int 0))) .nil))) (.cons (.us [1] (.blt "list" (.cons (.idx (.var 1) (.con (.int 1))) .nil))) .nil)))
 (.cons (.asg 2 (.us [4] (.blt "len" (.cons (.var 4) .nil))))
 (.cons (.forI (.name 3) (.rng (.cons (.bin .Add (.con (.int 1)) (.bin .Mod (.blt "int" (.cons (.call "_law_next" (.cons (.var 0) .nil) [] .nil) .nil)) (.con (.int 3)))) .nil))
  (.cons (.asg 6 (.bin .Mod (.blt "int" (.cons (.call "_law_next" (.cons (.var 0) .nil) [] .nil) .nil)) (.us [2] (.var 2))))
  (.cons (.ife (.cmp .Eq (.bin .Mod (.blt "int" (.cons (.call "_law_next" (.cons (.var 0) .nil) [] .nil) .nil)) (.con (.int 2))) (.con (.int 0)))
   (.cons (.setI (.var 4) (.us [6] (.var 6)) (.bin .Mod (.blt "int" (.cons (.call "_law_next" (.cons (.var 0) .nil) [] .nil) .nil)) (.us [6] (.bin .Add (.var 6) (.con (.int 1))))))
   .nil)
   (.cons (.setI (.var 5) (.us [6] (.var 6)) (.bin .Add (.us [6] (.bin .Add (.var 6) (.con (.int 2)))) (.bin .Mod (.blt "int" (.cons (.call "_law_next" (.cons (.var 0) .nil) [] .nil) .nil)) (.us [2, 6] (.bin .Sub (.var 2) (.var 6))))))
   .nil))
  .nil)))
 (.cons (.ret (.tup (.cons (.mv 4) (.cons (.mv 5) .nil))))
 .nil))))⟩
def g_law_any : Fn := ⟨["_law_draws_here", "_law_most"], ["_law_draws_here", "_law_most", "_law_kind", "_law_a_pair"],
  (.cons (.asg 2 (.bin .Mod (.blt "int" (.cons (.call "_law_next" (.cons (.var 0) .nil) [] .nil) .nil)) (.con (.int 3))))
 (.cons (.ife (.us [2] (.cmp .Eq (.var 2) (.con (.int 0))))
  (.cons (.ret (.call "_law_pair" (.cons (.var 0) (.cons (.mv 1) .nil)) [] .nil))
  .nil)
  .nil)
 (.cons (.asg 3 (.call "_law_tree" (.cons (.var 0) (.cons (.mv 1) .nil)) [] .nil))
 (.cons (.ret (.ite (.us [2] (.cmp .Eq (.var 2) (.con (.int 1)))) (.call "_law_bent" (.cons (.var 0) (.cons (.mv 3) .nil)) [] .nil) (.mv 3)))
 .nil))))⟩
def g_law_any_b : Fn := ⟨["_law_draws_here", "_law_many"], ["_law_draws_here", "_law_many", "_law_ahead", "_law_at"],
  (.cons (.asg 2 (.comp (.bin .Mod (.blt "int" (.cons (.call "_law_next" (.cons (.var 0) .nil) [] .nil) .nil)) (.us [3] (.bin .Add (.var 3) (.con (.int 1))))) (.name 3) (.us [1] (.rng (.cons (.var 1) .nil))) .no [("_law_at", 3)]))
 (.cons (.ret (.tup (.cons (.mv 2) (.cons (.comp (.bin .Add (.us [3] (.bin .Add (.var 3) (.con (.int 2)))) (.bin .Mod (.blt "int" (.cons (.call "_law_next" (.cons (.var 0) .nil) [] .nil) .nil)) (.us [1, 3] (.bin .Sub (.var 1) (.var 3))))) (.name 3) (.us [1] (.rng (.cons (.var 1) .nil))) .no [("_law_at", 3)]) .nil))))
 .nil))⟩
def g_law_down : Fn := ⟨["_law_falls", "_law_k"], ["_law_falls", "_law_k", "_law_told"],
  (.cons (.asg 2 (.us [] (.lst .nil)))
 (.cons (.whl (.us [1] (.cmp .Gt (.var 1) (.con (.int 0))))
  (.cons (.expr (.mth "append" (.var 2) (.cons (.us [1] (.var 1)) .nil)))
  (.cons (.asg 1 (.us [0, 1] (.idx (.var 0) (.bin .Sub (.var 1) (.con (.int 1))))))
  .nil)))
 (.cons (.ret (.mv 2))
 .nil)))⟩
def g_law_up : Fn := ⟨["_law_rises", "_law_k"], ["_law_rises", "_law_k", "_law_told"],
  (.cons (.asg 2 (.us [] (.lst .nil)))
 (.cons (.whl (.us [0, 1] (.cmp .LtE (.var 1) (.blt "len" (.cons (.var 0) .nil))))
  (.cons (.expr (.mth "append" (.var 2) (.cons (.us [1] (.var 1)) .nil)))
  (.cons (.asg 1 (.us [0, 1] (.idx (.var 0) (.bin .Sub (.var 1) (.con (.int 1))))))
  .nil)))
 (.cons (.ret (.mv 2))
 .nil)))⟩
def g_check_pair : Fn := ⟨["pair"], ["pair", "down", "up"],
  (.cons (.ife (.us [0] (.or (.not (.val (.isi (.var 0) "tuple"))) (.cmp .NotEq (.blt "len" (.cons (.var 0) .nil)) (.con (.int 2)))))
  (.cons .never
  .nil)
  .nil)
 (.cons (.unp [1, 2] (.mv 0))
 (.cons (.ife (.us [1, 2] (.or (.not (.val (.isi (.var 1) "list"))) (.not (.val (.isi (.var 2) "list")))))
  (.cons .never
  .nil)
  .nil)
 (.cons (.ife (.us [1, 2] (.or (.cmp .NotEq (.blt "len" (.cons (.var 1) .nil)) (.blt "len" (.cons (.var 2) .nil))) (.not (.chn .LtE .LtE (.con (.int 1)) (.blt "len" (.cons (.var 1) .nil)) (.glb "MOST_PLACES")))))
  (.cons .never
  .nil)
  .nil)
 (.cons (.expr (.us [1] (.call "check_down" (.cons (.var 1) .nil) [] .nil)))
 (.cons (.expr (.us [2] (.call "check_up" (.cons (.var 2) .nil) [] .nil)))
 .nil))))))⟩
def g_law_counts : Fn := ⟨["_law_a_pair"], ["_law_a_pair", "_law_walks", "_law_told", "_law_i", "_law_falls", "_law_rises", "_law_row", "_law_k", "_law_j", "_law_walk", "_law_number", "_law_more"],
  (.cons (.unp [4, 5] (.mv 0))
 (.cons (.asg 1 (.us [4, 5] (.comp (.call "_law_up" (.cons (.var 5) (.cons (.var 8) .nil)) [] .nil) (.name 8) (.rng (.cons (.con (.int 1)) (.cons (.bin .Add (.blt "len" (.cons (.var 4) .nil)) (.con (.int 1))) .nil))) .no [("_law_j", 8)])))
 (.cons (.asg 2 (.us [] (.lst .nil)))
 (.cons (.forI (.name 3) (.us [4] (.rng (.cons (.con (.int 1)) (.cons (.bin .Add (.blt "len" (.cons (.var 4) .nil)) (.con (.int 1))) .nil))))
  (.cons (.asg 6 (.us [1, 3] (.comp (.blt "int" (.cons (.cmp .In (.var 3) (.var 9)) .nil)) (.name 9) (.seq (.var 1)) .no [("_law_walk", 9)])))
  (.cons (.forI (.name 7) (.us [3, 4] (.seq (.sl2 (.call "_law_down" (.cons (.var 4) (.cons (.var 3) .nil)) [] .nil) (.con (.int 1)) (.con (.int 2)))))
   (.cons (.asg 6 (.us [2, 6, 7] (.comp (.bin .Add (.var 10) (.var 11)) (.tup [10, 11]) (.zip (.var 6) (.idx (.var 2) (.bin .Sub (.var 7) (.con (.int 1))))) .no [("_law_number", 10), ("_law_more", 11)])))
   .nil))
  (.cons (.expr (.mth "append" (.var 2) (.cons (.mv 6) .nil)))
  .nil))))
 (.cons (.ret (.mv 2))
 .nil)))))⟩
def g_check_values : Fn := ⟨["values", "places"], ["values", "places", "index", "value"],
  (.cons (.ife (.us [0, 1] (.or (.not (.val (.isi (.var 0) "list"))) (.cmp .NotEq (.blt "len" (.cons (.var 0) .nil)) (.var 1))))
  (.cons .never
  .nil)
  .nil)
 (.cons (.forI (.tup [2, 3]) (.us [0] (.enm (.var 0)))
  (.cons (.ife (.us [3] (.not (.val (.call "is_whole" (.cons (.var 3) .nil) [] .nil))))
   (.cons .never
   .nil)
   .nil)
  .nil))
 .nil))⟩
def g_filled : Fn := ⟨["up", "values"], ["up", "values", "cells", "index", "value", "place"],
  (.cons (.asg 2 (.us [1] (.comp (.con (.int 0)) (.name 4) (.seq (.var 1)) .no [("value", 4)])))
 (.cons (.forI (.tup [3, 4]) (.us [1] (.enm (.var 1)))
  (.cons (.forI (.name 5) (.us [0, 3] (.seq (.call "steps_up" (.cons (.var 0) (.cons (.bin .Add (.var 3) (.con (.int 1))) .nil)) [] .nil)))
   (.cons (.augI (.var 2) (.us [5] (.bin .Sub (.var 5) (.con (.int 1)))) .Add (.us [4] (.var 4)))
   .nil))
  .nil))
 (.cons (.ret (.mv 2))
 .nil)))⟩
def g_cells_of : Fn := ⟨["up", "values"], ["up", "values"],
  (.cons (.expr (.us [0] (.call "check_up" (.cons (.var 0) .nil) [] .nil)))
 (.cons (.expr (.us [0, 1] (.call "check_values" (.cons (.var 1) (.cons (.blt "len" (.cons (.var 0) .nil)) .nil)) [] .nil)))
 (.cons (.ret (.us [0, 1] (.call "filled" (.cons (.var 0) (.cons (.var 1) .nil)) [] .nil)))
 .nil)))⟩
def g_ups_of : Fn := ⟨["down"], ["down", "told", "index", "link", "other"],
  (.cons (.asg 1 (.us [0] (.comp (.bin .Add (.blt "len" (.cons (.var 0) .nil)) (.con (.int 1))) (.name 3) (.seq (.var 0)) .no [("link", 3)])))
 (.cons (.forI (.tup [2, 3]) (.us [0] (.enm (.var 0)))
  (.cons (.ife (.us [0, 2, 3] (.cmp .NotEq (.comp (.var 4) (.name 4) (.seq (.sl2 (.var 0) (.var 3) (.var 2))) (.one (.cmp .Lt (.var 4) (.var 3))) [("other", 4)]) (.lst .nil)))
   (.cons (.ret (.con .none))
   .nil)
   .nil)
  (.cons (.forI (.name 4) (.us [2] (.rng (.cons (.var 2) .nil)))
   (.cons (.ife (.us [0, 1, 3, 4] (.and (.cmp .LtE (.var 3) (.var 4)) (.cmp .Gt (.idx (.var 1) (.var 4)) (.blt "len" (.cons (.var 0) .nil)))))
    (.cons (.setI (.var 1) (.us [4] (.var 4)) (.us [2] (.bin .Add (.var 2) (.con (.int 1)))))
    .nil)
    .nil)
   .nil))
  .nil)))
 (.cons (.ret (.mv 1))
 .nil)))⟩
def g_is_right_pair : Fn := ⟨["pair"], ["pair"],
  (.cons (.ret (.us [0] (.cmp .Eq (.idx (.var 0) (.con (.int 1))) (.call "ups_of" (.cons (.idx (.var 0) (.con (.int 0))) .nil) [] .nil))))
 .nil)⟩
def g_is_right : Fn := ⟨["pair"], ["pair"],
  (.cons (.expr (.us [0] (.call "check_pair" (.cons (.var 0) .nil) [] .nil)))
 (.cons (.ret (.us [0] (.call "is_right_pair" (.cons (.var 0) .nil) [] .nil)))
 .nil))⟩
def g_sums_of : Fn := ⟨["pair"], ["pair", "told", "index", "down", "up", "place", "inside", "places", "number"],
  (.cons .never
 (.cons .never
 (.cons .never
 .nil)))⟩
def g_law_lists : Fn := ⟨["_law_sizes"], ["_law_sizes", "_law_told", "_law_size", "_law_row", "_law_number"],
  (.cons (.asg 1 (.us [] (.lst (.cons (.lst .nil) .nil))))
 (.cons (.forI (.name 2) (.seq (.mv 0))
  (.cons (.asg 1 (.us [1, 2] (.blt "sum" (.cons (.comp (.comp (.bin .Add (.var 3) (.lst (.cons (.var 4) .nil))) (.name 4) (.rng (.cons (.var 2) .nil)) .no [("_law_number", 4)]) (.name 3) (.seq (.var 1)) .no [("_law_row", 3)]) (.cons (.lst .nil) .nil)))))
  .nil))
 (.cons (.ret (.mv 1))
 .nil)))⟩
def g_law_all_pairs : Fn := ⟨["_law_many"], ["_law_many", "_law_lows", "_law_highs", "_law_row", "_law_falls", "_law_number", "_law_rises"],
  (.cons (.asg 1 (.us [0] (.call "_law_lists" (.cons (.lrg (.cons (.con (.int 1)) (.cons (.bin .Add (.var 0) (.con (.int 1))) .nil))) .nil) [] .nil)))
 (.cons (.asg 2 (.us [0, 1] (.blt "sorted" (.cons (.comp (.comp (.bin .Sub (.bin .Add (.var 0) (.con (.int 1))) (.var 5)) (.name 5) (.seq (.rev (.var 3))) .no [("_law_number", 5)]) (.name 3) (.seq (.var 1)) .no [("_law_row", 3)]) .nil))))
 (.cons (.ret (.us [1, 2] (.blt "sum" (.cons (.comp (.comp (.tup (.cons (.var 4) (.cons (.var 6) .nil))) (.name 6) (.seq (.var 2)) .no [("_law_rises", 6)]) (.name 4) (.seq (.var 1)) .no [("_law_falls", 4)]) (.cons (.lst .nil) .nil)))))
 .nil)))⟩
def g_law_moves : Fn := ⟨["_law_a_pair"], ["_law_a_pair", "_law_told", "_law_x", "_law_falls", "_law_rises", "_law_y", "_law_ahead"],
  (.cons (.unp [3, 4] (.mv 0))
 (.cons (.asg 1 (.us [] (.lst .nil)))
 (.cons (.forI (.name 2) (.us [3] (.rng (.cons (.con (.int 1)) (.cons (.bin .Add (.blt "len" (.cons (.var 3) .nil)) (.con (.int 1))) .nil))))
  (.cons (.forI (.name 5) (.us [2, 3] (.rng (.cons (.bin .Add (.var 2) (.con (.int 1))) (.cons (.bin .Add (.blt "len" (.cons (.var 3) .nil)) (.con (.int 1))) .nil))))
   (.cons (.asg 6 (.us [2, 3, 4, 5] (.and (.cmp .Eq (.idx (.var 4) (.bin .Sub (.var 2) (.con (.int 1)))) (.var 5)) (.cmp .Eq (.idx (.var 3) (.bin .Sub (.var 2) (.con (.int 1)))) (.idx (.var 3) (.bin .Sub (.var 5) (.con (.int 1))))))))
   (.cons (.ife (.us [2, 3, 4, 5, 6] (.or (.val (.var 6)) (.and (.cmp .Eq (.idx (.var 4) (.bin .Sub (.var 2) (.con (.int 1)))) (.idx (.var 4) (.bin .Sub (.var 5) (.con (.int 1))))) (.cmp .Eq (.idx (.var 3) (.bin .Sub (.var 5) (.con (.int 1)))) (.var 2)))))
    (.cons (.expr (.mth "append" (.var 1) (.cons (.tup (.cons (.us [2] (.var 2)) (.cons (.mv 5) (.cons (.mv 6) .nil)))) .nil)))
    .nil)
    .nil)
   .nil)))
  .nil))
 (.cons (.ret (.mv 1))
 .nil))))⟩
def g_law_moved : Fn := ⟨["_law_a_pair", "_law_a_move"], ["_law_a_pair", "_law_a_move", "_law_falls", "_law_rises", "_law_x", "_law_y", "_law_ahead"],
  (.cons (.par [2, 3] (.cons (.us [0] (.blt "list" (.cons (.idx (.var 0) (.con (.int 0))) .nil))) (.cons (.us [0] (.blt "list" (.cons (.idx (.var 0) (.con (.int 1))) .nil))) .nil)))
 (.cons (.unp [4, 5, 6] (.mv 1))
 (.cons (.ife (.us [6] (.val (.var 6)))
  (.cons (.setI2 (.var 3) (.us [4] (.bin .Sub (.var 4) (.con (.int 1)))) (.var 2) (.us [5] (.bin .Sub (.var 5) (.con (.int 1)))) (.tup (.cons (.us [3, 5] (.idx (.var 3) (.bin .Sub (.var 5) (.con (.int 1))))) (.cons (.us [4] (.var 4)) .nil))))
  .nil)
  (.cons (.setI2 (.var 3) (.us [4] (.bin .Sub (.var 4) (.con (.int 1)))) (.var 2) (.us [5] (.bin .Sub (.var 5) (.con (.int 1)))) (.tup (.cons (.us [5] (.var 5)) (.cons (.us [2, 4] (.idx (.var 2) (.bin .Sub (.var 4) (.con (.int 1))))) .nil))))
  .nil))
 (.cons (.ret (.tup (.cons (.mv 2) (.cons (.mv 3) .nil))))
 .nil))))⟩
def g_law_sized_b : Fn := ⟨["_law_draws_here", "_law_many"], ["_law_draws_here", "_law_many", "_law_falls", "_law_rises", "_law_left", "_law_pick", "_law_some", "_law_root", "_law_low", "_law_high"],
  (.cons (.asg 2 (.us [1] (.bin .Mult (.lst (.cons (.con (.int 0)) .nil)) (.var 1))))
 (.cons (.asg 3 (.us [1] (.bin .Mult (.lst (.cons (.con (.int 0)) .nil)) (.var 1))))
 (.cons (.asg 4 (.lst (.cons (.tup (.cons (.con (.int 1)) (.cons (.mv 1) .nil))) .nil)))
 (.cons (.whl (.us [4] (.cmp .NotEq (.var 4) (.lst .nil)))
  (.cons (.unp [8, 9] (.mth "pop" (.var 4) .nil))
  (.cons (.asg 5 (.blt "int" (.cons (.call "_law_next" (.cons (.var 0) .nil) [] .nil) .nil)))
  (.cons (.asg 6 (.us [5, 8, 9] (.bin .Add (.var 8) (.bin .Mod (.bin .FloorDiv (.blt "int" (.cons (.var 5) .nil)) (.con (.int 4))) (.bin .Add (.bin .Sub (.var 9) (.var 8)) (.con (.int 1)))))))
  (.cons (.asg 7 (.us [5, 6, 8, 9] (.idx (.lst (.cons (.var 8) (.cons (.var 9) (.cons (.var 6) (.cons (.var 6) .nil))))) (.bin .Mod (.blt "int" (.cons (.var 5) .nil)) (.con (.int 4))))))
  (.cons (.setI (.var 2) (.us [7] (.bin .Sub (.var 7) (.con (.int 1)))) (.us [8] (.bin .Sub (.var 8) (.con (.int 1)))))
  (.cons (.setI (.var 3) (.us [7] (.bin .Sub (.var 7) (.con (.int 1)))) (.us [9] (.bin .Add (.var 9) (.con (.int 1)))))
  (.cons (.asg 4 (.us [4, 7, 8, 9] (.bin .Add (.bin .Add (.var 4) (.bin .Mult (.lst (.cons (.tup (.cons (.var 8) (.cons (.bin .Sub (.var 7) (.con (.int 1))) .nil))) .nil)) (.blt "int" (.cons (.cmp .Lt (.var 8) (.var 7)) .nil)))) (.bin .Mult (.lst (.cons (.tup (.cons (.bin .Add (.var 7) (.con (.int 1))) (.cons (.var 9) .nil))) .nil)) (.blt "int" (.cons (.cmp .Lt (.var 7) (.var 9)) .nil))))))
  .nil))))))))
 (.cons (.ret (.tup (.cons (.mv 2) (.cons (.mv 3) .nil))))
 .nil)))))⟩
def g_parted : Fn := ⟨["sums", "others"], ["sums", "others", "some", "distance", "second", "places", "first"],
  (.cons .never
 (.cons (.ife (.us [2] (.cmp .Eq (.var 2) (.lst .nil)))
  (.cons (.ret (.con .none))
  .nil)
  .nil)
 (.cons (.unp [3, 4] (.us [2] (.blt "min" (.cons (.comp (.tup (.cons (.bin .Sub (.var 6) (.var 4)) (.cons (.var 4) .nil))) (.tup [6, 4]) (.seq (.var 2)) .no [("first", 6), ("second", 4)]) .nil))))
 (.cons (.ret (.tup (.cons (.us [3, 4] (.bin .Add (.var 3) (.var 4))) (.cons (.mv 4) .nil))))
 .nil))))⟩
def g_check_right : Fn := ⟨["pair"], ["pair", "plain", "first", "second", "place"],
  (.cons (.ife (.us [0] (.not (.val (.call "is_right_pair" (.cons (.var 0) .nil) [] .nil))))
  (.cons .never
  (.cons (.unp [2, 3] (.us [0, 1] (.call "parted" (.cons (.call "sums_of" (.cons (.var 0) .nil) [] .nil) (.cons (.var 1) .nil)) [] .nil)))
  (.cons .never
  .nil)))
  .nil)
 .nil)⟩
def g_root_of : Fn := ⟨["pair", "low", "high"], ["pair", "low", "high", "down", "up", "place"],
  (.cons (.unp [3, 4] (.mv 0))
 (.cons (.ret (.us [1, 2, 3, 4] (.idx (.comp (.var 5) (.name 5) (.rng (.cons (.var 1) (.cons (.bin .Add (.var 2) (.con (.int 1))) .nil))) (.one (.cmp .Eq (.tup (.cons (.idx (.var 3) (.bin .Sub (.var 5) (.con (.int 1)))) (.cons (.idx (.var 4) (.bin .Sub (.var 5) (.con (.int 1)))) .nil))) (.tup (.cons (.bin .Sub (.var 1) (.con (.int 1))) (.cons (.bin .Add (.var 2) (.con (.int 1))) .nil))))) [("place", 5)]) (.con (.int 0)))))
 .nil))⟩
def g_tree_in : Fn := ⟨["pair", "low", "high"], ["pair", "low", "high", "root"],
  (.cons (.ife (.us [1, 2] (.cmp .Gt (.var 1) (.var 2)))
  (.cons (.ret (.con .none))
  .nil)
  .nil)
 (.cons (.asg 3 (.us [0, 1, 2] (.call "root_of" (.cons (.var 0) (.cons (.var 1) (.cons (.var 2) .nil))) [] .nil)))
 (.cons (.ret (.tup (.cons (.us [0, 1, 3] (.call "tree_in" (.cons (.var 0) (.cons (.var 1) (.cons (.bin .Sub (.var 3) (.con (.int 1))) .nil))) [] .nil)) (.cons (.us [3] (.var 3)) (.cons (.us [0, 2, 3] (.call "tree_in" (.cons (.var 0) (.cons (.bin .Add (.var 3) (.con (.int 1))) (.cons (.var 2) .nil))) [] .nil)) .nil)))))
 .nil)))⟩
def g_tree_of : Fn := ⟨["pair"], ["pair"],
  (.cons (.expr (.us [0] (.call "check_pair" (.cons (.var 0) .nil) [] .nil)))
 (.cons (.expr (.us [0] (.call "check_right" (.cons (.var 0) .nil) [] .nil)))
 (.cons (.ret (.us [0] (.call "tree_in" (.cons (.var 0) (.cons (.con (.int 1)) (.cons (.blt "len" (.cons (.idx (.var 0) (.con (.int 0))) .nil)) .nil))) [] .nil)))
 .nil)))⟩
def g_downs_of : Fn := ⟨["up"], ["up", "told", "index", "link", "other"],
  (.cons (.asg 1 (.us [] (.lst .nil)))
 (.cons (.forI (.tup [2, 3]) (.us [0] (.enm (.var 0)))
  (.cons (.ife (.us [0, 2, 3] (.cmp .NotEq (.comp (.var 4) (.name 4) (.seq (.sl2 (.var 0) (.bin .Add (.var 2) (.con (.int 1))) (.bin .Sub (.var 3) (.con (.int 1))))) (.one (.cmp .Gt (.var 4) (.var 3))) [("other", 4)]) (.lst .nil)))
   (.cons (.ret (.con .none))
   .nil)
   .nil)
  (.cons (.expr (.mth "append" (.var 1) (.cons (.us [0, 2] (.blt "max" (.cons (.bin .Add (.lst (.cons (.con (.int 0)) .nil)) (.comp (.bin .Add (.var 4) (.con (.int 1))) (.name 4) (.rng (.cons (.var 2) .nil)) (.one (.cmp .Gt (.idx (.var 0) (.var 4)) (.bin .Add (.var 2) (.con (.int 1))))) [("other", 4)])) .nil))) .nil)))
  .nil)))
 (.cons (.ret (.mv 1))
 .nil)))⟩
def g_up_for : Fn := ⟨["down"], ["down"],
  (.cons (.expr (.us [0] (.call "check_down" (.cons (.var 0) .nil) [] .nil)))
 (.cons (.ret (.us [0] (.call "ups_of" (.cons (.var 0) .nil) [] .nil)))
 .nil))⟩
def g_down_for : Fn := ⟨["up"], ["up"],
  (.cons (.expr (.us [0] (.call "check_up" (.cons (.var 0) .nil) [] .nil)))
 (.cons (.ret (.us [0] (.call "downs_of" (.cons (.var 0) .nil) [] .nil)))
 .nil))⟩
def g_depths : Fn := ⟨["pair"], ["pair", "down", "up", "place"],
  (.cons (.expr (.us [0] (.call "check_pair" (.cons (.var 0) .nil) [] .nil)))
 (.cons (.expr (.us [0] (.call "check_right" (.cons (.var 0) .nil) [] .nil)))
 (.cons (.unp [1, 2] (.mv 0))
 (.cons (.ret (.us [1, 2] (.comp (.bin .Sub (.bin .Add (.blt "len" (.cons (.call "steps_down" (.cons (.var 1) (.cons (.var 3) .nil)) [] .nil) .nil)) (.blt "len" (.cons (.call "steps_up" (.cons (.var 2) (.cons (.var 3) .nil)) [] .nil) .nil))) (.con (.int 1))) (.name 3) (.rng (.cons (.con (.int 1)) (.cons (.bin .Add (.blt "len" (.cons (.var 1) .nil)) (.con (.int 1))) .nil))) .no [("place", 3)])))
 .nil))))⟩
def g_turned : Fn := ⟨["pair"], ["pair", "most", "link"],
  (.cons (.expr (.us [0] (.call "check_pair" (.cons (.var 0) .nil) [] .nil)))
 (.cons (.asg 1 (.us [0] (.bin .Add (.blt "len" (.cons (.idx (.var 0) (.con (.int 0))) .nil)) (.con (.int 1)))))
 (.cons (.ret (.us [0, 1] (.tup (.cons (.comp (.bin .Sub (.var 1) (.var 2)) (.name 2) (.seq (.rev (.idx (.var 0) (.con (.int 1))))) .no [("link", 2)]) (.cons (.comp (.bin .Sub (.var 1) (.var 2)) (.name 2) (.seq (.rev (.idx (.var 0) (.con (.int 0))))) .no [("link", 2)]) .nil)))))
 .nil)))⟩
def g_forward_in : Fn := ⟨["pair"], ["pair", "some", "down", "up", "index", "link", "first", "second"],
  (.cons (.unp [2, 3] (.mv 0))
 (.cons (.asg 1 (.us [3] (.comp (.tup (.cons (.bin .Add (.var 4) (.con (.int 1))) (.cons (.var 5) .nil))) (.tup [4, 5]) (.enm (.var 3)) (.one (.cmp .LtE (.var 5) (.blt "len" (.cons (.var 3) .nil)))) [("index", 4), ("link", 5)])))
 (.cons (.ret (.us [1, 2] (.comp (.tup (.cons (.var 6) (.cons (.var 7) .nil))) (.tup [6, 7]) (.seq (.var 1)) (.one (.cmp .Eq (.idx (.var 2) (.bin .Sub (.var 6) (.con (.int 1)))) (.idx (.var 2) (.bin .Sub (.var 7) (.con (.int 1)))))) [("first", 6), ("second", 7)])))
 .nil)))⟩
def g_back_in : Fn := ⟨["pair"], ["pair", "some", "down", "up", "index", "link", "first", "second"],
  (.cons (.unp [2, 3] (.mv 0))
 (.cons (.asg 1 (.us [2] (.comp (.tup (.cons (.var 5) (.cons (.bin .Add (.var 4) (.con (.int 1))) .nil))) (.tup [4, 5]) (.enm (.var 2)) (.one (.cmp .Gt (.var 5) (.con (.int 0)))) [("index", 4), ("link", 5)])))
 (.cons (.ret (.us [1, 3] (.blt "sorted" (.cons (.comp (.tup (.cons (.var 6) (.cons (.var 7) .nil))) (.tup [6, 7]) (.seq (.var 1)) (.one (.cmp .Eq (.idx (.var 3) (.bin .Sub (.var 6) (.con (.int 1)))) (.idx (.var 3) (.bin .Sub (.var 7) (.con (.int 1)))))) [("first", 6), ("second", 7)]) .nil))))
 .nil)))⟩
def g_forward_moves : Fn := ⟨["pair"], ["pair"],
  (.cons (.expr (.us [0] (.call "check_pair" (.cons (.var 0) .nil) [] .nil)))
 (.cons (.ret (.us [0] (.call "forward_in" (.cons (.var 0) .nil) [] .nil)))
 .nil))⟩
def g_back_moves : Fn := ⟨["pair"], ["pair"],
  (.cons (.expr (.us [0] (.call "check_pair" (.cons (.var 0) .nil) [] .nil)))
 (.cons (.ret (.us [0] (.call "back_in" (.cons (.var 0) .nil) [] .nil)))
 .nil))⟩
def g_gone_forward : Fn := ⟨["pair", "move"], ["pair", "move", "down", "up", "first", "second"],
  (.cons (.par [2, 3] (.cons (.us [0] (.blt "list" (.cons (.idx (.var 0) (.con (.int 0))) .nil))) (.cons (.us [0] (.blt "list" (.cons (.idx (.var 0) (.con (.int 1))) .nil))) .nil)))
 (.cons (.unp [4, 5] (.mv 1))
 (.cons (.setI (.var 3) (.us [4] (.bin .Sub (.var 4) (.con (.int 1)))) (.us [3, 5] (.idx (.var 3) (.bin .Sub (.var 5) (.con (.int 1))))))
 (.cons (.setI (.var 2) (.us [5] (.bin .Sub (.var 5) (.con (.int 1)))) (.mv 4))
 (.cons (.ret (.tup (.cons (.mv 2) (.cons (.mv 3) .nil))))
 .nil)))))⟩
def g_gone_back : Fn := ⟨["pair", "move"], ["pair", "move", "down", "up", "first", "second"],
  (.cons (.par [2, 3] (.cons (.us [0] (.blt "list" (.cons (.idx (.var 0) (.con (.int 0))) .nil))) (.cons (.us [0] (.blt "list" (.cons (.idx (.var 0) (.con (.int 1))) .nil))) .nil)))
 (.cons (.unp [4, 5] (.mv 1))
 (.cons (.setI (.var 3) (.us [4] (.bin .Sub (.var 4) (.con (.int 1)))) (.us [5] (.var 5)))
 (.cons (.setI (.var 2) (.us [5] (.bin .Sub (.var 5) (.con (.int 1)))) (.us [2, 4] (.idx (.var 2) (.bin .Sub (.var 4) (.con (.int 1))))))
 (.cons (.ret (.tup (.cons (.mv 2) (.cons (.mv 3) .nil))))
 .nil)))))⟩
def g_moved : Fn := ⟨["pair", "move"], ["pair", "move", "place"],
  (.cons (.expr (.us [0] (.call "check_pair" (.cons (.var 0) .nil) [] .nil)))
 (.cons (.ife (.us [1] (.or (.not (.val (.isi (.var 1) "tuple"))) (.not (.val (.blt "all" (.cons (.comp (.call "is_whole" (.cons (.var 2) .nil) [] .nil) (.name 2) (.seq (.var 1)) .no [("place", 2)]) .nil))))))
  (.cons .never
  .nil)
  .nil)
 (.cons (.ife (.us [0, 1] (.cmp .In (.var 1) (.call "forward_in" (.cons (.var 0) .nil) [] .nil)))
  (.cons (.ret (.us [0, 1] (.call "gone_forward" (.cons (.var 0) (.cons (.var 1) .nil)) [] .nil)))
  .nil)
  .nil)
 (.cons (.ife (.us [0, 1] (.cmp .In (.var 1) (.call "back_in" (.cons (.var 0) .nil) [] .nil)))
  (.cons (.ret (.us [0, 1] (.call "gone_back" (.cons (.var 0) (.cons (.var 1) .nil)) [] .nil)))
  .nil)
  .nil)
 (.cons .never
 .nil)))))⟩
def g_check_numbers : Fn := ⟨["numbers", "places"], ["numbers", "places", "index", "number"],
  (.cons (.ife (.us [0, 1] (.or (.not (.val (.isi (.var 0) "list"))) (.cmp .NotEq (.blt "len" (.cons (.var 0) .nil)) (.var 1))))
  (.cons .never
  .nil)
  .nil)
 (.cons (.forI (.tup [2, 3]) (.us [0] (.enm (.var 0)))
  (.cons (.ife (.us [3] (.or (.not (.val (.call "is_whole" (.cons (.var 3) .nil) [] .nil))) (.cmp .Lt (.var 3) (.con (.int 0)))))
   (.cons .never
   .nil)
   .nil)
  .nil))
 .nil))⟩
def g_price : Fn := ⟨["pair", "asked", "changed"], ["pair", "asked", "changed", "number", "index"],
  (.cons (.expr (.us [0] (.call "check_pair" (.cons (.var 0) .nil) [] .nil)))
 (.cons (.expr (.us [0, 1] (.call "check_numbers" (.cons (.var 1) (.cons (.blt "len" (.cons (.idx (.var 0) (.con (.int 0))) .nil)) .nil)) [] .nil)))
 (.cons (.expr (.us [0, 2] (.call "check_numbers" (.cons (.var 2) (.cons (.blt "len" (.cons (.idx (.var 0) (.con (.int 0))) .nil)) .nil)) [] .nil)))
 (.cons (.asg 3 (.con (.int 0)))
 (.cons (.forI (.name 4) (.us [1] (.rng (.cons (.blt "len" (.cons (.var 1) .nil)) .nil)))
  (.cons (.aug 3 .Add (.us [0, 1, 4] (.bin .Mult (.idx (.var 1) (.var 4)) (.blt "len" (.cons (.call "steps_down" (.cons (.idx (.var 0) (.con (.int 0))) (.cons (.bin .Add (.var 4) (.con (.int 1))) .nil)) [] .nil) .nil)))))
  (.cons (.aug 3 .Add (.us [0, 2, 4] (.bin .Mult (.idx (.var 2) (.var 4)) (.blt "len" (.cons (.call "steps_up" (.cons (.idx (.var 0) (.con (.int 1))) (.cons (.bin .Add (.var 4) (.con (.int 1))) .nil)) [] .nil) .nil)))))
  .nil)))
 (.cons (.ret (.mv 3))
 .nil))))))⟩

def g_k22_law_ups : Fn := ⟨["_law_falls"], ["_law_falls", "_law_many", "_law_told", "_law_k", "_law_j", "_law_m"],
  (.cons (.asg 1 (.us [0] (.blt "len" (.cons (.var 0) .nil))))
 (.cons (.asg 2 (.us [] (.lst .nil)))
 (.cons (.forI (.name 3) (.us [1] (.rng (.cons (.con (.int 1)) (.cons (.bin .Add (.var 1) (.con (.int 1))) .nil))))
  (.cons (.ife (.us [0, 3] (.cmp .NotEq (.comp (.var 4) (.name 4) (.rng (.cons (.bin .Add (.idx (.var 0) (.bin .Sub (.var 3) (.con (.int 1)))) (.con (.int 1))) (.cons (.var 3) .nil))) (.one (.cmp .Lt (.idx (.var 0) (.bin .Sub (.var 4) (.con (.int 1)))) (.idx (.var 0) (.bin .Sub (.var 3) (.con (.int 1)))))) [("_law_j", 4)]) (.lst .nil)))
   (.cons (.ret (.con .none))
   .nil)
   .nil)
  (.cons (.expr (.mth "append" (.var 2) (.cons (.us [0, 1, 3] (.idx (.bin .Add (.comp (.var 5) (.name 5) (.rng (.cons (.bin .Add (.var 3) (.con (.int 1))) (.cons (.bin .Add (.var 1) (.con (.int 1))) .nil))) (.one (.cmp .Lt (.idx (.var 0) (.bin .Sub (.var 5) (.con (.int 1)))) (.var 3))) [("_law_m", 5)]) (.lst (.cons (.bin .Add (.var 1) (.con (.int 1))) .nil))) (.con (.int 0)))) .nil)))
  .nil)))
 (.cons (.ret (.mv 2))
 .nil))))⟩
def g_k22_law_downs : Fn := ⟨["_law_rises"], ["_law_rises", "_law_told", "_law_j", "_law_k", "_law_m"],
  (.cons (.asg 1 (.us [] (.lst .nil)))
 (.cons (.forI (.name 2) (.us [0] (.rng (.cons (.con (.int 1)) (.cons (.bin .Add (.blt "len" (.cons (.var 0) .nil)) (.con (.int 1))) .nil))))
  (.cons (.ife (.us [0, 2] (.cmp .NotEq (.comp (.var 3) (.name 3) (.rng (.cons (.bin .Add (.var 2) (.con (.int 1))) (.cons (.idx (.var 0) (.bin .Sub (.var 2) (.con (.int 1)))) .nil))) (.one (.cmp .Gt (.idx (.var 0) (.bin .Sub (.var 3) (.con (.int 1)))) (.idx (.var 0) (.bin .Sub (.var 2) (.con (.int 1)))))) [("_law_k", 3)]) (.lst .nil)))
   (.cons (.ret (.con .none))
   .nil)
   .nil)
  (.cons (.expr (.mth "append" (.var 1) (.cons (.us [0, 2] (.idx (.bin .Add (.lst (.cons (.con (.int 0)) .nil)) (.comp (.var 4) (.name 4) (.rng (.cons (.con (.int 1)) (.cons (.var 2) .nil))) (.one (.cmp .Gt (.idx (.var 0) (.bin .Sub (.var 4) (.con (.int 1)))) (.var 2))) [("_law_m", 4)])) (.neg (.con (.int 1))))) .nil)))
  .nil)))
 (.cons (.ret (.mv 1))
 .nil)))⟩
def g_k22_law_right : Fn := ⟨["_law_falls", "_law_rises"], ["_law_falls", "_law_rises", "_law_kept", "_law_due", "_law_told", "_law_fits", "_law_part"],
  (.cons (.asg 2 (.us [0, 1] (.blt "repr" (.cons (.lst (.cons (.var 0) (.cons (.var 1) .nil))) .nil))))
 (.cons (.asg 3 (.us [0, 1] (.lst (.cons (.call "_law_ups" (.cons (.var 0) .nil) [] .nil) (.cons (.call "_law_downs" (.cons (.var 1) .nil) [] .nil) .nil)))))
 (.cons (.asg 4 (.us [0, 1] (.lst (.cons (.call "up_for" (.cons (.var 0) .nil) [] .nil) (.cons (.call "down_for" (.cons (.var 1) .nil) [] .nil) .nil)))))
 (.cons (.ife (.us [0, 1, 3, 4] (.or (.cmp .NotEq (.blt "repr" (.cons (.var 4) .nil)) (.blt "repr" (.cons (.var 3) .nil))) (.cmp .NotEq (.blt "repr" (.cons (.lst (.cons (.call "up_for" .nil ["down"] (.cons (.var 0) .nil)) (.cons (.call "down_for" .nil ["up"] (.cons (.var 1) .nil)) .nil))) .nil)) (.blt "repr" (.cons (.var 3) .nil)))))
  (.cons (.ret (.con (.bool false)))
  .nil)
  .nil)
 (.cons (.asg 5 (.us [1, 3] (.cmp .Eq (.idx (.var 3) (.con (.int 0))) (.var 1))))
 (.cons (.ife (.us [0, 1, 2, 3, 5] (.or (.cmp .NotEq (.blt "repr" (.cons (.lst (.cons (.var 0) (.cons (.var 1) .nil))) .nil)) (.var 2)) (.or (.cmp .NotEq (.call "is_right" (.cons (.tup (.cons (.var 0) (.cons (.var 1) .nil))) .nil) [] .nil) (.var 5)) (.cmp .NotEq (.cmp .Eq (.idx (.var 3) (.con (.int 1))) (.var 0)) (.var 5)))))
  (.cons (.ret (.con (.bool false)))
  .nil)
  .nil)
 (.cons (.ife (.us [0, 3] (.and (.cmp .IsNot (.idx (.var 3) (.con (.int 0))) (.con .none)) (.or (.not (.val (.call "is_right" (.cons (.tup (.cons (.var 0) (.cons (.idx (.var 3) (.con (.int 0))) .nil))) .nil) [] .nil))) (.cmp .NotEq (.call "down_for" (.cons (.idx (.var 3) (.con (.int 0))) .nil) [] .nil) (.var 0)))))
  (.cons (.ret (.con (.bool false)))
  .nil)
  .nil)
 (.cons (.ife (.us [1, 3] (.and (.cmp .IsNot (.idx (.var 3) (.con (.int 1))) (.con .none)) (.or (.not (.val (.call "is_right" (.cons (.tup (.cons (.idx (.var 3) (.con (.int 1))) (.cons (.var 1) .nil))) .nil) [] .nil))) (.cmp .NotEq (.call "up_for" (.cons (.idx (.var 3) (.con (.int 1))) .nil) [] .nil) (.var 1)))))
  (.cons (.ret (.con (.bool false)))
  .nil)
  .nil)
 (.cons (.forI (.name 6) (.seq (.mv 4))
  (.cons (.ife (.us [6] (.cmp .IsNot (.var 6) (.con .none)))
   (.cons (.expr (.mth "append" (.var 6) (.cons (.con .none) .nil)))
   .nil)
   .nil)
  .nil))
 (.cons (.ret (.us [0, 1, 2, 3] (.and (.cmp .Eq (.blt "repr" (.cons (.lst (.cons (.call "up_for" (.cons (.var 0) .nil) [] .nil) (.cons (.call "down_for" (.cons (.var 1) .nil) [] .nil) .nil))) .nil)) (.blt "repr" (.cons (.var 3) .nil))) (.cmp .Eq (.blt "repr" (.cons (.lst (.cons (.var 0) (.cons (.var 1) .nil))) .nil)) (.var 2)))))
 .nil))))))))))⟩
def g_k22_law : Fn := ⟨["_law_script"], ["_law_script", "_law_every", "_law_lows", "_law_draws_here", "_law_turn", "_law_falls", "_law_cell", "_law_rises", "_law_one", "_law_number"],
  (.cons (.asg 1 (.us [] (.call "_law_all_pairs" (.cons (.con (.int 4)) .nil) [] .nil)))
 (.cons (.asg 2 (.us [] (.call "_law_lists" (.cons (.lst (.cons (.con (.int 1)) (.cons (.con (.int 2)) (.cons (.con (.int 3)) (.cons (.con (.int 4)) (.cons (.con (.int 5)) .nil)))))) .nil) [] .nil)))
 (.cons (.forI (.name 3) (.us [0] (.seq (.comp (.call "_law_draws" (.cons (.var 6) .nil) [] .nil) (.name 6) (.seq (.bin .Add (.sl0 (.var 0) (.con (.int 6))) (.lst (.cons (.con (.int 0)) .nil)))) .no [("_law_cell", 6)])))
  (.cons (.forI (.name 4) (.us [] (.rng (.cons (.con (.int 3)) .nil)))
   (.cons (.unp [5, 7] (.call "_law_any" (.cons (.var 3) (.cons (.con (.int 16)) .nil)) [] .nil))
   (.cons (.ife (.us [5, 7] (.not (.val (.call "_law_right" (.cons (.var 5) (.cons (.var 7) .nil)) [] .nil))))
    (.cons (.ret (.con (.bool false)))
    .nil)
    .nil)
   .nil)))
  (.cons (.ife (.cmp .NotEq (.comp (.us [8] (.var 8)) (.name 8) (.seq (.stp (.us [1] (.var 1)) (.bin .Mod (.blt "int" (.cons (.call "_law_next" (.cons (.var 3) .nil) [] .nil) .nil)) (.con (.int 9))) 9)) (.one (.us [8] (.not (.val (.call "_law_right" (.cons (.idx (.var 8) (.con (.int 0))) (.cons (.idx (.var 8) (.con (.int 1))) .nil)) [] .nil))))) [("_law_one", 8)]) (.us [] (.lst .nil)))
   (.cons (.ret (.con (.bool false)))
   .nil)
   .nil)
  (.cons (.forI (.name 5) (.seq (.stp (.us [2] (.var 2)) (.bin .Mod (.blt "int" (.cons (.call "_law_next" (.cons (.var 3) .nil) [] .nil) .nil)) (.con (.int 5))) 5))
   (.cons (.ife (.us [5] (.not (.val (.call "_law_right" (.cons (.var 5) (.cons (.comp (.bin .Sub (.con (.int 6)) (.var 9)) (.name 9) (.seq (.rev (.var 5))) .no [("_law_number", 9)]) .nil)) [] .nil))))
    (.cons (.ret (.con (.bool false)))
    .nil)
    .nil)
   .nil))
  .nil))))
 (.cons (.ret (.us [2] (.cmp .Eq (.blt "len" (.cons (.comp (.var 5) (.name 5) (.seq (.var 2)) (.one (.cmp .IsNot (.call "up_for" (.cons (.var 5) .nil) [] .nil) (.con .none))) [("_law_falls", 5)]) .nil)) (.con (.int 42)))))
 .nil))))⟩
end VC

namespace VC
open PySem PySem.Spec PyProof.Rows L2

def Sq (x : PV) (P : List PV → Prop) : Prop := (∃ t xs, x = LL t xs ∧ P xs) ∨ ∃ t xs, x = .nod .tup t xs ∧ P xs
theorem sq_LL {t : Bool} {xs : List PV} {P : List PV → Prop} (q : P xs) : Sq (LL t xs) P := .inl ⟨t, xs, rfl, q⟩
theorem sq_TT {xs : List PV} {P : List PV → Prop} (q : P xs) : Sq (TT_ xs) P := .inr ⟨false, xs, rfl, q⟩
def Ep (c : PCn) (e : Ex) (σ : PSt) (P : PV → Prop) : Prop := ∃ p, evP c e σ = some (.ok p) ∧ P p
def Eps (c : PCn) (e : Exs) (σ : PSt) (P : List PV → Prop) : Prop := ∃ p, evPs c e σ = some (.ok p) ∧ P p
def Et (c : PCn) (e : Ts) (σ : PSt) (P : Bool → Prop) : Prop := ∃ p, evT c e σ = some (.ok p) ∧ P p
def Ec (c : PCn) (e : Cd) (σ : PSt) (P : Bool → Prop) : Prop := ∃ p, evC c e σ = some (.ok p) ∧ P p
def Ei (c : PCn) (e : Ir) (σ : PSt) (P : List Itm → Prop) : Prop := ∃ p, evI c e σ = some (.ok p) ∧ P p
def Xe (c : PCn) (e : Ex) (σ : PSt) (P : PV → PSt → Prop) : Prop := ∃ p σ', evX c e σ = some (.ok p, σ') ∧ P p σ'
def Xes (c : PCn) (e : Exs) (σ : PSt) (P : List PV → PSt → Prop) : Prop := ∃ p σ', evXs c e σ = some (.ok p, σ') ∧ P p σ'
def Xa (c : PCn) (e : Exs) (fl : List Bool) (σ : PSt) (P : List (Option Nat × PV) → PSt → Prop) : Prop := ∃ p σ', evXA c e fl σ = some (.ok p, σ') ∧ P p σ'
def Xt (c : PCn) (e : Ts) (σ : PSt) (P : Bool → PSt → Prop) : Prop := ∃ p σ', evXT c e σ = some (.ok p, σ') ∧ P p σ'
def Xc (c : PCn) (e : Cd) (σ : PSt) (P : Bool → PSt → Prop) : Prop := ∃ p σ', evXC c e σ = some (.ok p, σ') ∧ P p σ'
def Xi (c : PCn) (e : Ir) (σ : PSt) (P : List Itm → PSt → Prop) : Prop := ∃ p σ', evIX c e σ = some (.ok p, σ') ∧ P p σ'
def S1 (c : PCn) (lk : List Nat) (s : Sm) (σ : PSt) (P : Out → Prop) : Prop := ∃ o, evS c lk s σ = some o ∧ P o
def Sb_ (c : PCn) (lk : List Nat) (s : Ss) (σ : PSt) (P : Out → Prop) : Prop := ∃ o, evSs c lk s σ = some o ∧ P o
def Ob (op : Operator) (x y : PV) (P : PV → Prop) : Prop := ∃ z, opB op x y = some z ∧ P z
def Oc (op : CmpOp) (x y : PV) (P : Bool → Prop) : Prop := ∃ z, opC op x y = some z ∧ P z
def Oi (x y : PV) (P : PV → Prop) : Prop := ∃ z, idxP x y = some z ∧ P z
def Ol (x : PV) (lo hi : Option Int) (P : PV → Prop) : Prop := ∃ z, slP x lo hi = some z ∧ P z
def Of (f : Str) (xs : List PV) (P : PV → Prop) : Prop := ∃ z, bltP f xs = some z ∧ P z
def Cl (T : Tab) (io : Str → List Bool) (fu k : Nat) (f : Str) (ps : List PV) (P : PV → List (Option PV) → Prop) : Prop := ∃ p fin, GG T io fu k f ps = some (.ok p, fin) ∧ P p fin
theorem Cl.mono {T : Tab} {io : Str → List Bool} {fu k : Nat} {f : Str} {ps : List PV} {P P' : PV → List (Option PV) → Prop} (h : Cl T io fu k f ps P) (m : ∀ p fin, P p fin → P' p fin) : Cl T io fu k f ps P' := by
  obtain ⟨p, fin, h1, h2⟩ := h; exact ⟨p, fin, h1, m p fin h2⟩
def rtO (fl : List Bool) (P : PV → List (Option PV) → Prop) : Out → Prop
  | .rt p σ => P p (finP fl σ)
  | .nx σ => P .non (finP fl σ)
  | _ => False
theorem cl_of {T : Tab} {io : Str → List Bool} {fu k : Nat} {f : Str} {F : Fn} {fl : List Bool} (h : HasF T io f F fl) {ps : List PV} (hl : ps.length = F.ps.length) {P : PV → List (Option PV) → Prop}
    (hr : Sb_ (pcn T io fu k) (lkOf 0 fl) F.body (ps.map some ++ List.replicate (F.N.length - ps.length) none) (rtO fl P)) : Cl T io fu (k + 1) f ps P := by
  obtain ⟨o, h1, h2⟩ := hr
  cases o with
  | rt p σ => exact ⟨p, _, GG_of h hl h1, h2⟩
  | nx σ => exact ⟨.non, _, GG_nx h hl h1, h2⟩
  | bk _ => exact h2.elim
  | ct _ => exact h2.elim
  | ex _ _ => exact h2.elim

section
variable {T : Tab} {io : Str → List Bool} {fu k : Nat} {c : PCn} {lk : List Nat} {σ : PSt} {p x y : PV}
section
variable {P : PV → Prop}
theorem v_var {n : Nat} (h : σ[n]? = some (some p)) (q : P (sh p)) : Ep c (.var n) σ P := ⟨_, by simp only [evP, h], q⟩
theorem v_us {vs : List Nat} {e : Ex} (q : Ep c e σ P) : Ep c (.us vs e) σ P := by
  obtain ⟨p, h, q⟩ := q; exact ⟨p, by simp only [evP, h], q⟩
theorem v_int {n : Int} (q : P (.int n)) : Ep c (.con (.int n)) σ P := ⟨_, rfl, q⟩
theorem v_bool {n : Bool} (q : P (.bl n)) : Ep c (.con (.bool n)) σ P := ⟨_, rfl, q⟩
theorem v_none (q : P .non) : Ep c (.con .none) σ P := ⟨_, rfl, q⟩
theorem v_str {n : Str} (q : P (.str n)) : Ep c (.con (.str n)) σ P := ⟨_, rfl, q⟩
theorem v_glb {z : Str} {v : V} (h : HasC T z v) (hv : vP v = some p) (q : P p) : Ep (pcn T io fu k) (.glb z) σ P := ⟨p, by simp only [evP, h.eq, hv, Option.map_some], q⟩
theorem v_bin {op : Operator} {a b : Ex} (q : Ep c a σ fun x => Ep c b σ fun y => Ob op x y P) : Ep c (.bin op a b) σ P := by
  obtain ⟨x, h1, y, h2, z, h3, q⟩ := q; exact ⟨z, by simp only [evP, h1, h2, h3, bnd, Option.map_some], q⟩
theorem v_neg {a : Ex} {i : Int} (q : Ep c a σ fun x => ∃ i, x = .int i ∧ P (.int (-i))) : Ep c (.neg a) σ P := by
  obtain ⟨x, h1, i, rfl, q⟩ := q; exact ⟨_, by simp only [evP, h1, bnd], q⟩
theorem v_cmp {op : CmpOp} {a b : Ex} (q : Ep c a σ fun x => Ep c b σ fun y => Oc op x y fun z => P (.bl z)) : Ep c (.cmp op a b) σ P := by
  obtain ⟨x, h1, y, h2, z, h3, q⟩ := q; exact ⟨_, by simp only [evP, h1, h2, h3, bnd, Option.map_some], q⟩
theorem v_and {a b : Ex} (q : Ep c a σ fun x => ∃ z, x = .bl z ∧ if z = true then Ep c b σ P else P (.bl false)) : Ep c (.and a b) σ P := by
  obtain ⟨x, h1, z, rfl, q⟩ := q
  cases z with
  | true => rw [if_pos rfl] at q; obtain ⟨y, h2, q⟩ := q; exact ⟨y, by simp only [evP, h1, h2, bnd], q⟩
  | false => rw [if_neg (by decide)] at q; exact ⟨_, by simp only [evP, h1, bnd], q⟩
theorem v_or {a b : Ex} (q : Ep c a σ fun x => ∃ z, x = .bl z ∧ if z = true then P (.bl true) else Ep c b σ P) : Ep c (.or a b) σ P := by
  obtain ⟨x, h1, z, rfl, q⟩ := q
  cases z with
  | false => rw [if_neg (by decide)] at q; obtain ⟨y, h2, q⟩ := q; exact ⟨y, by simp only [evP, h1, h2, bnd], q⟩
  | true => rw [if_pos rfl] at q; exact ⟨_, by simp only [evP, h1, bnd], q⟩
theorem v_not {a : Ex} (q : Ep c a σ fun x => ∃ z, x = .bl z ∧ P (.bl (!z))) : Ep c (.not a) σ P := by
  obtain ⟨x, h1, z, rfl, q⟩ := q; exact ⟨_, by simp only [evP, h1, bnd], q⟩
theorem v_ite {t : Ts} {a b : Ex} (q : Et c t σ fun z => if z = true then Ep c a σ P else Ep c b σ P) : Ep c (.ite t a b) σ P := by
  obtain ⟨z, h1, q⟩ := q
  cases z with
  | true => rw [if_pos rfl] at q; obtain ⟨y, h2, q⟩ := q; exact ⟨y, by simp only [evP, h1, h2, bnd], q⟩
  | false => rw [if_neg (by decide)] at q; obtain ⟨y, h2, q⟩ := q; exact ⟨y, by simp only [evP, h1, h2, bnd], q⟩
theorem v_tup {es : Exs} (q : Eps c es σ fun xs => fitB xs.length = true ∧ P (TT_ xs)) : Ep c (.tup es) σ P := by
  obtain ⟨x, h1, h2, q⟩ := q; exact ⟨_, by simp only [evP, h1, h2, bnd, if_true], q⟩
theorem v_lst {es : Exs} (q : Eps c es σ fun xs => fitB xs.length = true ∧ P (LL true xs)) : Ep c (.lst es) σ P := by
  obtain ⟨x, h1, h2, q⟩ := q; exact ⟨_, by simp only [evP, h1, h2, bnd, if_true], q⟩
theorem v_idx {a b : Ex} (q : Ep c a σ fun x => Ep c b σ fun y => Oi x y P) : Ep c (.idx a b) σ P := by
  obtain ⟨x, h1, y, h2, z, h3, q⟩ := q; exact ⟨z, by simp only [evP, h1, h2, h3, bnd, Option.map_some], q⟩
theorem v_sl2 {a lo hi : Ex} (q : Ep c a σ fun x => Ep c lo σ fun y => Ep c hi σ fun z => ∃ i j, y = .int i ∧ z = .int j ∧ Ol x (some i) (some j) P) : Ep c (.sl2 a lo hi) σ P := by
  obtain ⟨x, h1, y, h2, z, h3, i, j, rfl, rfl, w, h4, q⟩ := q; exact ⟨w, by simp only [evP, h1, h2, h3, h4, bnd, Option.map_some], q⟩
theorem v_sl1 {a lo : Ex} (q : Ep c a σ fun x => Ep c lo σ fun y => ∃ i, y = .int i ∧ Ol x (some i) none P) : Ep c (.sl1 a lo) σ P := by
  obtain ⟨x, h1, y, h2, i, rfl, w, h4, q⟩ := q; exact ⟨w, by simp only [evP, h1, h2, h4, bnd, Option.map_some], q⟩
theorem v_sl0 {a hi : Ex} (q : Ep c a σ fun x => Ep c hi σ fun y => ∃ i, y = .int i ∧ Ol x none (some i) P) : Ep c (.sl0 a hi) σ P := by
  obtain ⟨x, h1, y, h2, i, rfl, w, h4, q⟩ := q; exact ⟨w, by simp only [evP, h1, h2, h4, bnd, Option.map_some], q⟩
theorem v_rev {a : Ex} (q : Ep c a σ fun x => ∃ t xs, x = LL t xs ∧ P (LL true xs.reverse)) : Ep c (.rev a) σ P := by
  obtain ⟨x, h1, t, xs, rfl, q⟩ := q; exact ⟨_, by simp only [evP, h1, bnd], q⟩
theorem v_call {f : Str} {es : Exs} {F : Fn} (h : HasF T io f F []) (q : Eps (pcn T io fu k) es σ fun xs => Cl T io fu k f (shs xs) fun p _ => P p) : Ep (pcn T io fu k) (.call f es [] .nil) σ P := by
  obtain ⟨x, h1, p, fin, h2, q⟩ := q
  refine ⟨p, ?_, q⟩
  simp only [evP, evPs, h1, bnd, h.io, List.any_nil, List.length_nil, Bool.false_or]
  have e : arrange (((T.fns.lookup f).map (·.ps)).getD []) [] PV.non x [] = x := rfl
  rw [e, h2]
  rfl
theorem v_callK {f : Str} {es kes : Exs} {ks : List Str} {F : Fn} (h : HasF T io f F []) (q : Eps (pcn T io fu k) es σ fun xs => Eps (pcn T io fu k) kes σ fun zs => zs.length = ks.length ∧ Cl T io fu k f (shs (arrange F.ps ks PV.non xs zs)) fun p _ => P p) : Ep (pcn T io fu k) (.call f es ks kes) σ P := by
  obtain ⟨x, h1, z, h3, hl, p, fin, h2, q⟩ := q
  refine ⟨p, ?_, q⟩
  have e : (((T.fns.lookup f).map (·.ps)).getD []) = F.ps := by rw [h.fn]; rfl
  simp only [evP, h1, h3, bnd, h.io, List.any_nil, hl, beq_self_eq_true, Bool.not_true, Bool.or_self, e, h2]
  rfl
theorem v_blt {f : Str} {es : Exs} (q : Eps c es σ fun xs => Of f xs P) : Ep c (.blt f es) σ P := by
  obtain ⟨x, h1, z, h2, q⟩ := q; exact ⟨z, by simp only [evP, h1, h2, bnd, Option.map_some], q⟩
theorem v_isi {a : Ex} {t : Str} (q : Ep c a σ fun x => ∃ n b, tyP x = some n ∧ kitB n t.toString = some b ∧ P (.bl b)) : Ep c (.isi a t) σ P := by
  obtain ⟨x, h1, n, b, h2, h3, q⟩ := q; exact ⟨_, by simp only [evP, h1, h2, h3, bnd, Option.map_some], q⟩
theorem v_chn {o o' : CmpOp} {a b d : Ex} (q : Ep c a σ fun x => Ep c b σ fun y => Oc o x y fun z => if z = true then Ep c d σ fun w => Oc o' y w fun z => P (.bl z) else P (.bl false)) : Ep c (.chn o o' a b d) σ P := by
  obtain ⟨x, h1, y, h2, z, h3, q⟩ := q
  cases z with
  | true => rw [if_pos rfl] at q; obtain ⟨w, h4, z2, h5, q⟩ := q; exact ⟨_, by simp only [evP, h1, h2, h3, h4, h5, bnd, Option.map_some], q⟩
  | false => rw [if_neg (by decide)] at q; exact ⟨_, by simp only [evP, h1, h2, h3, bnd], q⟩
def cmF (c : PCn) (e : Ex) (tg : Tg) (cs : Cd) (σ : PSt) (i : Itm) : Option (Option PV) := match bndT tg i σ with
  | none => none
  | some σ1 => match evC c cs σ1 with
    | some (.ok true) => match evP c e σ1 with
      | some (.ok p) => some (some p)
      | _ => none
    | some (.ok false) => some none
    | _ => none
theorem v_comp {e : Ex} {tg : Tg} {it : Ir} {cs : Cd} {own : List (Str × Nat)} (q : Ei c it σ fun its => fitB its.length = true ∧ ∃ ps, compP (cmF c e tg cs (wipeP σ (own.map (·.2)))) its = some ps ∧ P (LL true ps)) : Ep c (.comp e tg it cs own) σ P := by
  obtain ⟨its, h1, h2, ps, h3, q⟩ := q
  refine ⟨_, ?_, q⟩
  simp only [evP, h1, bnd, h2, if_true]
  have z : (match compP (cmF c e tg cs (wipeP σ (own.map (·.2)))) its with
      | some ps => some (Rx.ok (LL true ps))
      | none => none) = some (Rx.ok (LL true ps)) := by rw [h3]
  exact z
end
theorem vs_nil {P : List PV → Prop} (q : P []) : Eps c .nil σ P := ⟨_, rfl, q⟩
theorem vs_cons {P : List PV → Prop} {e : Ex} {es : Exs} (q : Ep c e σ fun x => Eps c es σ fun xs => P (x :: xs)) : Eps c (.cons e es) σ P := by
  obtain ⟨x, h1, xs, h2, q⟩ := q; exact ⟨_, by simp only [evPs, h1, h2, bnd], q⟩
section
variable {P : Bool → Prop}
theorem vt_us {vs : List Nat} {t : Ts} (q : Et c t σ P) : Et c (.us vs t) σ P := by
  obtain ⟨p, h, q⟩ := q; exact ⟨p, by simp only [evT, h], q⟩
theorem vt_val {e : Ex} (q : Ep c e σ fun x => ∃ b, x = .bl b ∧ P b) : Et c (.val e) σ P := by
  obtain ⟨x, h1, b, rfl, q⟩ := q; exact ⟨_, by simp only [evT, h1, bnd], q⟩
theorem vt_cmp {op : CmpOp} {a b : Ex} (q : Ep c a σ fun x => Ep c b σ fun y => Oc op x y P) : Et c (.cmp op a b) σ P := by
  obtain ⟨x, h1, y, h2, z, h3, q⟩ := q; exact ⟨_, by simp only [evT, h1, h2, h3, bnd, Option.map_some], q⟩
theorem vt_chn {o o' : CmpOp} {a b d : Ex} (q : Ep c a σ fun x => Ep c b σ fun y => Oc o x y fun z => if z = true then Ep c d σ fun w => Oc o' y w P else P false) : Et c (.chn o o' a b d) σ P := by
  obtain ⟨x, h1, y, h2, z, h3, q⟩ := q
  cases z with
  | true => rw [if_pos rfl] at q; obtain ⟨w, h4, z2, h5, q⟩ := q; exact ⟨_, by simp only [evT, h1, h2, h3, h4, h5, bnd, Option.map_some], q⟩
  | false => rw [if_neg (by decide)] at q; exact ⟨_, by simp only [evT, h1, h2, h3, bnd], q⟩
theorem vt_not {a : Ts} (q : Et c a σ fun b => P (!b)) : Et c (.not a) σ P := by
  obtain ⟨p, h, q⟩ := q; exact ⟨_, by simp only [evT, h, bnd], q⟩
theorem vt_and {a b : Ts} (q : Et c a σ fun z => if z = true then Et c b σ P else P false) : Et c (.and a b) σ P := by
  obtain ⟨z, h1, q⟩ := q
  cases z with
  | true => rw [if_pos rfl] at q; obtain ⟨w, h2, q⟩ := q; exact ⟨_, by simp only [evT, h1, h2, bnd], q⟩
  | false => rw [if_neg (by decide)] at q; exact ⟨_, by simp only [evT, h1, bnd], q⟩
theorem vt_or {a b : Ts} (q : Et c a σ fun z => if z = true then P true else Et c b σ P) : Et c (.or a b) σ P := by
  obtain ⟨z, h1, q⟩ := q
  cases z with
  | false => rw [if_neg (by decide)] at q; obtain ⟨w, h2, q⟩ := q; exact ⟨_, by simp only [evT, h1, h2, bnd], q⟩
  | true => rw [if_pos rfl] at q; exact ⟨_, by simp only [evT, h1, bnd], q⟩
theorem vd_no (q : P true) : Ec c .no σ P := ⟨_, rfl, q⟩
theorem vd_one {t : Ts} (q : Et c t σ P) : Ec c (.one t) σ P := by
  obtain ⟨p, h, q⟩ := q; exact ⟨p, by simp only [evC, h], q⟩
end
section
variable {P : List Itm → Prop}
theorem vi_us {vs : List Nat} {t : Ir} (q : Ei c t σ P) : Ei c (.us vs t) σ P := by
  obtain ⟨p, h, q⟩ := q; exact ⟨p, by simp only [evI, h], q⟩
theorem vi_seq {e : Ex} (q : Ep c e σ fun x => Sq x fun xs => P ((shs xs).map .one)) : Ei c (.seq e) σ P := by
  obtain ⟨x, h1, ⟨t, xs, rfl, q⟩ | ⟨t, xs, rfl, q⟩⟩ := q
  · exact ⟨_, by simp only [evI, h1, bnd], q⟩
  · exact ⟨_, by simp only [evI, h1, bnd], q⟩
theorem vi_rng {es : Exs} (q : Eps c es σ fun vs => ∃ xs, rngP vs = some xs ∧ P (xs.map .one)) : Ei c (.rng es) σ P := by
  obtain ⟨x, h1, xs, h2, q⟩ := q; exact ⟨_, by simp only [evI, h1, h2, bnd], q⟩
theorem vi_enm {e : Ex} (q : Ep c e σ fun x => ∃ t xs, x = LL t xs ∧ P (enmP 0 (shs xs))) : Ei c (.enm e) σ P := by
  obtain ⟨x, h1, t, xs, rfl, q⟩ := q; exact ⟨_, by simp only [evI, h1, bnd], q⟩
theorem vi_zip {a b : Ex} (q : Ep c a σ fun x => Ep c b σ fun y => ∃ t xs u ys, x = LL t xs ∧ y = LL u ys ∧ P (zipP (shs xs) (shs ys))) : Ei c (.zip a b) σ P := by
  obtain ⟨x, h1, y, h2, t, xs, u, ys, rfl, rfl, q⟩ := q; exact ⟨_, by simp only [evI, h1, h2, bnd], q⟩
end
def Cm (p : PV) (vs : List Nat) (σ τ : PSt) : Prop := (cln p = true ∧ σ = τ) ∨ (cln p = false ∧ dmF vs 0 σ = τ)
theorem cm_cl {vs : List Nat} (h : cln p = true) : Cm p vs σ σ := .inl ⟨h, rfl⟩
theorem cm_dm {vs : List Nat} {τ : PSt} (h : cln p = false) (e : dmF vs 0 σ = τ) : Cm p vs σ τ := .inr ⟨h, e⟩
section
variable {P : PV → PSt → Prop}
theorem x_us {vs : List Nat} {e : Ex} (q : Ep c e (keepF vs 0 σ) fun p => ∃ τ, Cm p vs σ τ ∧ P p τ) : Xe c (.us vs e) σ P := by
  obtain ⟨p, h, τ, ⟨hc, rfl⟩ | ⟨hc, rfl⟩, q⟩ := q
  · exact ⟨p, _, by simp only [evX, comm, h, hc, if_true], q⟩
  · exact ⟨p, _, by simp only [evX, comm, h, hc]; rfl, q⟩
theorem x_mv {n : Nat} (h : σ[n]? = some (some p)) (q : P p (σ.set n none)) : Xe c (.mv n) σ P := ⟨_, _, by simp only [evX, h], q⟩
theorem x_con {kk : Const} {v : V} (h : conV kk = some v) (h2 : vP v = some p) (q : P p σ) : Xe c (.con kk) σ P := ⟨_, _, by simp only [evX, h, h2, Option.map_some], q⟩
theorem x_bin {op : Operator} {a b : Ex} (q : Xe c a σ fun x σ => Xe c b σ fun y σ => Ob op x y fun z => P z σ) : Xe c (.bin op a b) σ P := by
  obtain ⟨x, σ1, h1, y, σ2, h2, z, h3, q⟩ := q; exact ⟨z, _, by simp only [evX, h1, h2, h3, bnX, Option.map_some], q⟩
theorem x_cmp {op : CmpOp} {a b : Ex} (q : Xe c a σ fun x σ => Xe c b σ fun y σ => Oc op x y fun z => P (.bl z) σ) : Xe c (.cmp op a b) σ P := by
  obtain ⟨x, σ1, h1, y, σ2, h2, z, h3, q⟩ := q; exact ⟨_, _, by simp only [evX, h1, h2, h3, bnX, Option.map_some], q⟩
theorem x_not {a : Ex} (q : Xe c a σ fun x σ => ∃ b, x = .bl b ∧ P (.bl (!b)) σ) : Xe c (.not a) σ P := by
  obtain ⟨x, σ1, h1, b, rfl, q⟩ := q; exact ⟨_, _, by simp only [evX, h1, bnX], q⟩
theorem x_and {a b : Ex} (q : Xe c a σ fun x σ => ∃ z, x = .bl z ∧ if z = true then Xe c b σ P else P (.bl false) σ) : Xe c (.and a b) σ P := by
  obtain ⟨x, σ1, h1, z, rfl, q⟩ := q
  cases z with
  | true => rw [if_pos rfl] at q; obtain ⟨y, σ2, h2, q⟩ := q; exact ⟨y, _, by simp only [evX, h1, h2, bnX], q⟩
  | false => rw [if_neg (by decide)] at q; exact ⟨_, _, by simp only [evX, h1, bnX], q⟩
theorem x_or {a b : Ex} (q : Xe c a σ fun x σ => ∃ z, x = .bl z ∧ if z = true then P (.bl true) σ else Xe c b σ P) : Xe c (.or a b) σ P := by
  obtain ⟨x, σ1, h1, z, rfl, q⟩ := q
  cases z with
  | false => rw [if_neg (by decide)] at q; obtain ⟨y, σ2, h2, q⟩ := q; exact ⟨y, _, by simp only [evX, h1, h2, bnX], q⟩
  | true => rw [if_pos rfl] at q; exact ⟨_, _, by simp only [evX, h1, bnX], q⟩
theorem x_blt {f : Str} {es : Exs} (q : Xes c es σ fun xs σ => Of f xs fun z => P z σ) : Xe c (.blt f es) σ P := by
  obtain ⟨x, σ1, h1, z, h2, q⟩ := q; exact ⟨z, _, by simp only [evX, h1, h2, bnX, Option.map_some], q⟩
theorem x_tup {es : Exs} (q : Xes c es σ fun xs σ => fitB xs.length = true ∧ P (TT_ xs) σ) : Xe c (.tup es) σ P := by
  obtain ⟨x, σ1, h1, h2, q⟩ := q; exact ⟨_, _, by simp only [evX, h1, h2, bnX, if_true], q⟩
theorem x_lst {es : Exs} (q : Xes c es σ fun xs σ => fitB xs.length = true ∧ P (LL true xs) σ) : Xe c (.lst es) σ P := by
  obtain ⟨x, σ1, h1, h2, q⟩ := q; exact ⟨_, _, by simp only [evX, h1, h2, bnX, if_true], q⟩
theorem x_stp {a lo : Ex} {k : Int} (q : Xe c a σ fun x σ => Xe c lo σ fun y σ => ∃ z, stpP x y k = some z ∧ P z σ) : Xe c (.stp a lo k) σ P := by
  obtain ⟨x, σ1, h1, y, σ2, h2, z, h3, q⟩ := q; exact ⟨_, _, by simp only [evX, h1, h2, h3, bnX, Option.map_some], q⟩
theorem x_ite {t : Ts} {a b : Ex} (q : Xt c t σ fun z σ => if z = true then Xe c a σ P else Xe c b σ P) : Xe c (.ite t a b) σ P := by
  obtain ⟨z, σ1, h1, q⟩ := q
  cases z with
  | true => rw [if_pos rfl] at q; obtain ⟨y, σ2, h2, q⟩ := q; exact ⟨y, _, by simp only [evX, h1, h2, bnX], q⟩
  | false => rw [if_neg (by decide)] at q; obtain ⟨y, σ2, h2, q⟩ := q; exact ⟨y, _, by simp only [evX, h1, h2, bnX], q⟩
theorem x_call {f : Str} {es : Exs} {F : Fn} {fl : List Bool} (h : HasF T io f F fl) (q : Xa (pcn T io fu k) es fl σ fun as σ => ∃ ps σ1, ioTake fl as σ = some (ps, σ1) ∧ Cl T io fu k f ps fun p fin => P p (ioPut as fin σ1)) : Xe (pcn T io fu k) (.call f es [] .nil) σ P := by
  obtain ⟨as, σ1, h1, ps, σ2, h2, p, fin, h3, q⟩ := q
  exact ⟨p, _, by simp only [evX, h.io, h1, h2, h3, bnX], q⟩
theorem x_append {o e : Ex} {i : Nat} {p0 : PV} (ho : plc o = some (i, [])) (h0 : σ[i]? = some (some p0)) (hL : isL (some p0) = true) (q : Xe c e σ fun x σ => ∃ xs, σ[i]? = some (some (LL true xs)) ∧ xs.length < 100000 ∧ P .non (σ.set i (some (LL true (xs ++ [x]))))) : Xe c (.mth "append" o (.cons e .nil)) σ P := by
  obtain ⟨x, σ1, h1, xs, h2, h3, q⟩ := q
  refine ⟨_, _, ?_, q⟩
  simp only [evX, ho, h0, getP, hL, h1, bnX, h2, upP, apL, if_true]
  rw [if_pos (decide_eq_true h3)]
theorem x_pop {o : Ex} {i : Nat} {xs : List PV} (ho : plc o = some (i, [])) (h0 : σ[i]? = some (some (LL true (xs ++ [x])))) (q : P x (σ.set i (some (LL true xs)))) : Xe c (.mth "pop" o .nil) σ P := by
  refine ⟨_, _, ?_, q⟩
  have e1 : (xs ++ [x])[(xs ++ [x]).length - 1]? = some x := by simp
  have e2 : (xs ++ [x]).dropLast = xs := by simp
  simp only [evX, ho, h0, e1, e2, if_true]
def cmX (c : PCn) (e : Ex) (tg : Tg) (cs : Cd) (own : List Nat) (i : Itm) (σ : PSt) : Option (Option PV × PSt) := match bndT tg i (dropF own 0 σ) with
  | none => none
  | some σ2 => match evXC c cs σ2 with
    | some (.ok true, σ4) => match evX c e σ4 with
      | some (.ok p, σ3) => some (some p, σ3)
      | _ => none
    | some (.ok false, σ4) => some (none, σ4)
    | _ => none
theorem x_comp {e : Ex} {tg : Tg} {it : Ir} {cs : Cd} {own : List (Str × Nat)} (q : Xi c it σ fun its σ1 => (fitB its.length && tgIn (own.map (·.2)) tg) = true ∧ ∃ ps σ2, compX (cmX c e tg cs (own.map (·.2))) its (dropF (own.map (·.2)) 0 σ1) = some (.ok ps, σ2) ∧ P (LL true ps) (mrgF (own.map (·.2)) 0 σ1 σ2)) : Xe c (.comp e tg it cs own) σ P := by
  obtain ⟨its, σ1, h1, h2, ps, σ2, h3, q⟩ := q
  refine ⟨_, _, ?_, q⟩
  simp only [evX, h1, bnX, h2, if_true]
  have z : bnX (compX (cmX c e tg cs (own.map (·.2))) its (dropF (own.map (·.2)) 0 σ1)) (fun ps σ2 => some (Rx.ok (LL true ps), mrgF (own.map (·.2)) 0 σ1 σ2)) = some (Rx.ok (LL true ps), mrgF (own.map (·.2)) 0 σ1 σ2) := by rw [h3]; rfl
  exact z
end
theorem xs_nil {P : List PV → PSt → Prop} (q : P [] σ) : Xes c .nil σ P := ⟨_, _, rfl, q⟩
theorem xs_cons {P : List PV → PSt → Prop} {e : Ex} {es : Exs} (q : Xe c e σ fun x σ => Xes c es σ fun xs σ => P (x :: xs) σ) : Xes c (.cons e es) σ P := by
  obtain ⟨x, σ1, h1, xs, σ2, h2, q⟩ := q; exact ⟨_, _, by simp only [evXs, h1, h2, bnX], q⟩
section
variable {P : List (Option Nat × PV) → PSt → Prop} {fl : List Bool}
theorem xa_nil (q : P [] σ) : Xa c .nil fl σ P := ⟨_, _, rfl, q⟩
theorem xa_io {i : Nat} {es : Exs} {p0 : PV} (h : σ[i]? = some (some p0)) (q : Xa c es fl σ fun as σ => P ((some i, .non) :: as) σ) : Xa c (.cons (.var i) es) (true :: fl) σ P := by
  obtain ⟨as, σ1, h1, q⟩ := q; exact ⟨_, _, by simp only [evXA, h, h1, bnX], q⟩
theorem xa_no {e : Ex} {es : Exs} (q : Xe c e σ fun x σ => Xa c es fl σ fun as σ => P ((none, x) :: as) σ) : Xa c (.cons e es) (false :: fl) σ P := by
  obtain ⟨x, σ1, h1, as, σ2, h2, q⟩ := q; exact ⟨_, _, by simp only [evXA, h1, h2, bnX, List.drop_succ_cons, List.drop_zero], q⟩
theorem xa_0 {e : Ex} {es : Exs} (q : Xe c e σ fun x σ => Xa c es [] σ fun as σ => P ((none, x) :: as) σ) : Xa c (.cons e es) [] σ P := by
  obtain ⟨x, σ1, h1, as, σ2, h2, q⟩ := q; exact ⟨_, _, by simp only [evXA, h1, h2, bnX, List.drop_nil], q⟩
end
section
variable {P : Bool → PSt → Prop}
theorem xt_us {vs : List Nat} {t : Ts} (q : Et c t (keepF vs 0 σ) fun b => P b σ) : Xt c (.us vs t) σ P := by
  obtain ⟨b, h, q⟩ := q; exact ⟨b, _, by simp only [evXT, h], q⟩
theorem xt_val {e : Ex} (q : Xe c e σ fun x σ => ∃ b, x = .bl b ∧ P b σ) : Xt c (.val e) σ P := by
  obtain ⟨x, σ1, h1, b, rfl, q⟩ := q; exact ⟨_, _, by simp only [evXT, h1, bnX], q⟩
theorem xt_cmp {op : CmpOp} {a b : Ex} (q : Xe c a σ fun x σ => Xe c b σ fun y σ => Oc op x y fun z => P z σ) : Xt c (.cmp op a b) σ P := by
  obtain ⟨x, σ1, h1, y, σ2, h2, z, h3, q⟩ := q; exact ⟨_, _, by simp only [evXT, h1, h2, h3, bnX, Option.map_some], q⟩
theorem xt_not {a : Ts} (q : Xt c a σ fun b σ => P (!b) σ) : Xt c (.not a) σ P := by
  obtain ⟨b, σ1, h1, q⟩ := q; exact ⟨_, _, by simp only [evXT, h1, bnX], q⟩
theorem xt_and {a b : Ts} (q : Xt c a σ fun z σ => if z = true then Xt c b σ P else P false σ) : Xt c (.and a b) σ P := by
  obtain ⟨z, σ1, h1, q⟩ := q
  cases z with
  | true => rw [if_pos rfl] at q; obtain ⟨w, σ2, h2, q⟩ := q; exact ⟨_, _, by simp only [evXT, h1, h2, bnX], q⟩
  | false => rw [if_neg (by decide)] at q; exact ⟨_, _, by simp only [evXT, h1, bnX], q⟩
theorem xt_or {a b : Ts} (q : Xt c a σ fun z σ => if z = true then P true σ else Xt c b σ P) : Xt c (.or a b) σ P := by
  obtain ⟨z, σ1, h1, q⟩ := q
  cases z with
  | false => rw [if_neg (by decide)] at q; obtain ⟨w, σ2, h2, q⟩ := q; exact ⟨_, _, by simp only [evXT, h1, h2, bnX], q⟩
  | true => rw [if_pos rfl] at q; exact ⟨_, _, by simp only [evXT, h1, bnX], q⟩
theorem xd_no (q : P true σ) : Xc c .no σ P := ⟨_, _, rfl, q⟩
theorem xd_one {t : Ts} (q : Xt c t σ P) : Xc c (.one t) σ P := by
  obtain ⟨p, σ1, h, q⟩ := q; exact ⟨p, _, by simp only [evXC, h], q⟩
end
section
variable {P : List Itm → PSt → Prop}
theorem xi_seq {vs : List Nat} {e : Ex} (q : Xe c (.us vs e) σ fun x σ => Sq x fun xs => P (xs.map .one) σ) : Xi c (.us vs (.seq e)) σ P := by
  obtain ⟨x, σ1, h1, q⟩ := q
  simp only [evX] at h1
  rcases q with ⟨t, xs, rfl, q⟩ | ⟨t, xs, rfl, q⟩
  · exact ⟨_, _, by simp only [evIX, h1, bnX], q⟩
  · exact ⟨_, _, by simp only [evIX, h1, bnX], q⟩
theorem xi_rng {vs : List Nat} {es : Exs} (q : Eps c es (keepF vs 0 σ) fun ps => ∃ xs, rngP ps = some xs ∧ P (xs.map .one) σ) : Xi c (.us vs (.rng es)) σ P := by
  obtain ⟨x, h1, xs, h2, q⟩ := q; exact ⟨_, _, by simp only [evIX, h1, h2], q⟩
theorem xi_enm {vs : List Nat} {e : Ex} (q : Xe c (.us vs e) σ fun x σ => ∃ t xs, x = LL t xs ∧ P (enmP 0 xs) σ) : Xi c (.us vs (.enm e)) σ P := by
  obtain ⟨x, σ1, h1, t, xs, rfl, q⟩ := q
  simp only [evX] at h1
  exact ⟨_, _, by simp only [evIX, h1, bnX], q⟩
theorem xi_zip {vs : List Nat} {a b : Ex} (q : Xe c (.us vs a) σ fun x σ => Xe c (.us vs b) σ fun y σ => ∃ t xs u ys, x = LL t xs ∧ y = LL u ys ∧ P (zipP xs ys) σ) : Xi c (.us vs (.zip a b)) σ P := by
  obtain ⟨x, σ1, h1, y, σ2, h2, t, xs, u, ys, rfl, rfl, q⟩ := q
  simp only [evX] at h1 h2
  exact ⟨_, _, by simp only [evIX, h1, h2, bnX], q⟩
theorem xi_seqX {e : Ex} (q : Xe c e σ fun x σ => Sq x fun xs => P (xs.map .one) σ) : Xi c (.seq e) σ P := by
  obtain ⟨x, σ1, h1, ⟨t, xs, rfl, q⟩ | ⟨t, xs, rfl, q⟩⟩ := q
  · exact ⟨_, _, by simp only [evIX, h1, bnX], q⟩
  · exact ⟨_, _, by simp only [evIX, h1, bnX], q⟩
theorem xi_rngX {es : Exs} (q : Xes c es σ fun ps σ => ∃ xs, rngP ps = some xs ∧ P (xs.map .one) σ) : Xi c (.rng es) σ P := by
  obtain ⟨x, σ1, h1, xs, h2, q⟩ := q; exact ⟨_, _, by simp only [evIX, h1, h2, bnX], q⟩
end
section
variable {P : Out → Prop}
theorem y_expr {e : Ex} (q : Xe c e σ fun _ σ => P (.nx σ)) : S1 c lk (.expr e) σ P := by
  obtain ⟨p, σ1, h, q⟩ := q; exact ⟨_, by simp only [evS, h, bnS], q⟩
theorem y_ret {e : Ex} (q : Xe c e σ fun p σ => P (.rt p σ)) : S1 c lk (.ret e) σ P := by
  obtain ⟨p, σ1, h, q⟩ := q; exact ⟨_, by simp only [evS, h, bnS], q⟩
theorem y_retN (q : P (.rt .non σ)) : S1 c lk .retN σ P := ⟨_, rfl, q⟩
theorem y_asg {i : Nat} {e : Ex} (h : lk.contains i = false) (q : Xe c e σ fun p σ => P (.nx (σ.set i (some p)))) : S1 c lk (.asg i e) σ P := by
  obtain ⟨p, σ1, h1, q⟩ := q; exact ⟨_, by simp only [evS, h1, bnS, stP, h]; rfl, q⟩
theorem y_unp {is : List Nat} {e : Ex} (h : is.any (lk.contains ·) = false) (q : Xe c e σ fun p σ => ∃ t ys, p = .nod .tup t ys ∧ ys.length = is.length ∧ P (.nx (setP σ is ys))) : S1 c lk (.unp is e) σ P := by
  obtain ⟨p, σ1, h1, t, ys, rfl, hl, q⟩ := q; exact ⟨_, by simp only [evS, h1, bnS, hl, beq_self_eq_true, if_true, stPs, h]; rfl, q⟩
theorem y_par {is : List Nat} {es : Exs} (h : is.any (lk.contains ·) = false) (q : Xes c es σ fun ps σ => ps.length = is.length ∧ P (.nx (setP σ is ps))) : S1 c lk (.par is es) σ P := by
  obtain ⟨p, σ1, h1, hl, q⟩ := q; exact ⟨_, by simp only [evS, h1, bnS, hl, beq_self_eq_true, if_true, stPs, h]; rfl, q⟩
theorem j_us {vs : List Nat} {e : Ex} {Pj : Int → Prop} (q : Ep c e (keepF vs 0 σ) fun p => ∃ j, p = .int j ∧ Pj j) : ∃ j, evJ c (.us vs e) σ = some j ∧ Pj j := by
  obtain ⟨p, h, j, rfl, q⟩ := q
  exact ⟨j, by simp only [evJ, h], q⟩
theorem j_con {n : Int} {Pj : Int → Prop} (q : Pj n) : ∃ j, evJ c (.con (.int n)) σ = some j ∧ Pj j := ⟨n, rfl, q⟩
theorem y_set {o i e : Ex} {v : Nat} {π : List Nat} (ho : plc o = some (v, π)) (q : Xe c e σ fun x σ => ∃ j p p', evJ c i σ = some j ∧ σ[v]? = some (some p) ∧ upP (stL j x) π p = some p' ∧ P (.nx (σ.set v (some p')))) : S1 c lk (.setI o i e) σ P := by
  obtain ⟨x, σ1, h1, j, p, p', h2, h3, h4, q⟩ := q; exact ⟨_, by simp only [evS, h1, bnS, stA, ho, h2, h3, h4, Option.map_some], q⟩
theorem y_ife {t : Ts} {a b : Ss} (q : Xt c t σ fun z σ => if z = true then Sb_ c lk a σ P else Sb_ c lk b σ P) : S1 c lk (.ife t a b) σ P := by
  obtain ⟨z, σ1, h1, q⟩ := q
  cases z with
  | true => rw [if_pos rfl] at q; obtain ⟨o, h2, q⟩ := q; exact ⟨o, by simp only [evS, h1, bnS, h2], q⟩
  | false => rw [if_neg (by decide)] at q; obtain ⟨o, h2, q⟩ := q; exact ⟨o, by simp only [evS, h1, bnS, h2], q⟩
theorem y_for {tg : Tg} {it : Ir} {b : Ss} (h : tgOk lk tg = true) (q : Xi c it σ fun its σ => ∃ o, forX (evSs c lk b) tg its σ = some o ∧ P o) : S1 c lk (.forI tg it b) σ P := by
  obtain ⟨its, σ1, h1, o, h2, q⟩ := q; exact ⟨o, by simp only [evS, h, h1, bnS, h2, if_true], q⟩
theorem y_whl {t : Ts} {b : Ss} (q : ∃ o, whlX (evXT c t) (evSs c lk b) c.fu σ = some o ∧ P o) : S1 c lk (.whl t b) σ P := by
  obtain ⟨o, h, q⟩ := q; exact ⟨o, by simp only [evS, h], q⟩
theorem y_pass (q : P (.nx σ)) : S1 c lk .pass σ P := ⟨_, rfl, q⟩
theorem y_brk (q : P (.bk σ)) : S1 c lk .brk σ P := ⟨_, rfl, q⟩
theorem y_cont (q : P (.ct σ)) : S1 c lk .cont σ P := ⟨_, rfl, q⟩
def thenS (c : PCn) (lk : List Nat) (r : Ss) (P : Out → Prop) : Out → Prop
  | .nx σ => Sb_ c lk r σ P
  | o => P o
theorem z_nil (q : P (.nx σ)) : Sb_ c lk .nil σ P := ⟨_, rfl, q⟩
theorem z_cons {s : Sm} {r : Ss} (q : S1 c lk s σ (thenS c lk r P)) : Sb_ c lk (.cons s r) σ P := by
  obtain ⟨o, h, q⟩ := q
  cases o with
  | nx σ1 => obtain ⟨o2, h2, q⟩ := q; exact ⟨o2, by simp only [evSs, h, h2], q⟩
  | bk σ1 => exact ⟨_, by simp only [evSs, h], q⟩
  | ct σ1 => exact ⟨_, by simp only [evSs, h], q⟩
  | rt p σ1 => exact ⟨_, by simp only [evSs, h], q⟩
  | ex x σ1 => exact ⟨_, by simp only [evSs, h], q⟩
theorem for_inv {f : PSt → Option Out} {tg : Tg} {its : List Itm} (W : Nat → PSt → Prop) (h0 : W 0 σ)
    (turn : ∀ i itm σ, its[i]? = some itm → W i σ → ∃ σ1 o, bndT tg itm σ = some σ1 ∧ f σ1 = some o ∧ (match o with
      | .nx σ2 => W (i + 1) σ2
      | .ct σ2 => W (i + 1) σ2
      | .bk σ2 => P (.nx σ2)
      | o => P o)) (done : ∀ σ, W its.length σ → P (.nx σ)) : ∃ o, forX f tg its σ = some o ∧ P o := by
  have key : ∀ (n i : Nat) (σ : PSt), i + n = its.length → W i σ → ∃ o, forX f tg (its.drop i) σ = some o ∧ P o := by
    intro n
    induction n with
    | zero =>
      intro i σ hi hw
      have e : i = its.length := by omega
      subst e
      rw [List.drop_length]
      exact ⟨_, rfl, done σ hw⟩
    | succ n ih =>
      intro i σ hi hw
      have hlt : i < its.length := by omega
      obtain ⟨σ1, o, h1, h2, h3⟩ := turn i its[i] σ (List.getElem?_eq_getElem hlt) hw
      rw [List.drop_eq_getElem_cons hlt, forX, h1]
      dsimp only
      rw [h2]
      cases o with
      | nx σ2 => exact ih (i + 1) σ2 (by omega) h3
      | ct σ2 => exact ih (i + 1) σ2 (by omega) h3
      | bk σ2 => exact ⟨_, rfl, h3⟩
      | rt p σ2 => exact ⟨_, rfl, h3⟩
      | ex x σ2 => exact ⟨_, rfl, h3⟩
  have := key its.length 0 σ (by omega) h0
  rwa [List.drop_zero] at this
def turnO (W : PSt → Prop) (P : Out → Prop) : Out → Prop
  | .nx σ => W σ
  | .ct σ => W σ
  | .bk σ => P (.nx σ)
  | o => P o
theorem for_by {b : Ss} {tg : Tg} {its : List Itm} (W : Nat → PSt → Prop) (h0 : W 0 σ)
    (turn : ∀ i itm σ, its[i]? = some itm → W i σ → ∃ σ1, bndT tg itm σ = some σ1 ∧ Sb_ c lk b σ1 (turnO (W (i + 1)) P)) (done : ∀ σ, W its.length σ → P (.nx σ)) : ∃ o, forX (evSs c lk b) tg its σ = some o ∧ P o := by
  refine for_inv W h0 (fun i itm σ hi hw => ?_) done
  obtain ⟨σ1, h1, o, h2, h3⟩ := turn i itm σ hi hw
  refine ⟨σ1, o, h1, h2, ?_⟩
  cases o <;> exact h3
theorem whl_by {t : Ts} {b : Ss} {n : Nat} (W : Nat → PSt → Prop) (m : Nat) (hm : m < n) (h0 : W m σ)
    (turn : ∀ m σ, W m σ → Xt c t σ fun z σ => if z = true then Sb_ c lk b σ (turnO (fun σ => ∃ m', m' < m ∧ W m' σ) P) else P (.nx σ)) : ∃ o, whlX (evXT c t) (evSs c lk b) n σ = some o ∧ P o := by
  induction n generalizing m σ with
  | zero => cases hm
  | succ n ih =>
    obtain ⟨z, σ1, h1, q⟩ := turn m σ h0
    rw [whlX, h1]
    cases z with
    | false => rw [if_neg (by decide)] at q; exact ⟨_, rfl, q⟩
    | true =>
      rw [if_pos rfl] at q
      obtain ⟨o, h2, q⟩ := q
      dsimp only
      rw [h2]
      cases o with
      | nx σ2 => obtain ⟨m', hm', w⟩ := q; exact ih m' (by omega) w
      | ct σ2 => obtain ⟨m', hm', w⟩ := q; exact ih m' (by omega) w
      | bk σ2 => exact ⟨_, rfl, q⟩
      | rt p σ2 => exact ⟨_, rfl, q⟩
      | ex x σ2 => exact ⟨_, rfl, q⟩
end
end
end VC

namespace VC
open PySem PySem.Spec PyProof.Rows L2

def nv (t : Bool) (ns : List Nat) : PV := LL t (ns.map fun (n : Nat) => .int (n : Int))
def zv (t : Bool) (ns : List Int) : PV := LL t (ns.map .int)
def prv (t : Bool) (ds us : List Nat) : PV := TT_ [nv t ds, nv t us]
theorem tkP_t {fl : List Bool} {p : PV} : tkP (true :: fl) p = p := rfl
theorem tkP_f {fl : List Bool} {p : PV} : tkP (false :: fl) p = sh p := rfl
theorem tkP_n {p : PV} : tkP [] p = sh p := rfl
theorem sq_nv {t : Bool} {ns : List Nat} {P : List PV → Prop} (q : P (ns.map fun (n : Nat) => .int (n : Int))) : Sq (nv t ns) P := sq_LL q
theorem sq_zv {t : Bool} {ns : List Int} {P : List PV → Prop} (q : P (ns.map .int)) : Sq (zv t ns) P := sq_LL q
theorem sq_prv {t : Bool} {ds us : List Nat} {P : List PV → Prop} (q : P [nv t ds, nv t us]) : Sq (prv t ds us) P := sq_TT q
theorem sh_int {i : Int} : sh (.int i) = .int i := rfl
theorem sh_bl {i : Bool} : sh (.bl i) = .bl i := rfl
theorem sh_str {i : Str} : sh (.str i) = .str i := rfl
theorem sh_non : sh .non = .non := rfl
theorem shs_nil : shs [] = [] := rfl
theorem shs_cons {x : PV} {xs : List PV} : shs (x :: xs) = sh x :: shs xs := rfl
theorem sh_LL {t : Bool} {xs : List PV} : sh (LL t xs) = LL false (shs xs) := rfl
theorem sh_TT {xs : List PV} : sh (TT_ xs) = TT_ (shs xs) := rfl
theorem shs_ints (ns : List Int) : shs (ns.map .int) = ns.map .int := by
  rw [shs_eq, List.map_map]; rfl
theorem shs_nats (ns : List Nat) : shs (ns.map fun (n : Nat) => PV.int (n : Int)) = ns.map fun (n : Nat) => PV.int (n : Int) := by
  rw [shs_eq, List.map_map]; rfl
theorem sh_nv {t : Bool} {ns : List Nat} : sh (nv t ns) = nv false ns := by
  show PV.nod .lst false (shs _) = _
  rw [shs_nats]; rfl
theorem sh_zv {t : Bool} {ns : List Int} : sh (zv t ns) = zv false ns := by
  show PV.nod .lst false (shs _) = _
  rw [shs_ints]; rfl
theorem sh_prv {t : Bool} {ds us : List Nat} : sh (prv t ds us) = prv false ds us := by
  show PV.nod .tup false [sh (nv t ds), sh (nv t us)] = _
  rw [sh_nv, sh_nv]; rfl
theorem clns_eq : ∀ xs : List PV, clns xs = xs.all cln
  | [] => rfl
  | x :: xs => by rw [clns, clns_eq xs]; rfl
theorem clns_nats (ns : List Nat) : clns (ns.map fun (n : Nat) => PV.int (n : Int)) = true := by
  rw [clns_eq, List.all_map]; simp [Function.comp_def, cln]
theorem clns_ints (ns : List Int) : clns (ns.map .int) = true := by
  rw [clns_eq, List.all_map]; simp [Function.comp_def, cln]
theorem cln_nv {t : Bool} {ns : List Nat} : cln (nv t ns) = t := by
  show ((t || !true) && clns _) = t
  rw [clns_nats]; simp
theorem cln_zv {t : Bool} {ns : List Int} : cln (zv t ns) = t := by
  show ((t || !true) && clns _) = t
  rw [clns_ints]; simp
theorem cln_prv {t : Bool} {ds us : List Nat} : cln (prv t ds us) = t := by
  show ((false || !false) && (cln (nv t ds) && (cln (nv t us) && true))) = t
  rw [cln_nv, cln_nv]; cases t <;> rfl
theorem cln_TT {xs : List PV} : cln (TT_ xs) = clns xs := by
  show ((false || !false) && clns xs) = _; simp
theorem cln_LL {t : Bool} {xs : List PV} : cln (LL t xs) = (t && clns xs) := by
  show ((t || !true) && clns xs) = _; simp
theorem nv_LL {t : Bool} {ns : List Nat} : nv t ns = LL t (ns.map fun (n : Nat) => .int (n : Int)) := rfl
theorem toD_nats (ns : List Nat) : toDs (ns.map fun (n : Nat) => PV.int (n : Int)) = some (ns.map fun (n : Nat) => .int (n : Int)) := by
  induction ns with
  | nil => rfl
  | cons n ns ih => simp [toDs, toD, ih]
theorem toD_nv {t : Bool} {ns : List Nat} : toD (nv t ns) = some (dN ns) := by
  show toD (PV.nod .lst t _) = _
  simp only [toD, toD_nats]; rfl
theorem toD_LL {t : Bool} {xs : List PV} {ds : List PyData} (h : toDs xs = some ds) : toD (LL t xs) = some (.list ds) := by
  show toD (PV.nod .lst t xs) = _
  simp only [toD, h]
theorem toDs_map {α : Type} {f : α → PV} {g : α → PyData} (h : ∀ a, toD (f a) = some (g a)) : ∀ xs : List α, toDs (xs.map f) = some (xs.map g)
  | [] => rfl
  | x :: xs => by rw [List.map_cons, toDs, h, toDs_map h xs]; rfl
theorem flPs_nats (ns : List Nat) : flPs (ns.map fun (n : Nat) => PV.int (n : Int)) = some (nl ns) := by
  induction ns with
  | nil => rfl
  | cons n ns ih => simp [flPs, flP, ih, nl]
theorem intsP_nats (ns : List Nat) : intsP (ns.map fun (n : Nat) => PV.int (n : Int)) = some (ns.map fun (n : Nat) => (n : Int)) := by
  induction ns with
  | nil => rfl
  | cons n ns ih => simp [intsP, ih]
theorem intsP_ints (ns : List Int) : intsP (ns.map PV.int) = some ns := by
  induction ns with
  | nil => rfl
  | cons n ns ih => simp [intsP, ih]
theorem nv_get {ns : List Nat} {i : Nat} (h : i < ns.length) : (ns.map fun (n : Nat) => PV.int (n : Int))[i]? = some (.int (ns.getD i 0 : Nat)) := by
  simp [h]
theorem nv_at {ns : List Nat} {i : Nat} {x : PV} (h : (ns.map fun (n : Nat) => PV.int (n : Int))[i]? = some x) : i < ns.length ∧ x = .int (ns.getD i 0 : Nat) := by
  have hi : i < ns.length := by
    have := (List.getElem?_eq_some_iff.mp h).1
    simpa using this
  rw [nv_get hi] at h
  exact ⟨hi, (Option.some.inj h).symm⟩

section
variable {P : PV → Prop} {B : Bool → Prop} {i j : Int}
theorem ob_add (q : P (.int (i + j))) : Ob .Add (.int i) (.int j) P := ⟨_, rfl, q⟩
theorem ob_sub (q : P (.int (i - j))) : Ob .Sub (.int i) (.int j) P := ⟨_, rfl, q⟩
theorem okI_of {i : Int} (h : -1267650600228229401496703205376 < i ∧ i < 1267650600228229401496703205376) : okI i = true := decide_eq_true (by omega)
theorem ob_mul (hi : -1267650600228229401496703205376 < i ∧ i < 1267650600228229401496703205376) (hj : -1267650600228229401496703205376 < j ∧ j < 1267650600228229401496703205376) (q : P (.int (i * j))) : Ob .Mult (.int i) (.int j) P :=
  ⟨_, by simp only [opB, okI_of hi, okI_of hj]; rfl, q⟩
theorem ob_fdiv (hj : 0 < j ∧ j < 1267650600228229401496703205376) (q : P (.int (i / j))) : Ob .FloorDiv (.int i) (.int j) P :=
  ⟨_, by simp only [opB, okI_of (show _ ∧ _ from ⟨by omega, hj.2⟩), decide_eq_true hj.1]; rfl, q⟩
theorem ob_mod (hj : 0 < j) (q : P (.int (i % j))) : Ob .Mod (.int i) (.int j) P :=
  ⟨_, by simp only [opB, decide_eq_true hj]; rfl, q⟩
theorem ob_pow (hc : 0 ≤ j ∧ (Builtin.Int.intBits i : Int) * j ≤ 2 ^ 27) (q : P (.int (i ^ j.toNat))) : Ob .Pow (.int i) (.int j) P :=
  ⟨_, by simp only [opB]; rw [if_pos (decide_eq_true hc)], q⟩
theorem ob_catN {t u : Bool} {a b : List Nat} (h : a.length + b.length ≤ 100000) (q : P (nv true (a ++ b))) : Ob .Add (nv t a) (nv u b) P := by
  refine ⟨_, ?_, q⟩
  show (if fitB _ = true then _ else _) = _
  rw [if_pos (show fitB _ = true from decide_eq_true (by simpa using h))]
  simp [nv]
theorem ob_cat {t u : Bool} {a b : List PV} (h : a.length + b.length ≤ 100000) (q : P (LL true (a ++ b))) : Ob .Add (LL t a) (LL u b) P := by
  refine ⟨_, ?_, q⟩
  show (if fitB _ = true then _ else _) = _
  rw [if_pos (show fitB _ = true from decide_eq_true h)]
theorem ob_rep {t : Bool} {xs : List PV} {k : Int} (h : 0 ≤ k ∧ k ≤ 1000) (hx : xs.length ≤ 100) (q : P (LL true (List.replicate k.toNat (shs xs)).flatten)) : Ob .Mult (LL t xs) (.int k) P := by
  refine ⟨_, ?_, q⟩
  show (if (decide (0 ≤ k ∧ k ≤ 1000) && decide (xs.length ≤ 100)) = true then _ else _) = _
  rw [decide_eq_true h, decide_eq_true hx]; rfl
theorem rep1 {x : PV} (hx : sh x = x) (n : Nat) : (List.replicate n (shs [x])).flatten = List.replicate n x := by
  rw [shs_cons, shs_nil, hx]
  induction n with
  | zero => rfl
  | succ n ih => simp only [List.replicate_succ, List.flatten_cons, ih]; rfl
theorem ob_repN {t : Bool} {m : Nat} {k : Int} (h : 0 ≤ k ∧ k ≤ 1000) (q : P (nv true (List.replicate k.toNat m))) : Ob .Mult (LL t [.int (m : Int)]) (.int k) P := by
  refine ob_rep h (by simp) ?_
  rw [rep1 rfl]
  simpa [nv] using q
theorem oc_lt (q : B (decide (i < j))) : Oc .Lt (.int i) (.int j) B := ⟨_, rfl, q⟩
theorem oc_le (q : B (decide (i ≤ j))) : Oc .LtE (.int i) (.int j) B := ⟨_, rfl, q⟩
theorem oc_gt (q : B (decide (j < i))) : Oc .Gt (.int i) (.int j) B := ⟨_, rfl, q⟩
theorem oc_ge (q : B (decide (j ≤ i))) : Oc .GtE (.int i) (.int j) B := ⟨_, rfl, q⟩
theorem oc_eqI (q : B (decide (i = j))) : Oc .Eq (.int i) (.int j) B := ⟨_, rfl, q⟩
theorem oc_neI (q : B (!decide (i = j))) : Oc .NotEq (.int i) (.int j) B := ⟨_, rfl, q⟩
theorem oc_eqB {a b : Bool} (q : B (decide (a = b))) : Oc .Eq (.bl a) (.bl b) B := ⟨_, rfl, q⟩
theorem oc_neB {a b : Bool} (q : B (!decide (a = b))) : Oc .NotEq (.bl a) (.bl b) B := ⟨_, rfl, q⟩
theorem oc_eqS {s t : Str} (q : B (decide (s = t))) : Oc .Eq (.str s) (.str t) B := ⟨_, rfl, q⟩
theorem oc_neS {s t : Str} (q : B (!decide (s = t))) : Oc .NotEq (.str s) (.str t) B := ⟨_, rfl, q⟩
theorem eqP_D {x y : PV} {d e : PyData} {n m w u : Nat} (h1 : toD x = some d) (h2 : toD y = some e) (o : DOk d n w) (p : DOk e m u) (hn : n ≤ 60) (hm : m ≤ 60) : eqP x y = some (PyData.eqv d e) := by
  have main : (match toD x, toD y with
    | some d, some e => if SeqAt.shaped d && SeqAt.shaped e then some (PyData.eqv d e) else none
    | _, _ => none) = some (PyData.eqv d e) := by
    rw [h1, h2]
    dsimp only
    rw [o.shaped hn, p.shaped hm]; rfl
  unfold eqP
  split
  · cases h1; cases h2; rw [PyData.eqv]; rfl
  · cases h1; cases h2; rw [PyData.eqv]; rename_i i j; cases i <;> cases j <;> rfl
  · cases h1; cases h2; rw [PyData.eqv]; rfl
  · exact main
theorem oc_eqD {x y : PV} {d e : PyData} {n m w u : Nat} (h1 : toD x = some d) (h2 : toD y = some e) (o : DOk d n w) (p : DOk e m u) (hn : n ≤ 60) (hm : m ≤ 60) (q : B (PyData.eqv d e)) : Oc .Eq x y B := ⟨_, eqP_D h1 h2 o p hn hm, q⟩
theorem oc_neD {x y : PV} {d e : PyData} {n m w u : Nat} (h1 : toD x = some d) (h2 : toD y = some e) (o : DOk d n w) (p : DOk e m u) (hn : n ≤ 60) (hm : m ≤ 60) (q : B (!PyData.eqv d e)) : Oc .NotEq x y B :=
  ⟨_, by show (eqP x y).map (!·) = _; rw [eqP_D h1 h2 o p hn hm]; rfl, q⟩
theorem oc_notN {x : PV} {b : Bool} (h : (match x with
    | .non => false
    | _ => true) = b) (q : B b) : Oc .IsNot x .non B := by
  subst h
  refine ⟨_, ?_, q⟩
  cases x <;> rfl
theorem inV_nN {n : Nat} {ns : List Nat} : inV (.int (n : Int)) (nl ns) = decide (n ∈ ns) := by
  unfold inV nl
  rw [List.any_map]
  induction ns with
  | nil => simp
  | cons m ns ih =>
    rw [List.any_cons, ih]
    have : ((fun y => eqV y (.int (n : Int))) ∘ fun (n : Nat) => V.int (n : Int)) m = decide (n = m) := by
      show ((m : Int) == (n : Int)) = _
      by_cases h : n = m
      · subst h; simp
      · have h2 : ¬ ((m : Int) = (n : Int)) := fun z => h (by omega)
        rw [decide_eq_false h]
        exact beq_eq_false_iff_ne.mpr h2
    rw [this]
    by_cases h1 : n = m <;> by_cases h2 : n ∈ ns <;> simp [h1, h2]
theorem oc_inN {t : Bool} {n : Nat} {ns : List Nat} (q : B (decide (n ∈ ns))) : Oc .In (.int (n : Int)) (nv t ns) B := by
  refine ⟨_, ?_, q⟩
  show inP _ (PV.nod .lst t _) = _
  simp only [inP, flP, flPs_nats, inV_nN]
theorem oc_ninN {t : Bool} {n : Nat} {ns : List Nat} (q : B (!decide (n ∈ ns))) : Oc .NotIn (.int (n : Int)) (nv t ns) B := by
  refine ⟨_, ?_, q⟩
  show (inP _ (PV.nod .lst t _)).map (!·) = _
  simp only [inP, flP, flPs_nats, inV_nN]; rfl
theorem oi_nv {t : Bool} {ns : List Nat} (h0 : 0 ≤ j) (h1 : j < ns.length) (q : P (.int (ns.getD j.toNat 0 : Nat))) : Oi (nv t ns) (.int j) P := by
  refine ⟨_, ?_, q⟩
  show atI (ns.map fun (n : Nat) => PV.int (n : Int)) j = _
  have e : (j.toNat : Int) = j := by omega
  rw [← e]
  exact atI_nat (nv_get (by omega))
theorem oi_zv {t : Bool} {ns : List Int} (h0 : 0 ≤ j) (h1 : j < ns.length) (q : P (.int (ns.getD j.toNat 0))) : Oi (zv t ns) (.int j) P := by
  refine ⟨_, ?_, q⟩
  show atI (ns.map PV.int) j = _
  have e : (j.toNat : Int) = j := by omega
  have hj : j.toNat < ns.length := by omega
  have z : atI (ns.map PV.int) ((j.toNat : Nat) : Int) = some (PV.int (ns.getD j.toNat 0)) := atI_nat (by
    rw [List.getElem?_map, List.getElem?_eq_getElem hj, List.getD_eq_getElem?_getD]
    simp [hj])
  rwa [e] at z
theorem oi_pr0 {t : Bool} {ds us : List Nat} (q : P (nv t ds)) : Oi (prv t ds us) (.int 0) P := ⟨_, rfl, q⟩
theorem oi_pr1 {t : Bool} {ds us : List Nat} (q : P (nv t us)) : Oi (prv t ds us) (.int 1) P := ⟨_, rfl, q⟩
theorem oi_L {t : Bool} {xs : List PV} {z : PV} (h : atI xs j = some z) (q : P z) : Oi (LL t xs) (.int j) P := ⟨_, h, q⟩
theorem ol_nv {t : Bool} {ns : List Nat} {lo hi : Option Int} (q : P (nv true (cutP ns lo hi))) : Ol (nv t ns) lo hi P := by
  refine ⟨_, ?_, q⟩
  show some (LL true (cutP (ns.map fun (n : Nat) => PV.int (n : Int)) lo hi)) = _
  congr 1
  unfold nv cutP
  simp [List.map_drop, List.map_take]
theorem of_lenN {t : Bool} {ns : List Nat} (q : P (.int ns.length)) : Of "len" [nv t ns] P := ⟨_, by show some (PV.int _) = _; rw [List.length_map], q⟩
theorem of_lenZ {t : Bool} {ns : List Int} (q : P (.int ns.length)) : Of "len" [zv t ns] P := ⟨_, by show some (PV.int _) = _; rw [List.length_map], q⟩
theorem of_lenP {t : Bool} {ds us : List Nat} (q : P (.int 2)) : Of "len" [prv t ds us] P := ⟨_, rfl, q⟩
theorem of_len {t : Bool} {xs : List PV} (q : P (.int xs.length)) : Of "len" [LL t xs] P := ⟨_, rfl, q⟩
theorem of_lenT {xs : List PV} (q : P (.int xs.length)) : Of "len" [TT_ xs] P := ⟨_, rfl, q⟩
theorem of_int (q : P (.int i)) : Of "int" [.int i] P := ⟨_, rfl, q⟩
theorem of_intB {b : Bool} (q : P (.int (if b then 1 else 0))) : Of "int" [.bl b] P := ⟨_, rfl, q⟩
theorem of_listN {t : Bool} {ns : List Nat} (q : P (nv true ns)) : Of "list" [nv t ns] P := ⟨_, rfl, q⟩
theorem of_listZ {t : Bool} {ns : List Int} (q : P (zv true ns)) : Of "list" [zv t ns] P := ⟨_, rfl, q⟩
theorem of_sumZ {t : Bool} {ns : List Int} (q : P (.int ns.sum)) : Of "sum" [zv t ns] P := ⟨_, by show (intsP (ns.map PV.int)).map _ = _; rw [intsP_ints]; rfl, q⟩
theorem of_repr {x : PV} {d : PyData} {n w : Nat} (h : toD x = some d) (hx : ∃ kk t ys, x = .nod kk t ys) (o : DOk d n w) (hn : n ≤ 60) (hw : w ≤ 200000) (q : P (.str d.shown)) : Of "repr" [x] P := by
  obtain ⟨kk, t, ys, rfl⟩ := hx
  obtain ⟨h1, h2, h3, _⟩ := o.repr hn (by omega)
  refine ⟨_, ?_, q⟩
  have a := okD_all d o.ok
  have h4 : d.shown.length ≤ 16000000 := by
    have h5 := PyData.shown_le 41 (by decide) d (PyData.leavesShort_of_canLay0 41 d a.2.1 a.2.2)
    have := o.wt
    omega
  have e : bltP "repr" [PV.nod kk t ys] = match toD (PV.nod kk t ys) with
      | some d => if d.showable && !d.hasDict && decide (d.depth ≤ 60) && fitW d.shown.length then some (.str d.shown) else none
      | none => none := rfl
  rw [e, h]
  dsimp only
  rw [h1, h2, decide_eq_true h3, show fitW d.shown.length = true from decide_eq_true h4]
  rfl
end
section
variable {c : PCn} {σ σ1 : PSt} {e : Ex} {tg : Tg} {cs : Cd} {i : Itm} {p : PV}
theorem cm_of (hb : bndT tg i σ = some σ1) (hc : Ec c cs σ1 fun b => b = true) (he : Ep c e σ1 fun x => x = p) : cmF c e tg cs σ i = some (some p) := by
  obtain ⟨b, h1, rfl⟩ := hc
  obtain ⟨x, h2, rfl⟩ := he
  unfold cmF
  rw [hb]; dsimp only; rw [h1]; dsimp only; rw [h2]
theorem cm_if {b : Bool} (hb : bndT tg i σ = some σ1) (hc : Ec c cs σ1 fun x => x = b) (he : b = true → Ep c e σ1 fun x => x = p) : cmF c e tg cs σ i = some (if b then some p else none) := by
  obtain ⟨b', h1, rfl⟩ := hc
  unfold cmF
  rw [hb]; dsimp only; rw [h1]
  cases b' with
  | true =>
    obtain ⟨x, h2, rfl⟩ := he rfl
    dsimp only
    rw [h2]; rfl
  | false => rfl
end
theorem rngP1 {j : Int} (h : 0 ≤ j ∧ j ≤ 1000000) : rngP [.int j] = some ((List.range j.toNat).map fun (i : Nat) => .int (i : Int)) := by
  show (if decide _ = true then some _ else none) = _
  rw [if_pos (decide_eq_true (by omega))]
  congr 1
  refine List.map_congr_left fun i _ => ?_
  congr 1
  omega
theorem rngP2 {i j : Int} (h : -1000000 ≤ i ∧ i ≤ 1000000 ∧ -1000000 ≤ j ∧ j ≤ 1000000) : rngP [.int i, .int j] = some ((List.range (j - i).toNat).map fun (n : Nat) => .int (i + (n : Int))) := by
  show (if decide _ = true then some _ else none) = _
  rw [if_pos (decide_eq_true (by omega))]
  congr 1
  refine List.map_congr_left fun n _ => ?_
  congr 1
  omega
section
variable {T : Tab} {io : Str → List Bool} {fu k : Nat} {c : PCn} {lk : List Nat} {σ : PSt} {p p' x y : PV} {P : PV → Prop} {PX : PV → PSt → Prop} {PO : Out → Prop}
theorem v_varS {n : Nat} (h : σ[n]? = some (some p)) (e : sh p = p') (q : P p') : Ep c (.var n) σ P := v_var h (by rw [e]; exact q)
theorem v_glbI {z : Str} {v : V} [h : HasC T z v] (e : vP v = some p) (q : P p) : Ep (pcn T io fu k) (.glb z) σ P := v_glb h e q
theorem cl_ofI {f : Str} {F : Fn} {fl : List Bool} [h : HasF T io f F fl] {ps : List PV} {R : PV → List (Option PV) → Prop} (hl : ps.length = F.ps.length)
    (hr : Sb_ (pcn T io fu k) (lkOf 0 fl) F.body (ps.map some ++ List.replicate (F.N.length - ps.length) none) (rtO fl R)) : Cl T io fu (k + 1) f ps R := cl_of h hl hr
def ClS (T : Tab) (io : Str → List Bool) (fu k : Nat) (f : Str) (xs : List PV) (P : PV → Prop) : Prop := Cl T io fu k f (shs xs) fun p _ => P p
theorem cl_sh {f : Str} {xs ys : List PV} (e : shs xs = ys) (q : Cl T io fu k f ys fun p _ => P p) : ClS T io fu k f xs P := by subst e; exact q
theorem v_callI {f : Str} {es : Exs} {F : Fn} [h : HasF T io f F []] (q : Eps (pcn T io fu k) es σ fun xs => ClS T io fu k f xs P) : Ep (pcn T io fu k) (.call f es [] .nil) σ P := v_call h q
theorem v_callKI {f : Str} {es kes : Exs} {ks : List Str} {F : Fn} [h : HasF T io f F []] (q : Eps (pcn T io fu k) es σ fun xs => Eps (pcn T io fu k) kes σ fun zs => zs.length = ks.length ∧ ClS T io fu k f (arrange F.ps ks PV.non xs zs) P) : Ep (pcn T io fu k) (.call f es ks kes) σ P := v_callK h q
theorem x_intc {n : Int} (q : PX (.int n) σ) : Xe c (.con (.int n)) σ PX := x_con rfl rfl q
theorem x_boolc {n : Bool} (q : PX (.bl n) σ) : Xe c (.con (.bool n)) σ PX := x_con rfl rfl q
theorem x_nonec (q : PX .non σ) : Xe c (.con .none) σ PX := x_con rfl rfl q
theorem x_strc {n : Str} (q : PX (.str n) σ) : Xe c (.con (.str n)) σ PX := x_con rfl rfl q
theorem th_nx {r : Ss} (q : Sb_ c lk r σ PO) : thenS c lk r PO (.nx σ) := q
theorem th_rt {r : Ss} (q : PO (.rt p σ)) : thenS c lk r PO (.rt p σ) := q
theorem rt_rt {fl : List Bool} {R : PV → List (Option PV) → Prop} (q : R p (finP fl σ)) : rtO fl R (.rt p σ) := q
theorem rt_nx {fl : List Bool} {R : PV → List (Option PV) → Prop} (q : R .non (finP fl σ)) : rtO fl R (.nx σ) := q
theorem tu_nx {W : PSt → Prop} (q : W σ) : turnO W PO (.nx σ) := q
theorem tu_rt {W : PSt → Prop} (q : PO (.rt p σ)) : turnO W PO (.rt p σ) := q
theorem y_setV {o i e : Ex} {v : Nat} (ho : plc o = some (v, [])) (q : Xe c e σ fun x σ => ∃ j, evJ c i σ = some j ∧ ∃ xs m, σ[v]? = some (some (LL true xs)) ∧ ixN xs.length j = some m ∧ PO (.nx (σ.set v (some (LL true (xs.set m x)))))) : S1 c lk (.setI o i e) σ PO := by
  obtain ⟨x, σ1, h1, j, h2, xs, m, h3, h4, q⟩ := q
  exact y_set ho ⟨x, σ1, h1, j, _, _, h2, h3, by simp only [upP, stL, h4, Option.map_some], q⟩
theorem y_setN {o i e : Ex} {v : Nat} (ho : plc o = some (v, [])) (q : Xe c e σ fun x σ => ∃ j, evJ c i σ = some j ∧ ∃ (ns : List Nat) (n m : Nat), σ[v]? = some (some (nv true ns)) ∧ j = (n : Int) ∧ n < ns.length ∧ x = .int (m : Int) ∧ PO (.nx (σ.set v (some (nv true (ns.set n m)))))) : S1 c lk (.setI o i e) σ PO := by
  obtain ⟨x, σ1, h1, j, h2, ns, n, m, h3, rfl, h4, rfl, q⟩ := q
  refine y_setV ho ⟨_, σ1, h1, _, h2, _, n, h3, ?_, ?_⟩
  · rw [ixN_of (by omega) (by simp; omega)]; rfl
  · have e : (ns.map fun (n : Nat) => PV.int (n : Int)).set n (.int (m : Int)) = (ns.set n m).map fun (n : Nat) => PV.int (n : Int) := by rw [List.map_set]
    rw [e]; exact q
theorem x_callIO {f : Str} {es : Exs} {F : Fn} {fl : List Bool} [h : HasF T io f F fl] (q : Xa (pcn T io fu k) es fl σ fun as σ => ∃ ps σ1, ioTake fl as σ = some (ps, σ1) ∧ Cl T io fu k f ps fun p fin => PX p (ioPut as fin σ1)) : Xe (pcn T io fu k) (.call f es [] .nil) σ PX := x_call h q
theorem x_appN {o e : Ex} {i : Nat} {ns : List Nat} {m : Nat} (ho : plc o = some (i, [])) (h0 : σ[i]? = some (some (nv true ns))) (hl : ns.length < 100000) (q : Xe c e σ fun x σ => x = .int (m : Int) ∧ σ[i]? = some (some (nv true ns)) ∧ PX .non (σ.set i (some (nv true (ns ++ [m]))))) : Xe c (.mth "append" o (.cons e .nil)) σ PX := by
  obtain ⟨x, σ1, h1, rfl, h2, q⟩ := q
  refine x_append ho h0 rfl ⟨_, σ1, h1, _, h2, by simpa using hl, ?_⟩
  have e : LL true (ns.map (fun (n : Nat) => PV.int (n : Int)) ++ [PV.int (m : Int)]) = nv true (ns ++ [m]) := by simp [nv]
  rw [e]; exact q
end
def dv (t : Bool) (a b : Int) (c : Bool) : PV := LL t [.int a, .int b, .bl c]
theorem sh_dv {t : Bool} {a b : Int} {c : Bool} : sh (dv t a b c) = dv false a b c := rfl
theorem oi_dv0 {t : Bool} {a b : Int} {c : Bool} {P : PV → Prop} (q : P (.int a)) : Oi (dv t a b c) (.int 0) P := ⟨_, rfl, q⟩
theorem oi_dv1 {t : Bool} {a b : Int} {c : Bool} {P : PV → Prop} (q : P (.int b)) : Oi (dv t a b c) (.int 1) P := ⟨_, rfl, q⟩
theorem oi_dv2 {t : Bool} {a b : Int} {c : Bool} {P : PV → Prop} (q : P (.bl c)) : Oi (dv t a b c) (.int 2) P := ⟨_, rfl, q⟩
theorem at_enm {ns : List Nat} {i : Nat} {itm : Itm} (h : (enmP 0 (ns.map fun (n : Nat) => PV.int (n : Int)))[i]? = some itm) : i < ns.length ∧ itm = .two (.int (i : Nat)) (.int (ns.getD i 0 : Nat)) := by
  rw [enmP_get] at h
  cases e : (ns.map fun (n : Nat) => PV.int (n : Int))[i]? with
  | none => rw [e] at h; cases h
  | some x =>
    obtain ⟨hi, rfl⟩ := nv_at e
    rw [e] at h
    simp only [Option.map_some, Option.some.injEq, Nat.zero_add] at h
    exact ⟨hi, h.symm⟩
theorem at_map {α : Type} {f : α → PV} {xs : List α} {i : Nat} {itm : Itm} (h : ((xs.map f).map Itm.one)[i]? = some itm) : ∃ x, xs[i]? = some x ∧ itm = .one (f x) := by
  rw [List.getElem?_map, List.getElem?_map] at h
  cases e : xs[i]? with
  | none => rw [e] at h; cases h
  | some x => rw [e] at h; exact ⟨x, rfl, (Option.some.inj h).symm⟩
theorem at_rng {n : Nat} {f : Nat → PV} {i : Nat} {itm : Itm} (h : (((List.range n).map f).map Itm.one)[i]? = some itm) : i < n ∧ itm = .one (f i) := by
  obtain ⟨x, h1, h2⟩ := at_map h
  obtain ⟨hl, e⟩ := List.getElem?_eq_some_iff.mp h1
  rw [List.getElem_range] at e
  subst e
  exact ⟨by simpa using hl, h2⟩
theorem len_enm {xs : List PV} : (enmP 0 xs).length = xs.length := enmP_len xs 0
theorem len_rng {n : Nat} {f : Nat → PV} : (((List.range n).map f).map Itm.one).length = n := by simp
end VC

namespace VC
open PySem PySem.Spec PyProof.Rows L2
def DnOk (ds : List Nat) : Prop := ∀ i, i < ds.length → ds.getD i 0 ≤ i
def UpOk (us : List Nat) : Prop := ∀ i, i < us.length → i + 2 ≤ us.getD i 0 ∧ us.getD i 0 ≤ us.length + 1
def walkD (ds : List Nat) : Nat → Nat → List Nat
  | 0, _ => []
  | f + 1, p => if p = 0 then [] else p :: walkD ds f (ds.getD (p - 1) 0)
def walkU (us : List Nat) : Nat → Nat → List Nat
  | 0, _ => []
  | f + 1, p => if p ≤ us.length then p :: walkU us f (us.getD (p - 1) 0) else []
def wD (ds : List Nat) (p : Nat) : List Nat := walkD ds (p + 1) p
def wU (us : List Nat) (p : Nat) : List Nat := walkU us (us.length + 2 - p) p
theorem walkD_fuel {ds : List Nat} (ok : DnOk ds) : ∀ (f g p : Nat), p < f → p < g → p ≤ ds.length → walkD ds f p = walkD ds g p
  | 0, _, _, h, _, _ => by omega
  | _ + 1, 0, _, _, h, _ => by omega
  | f + 1, g + 1, p, h1, h2, hp => by
    unfold walkD
    by_cases h0 : p = 0
    · rw [if_pos h0, if_pos h0]
    · have := ok (p - 1) (by omega)
      rw [if_neg h0, if_neg h0, walkD_fuel ok f g _ (by omega) (by omega) (by omega)]
theorem wD_zero (ds : List Nat) : wD ds 0 = [] := by simp [wD, walkD]
theorem wD_pos {ds : List Nat} (ok : DnOk ds) {p : Nat} (h0 : 0 < p) (hp : p ≤ ds.length) : wD ds p = p :: wD ds (ds.getD (p - 1) 0) := by
  have := ok (p - 1) (by omega)
  show walkD ds (p + 1) p = _
  rw [walkD, if_neg (by omega), wD, walkD_fuel ok p (ds.getD (p - 1) 0 + 1) _ (by omega) (by omega) (by omega)]
theorem walkU_fuel {us : List Nat} (ok : UpOk us) : ∀ (f g p : Nat), us.length + 1 < p + f → us.length + 1 < p + g → 0 < p → walkU us f p = walkU us g p
  | 0, 0, _, h, _, _ => rfl
  | 0, g + 1, p, h, _, _ => by
    unfold walkU
    rw [if_neg (by omega)]
  | f + 1, 0, p, _, h, _ => by
    unfold walkU
    rw [if_neg (by omega)]
  | f + 1, g + 1, p, h1, h2, hp => by
    unfold walkU
    by_cases h0 : p ≤ us.length
    · have := ok (p - 1) (by omega)
      rw [if_pos h0, if_pos h0, walkU_fuel ok f g _ (by omega) (by omega) (by omega)]
    · rw [if_neg h0, if_neg h0]
theorem wU_out {us : List Nat} {p : Nat} (h : us.length < p) : wU us p = [] := by
  unfold wU
  cases us.length + 2 - p with
  | zero => rfl
  | succ n => unfold walkU; rw [if_neg (by omega)]
theorem wU_in {us : List Nat} (ok : UpOk us) {p : Nat} (h0 : 0 < p) (hp : p ≤ us.length) : wU us p = p :: wU us (us.getD (p - 1) 0) := by
  have := ok (p - 1) (by omega)
  have e : us.length + 2 - p = (us.length + 1 - p) + 1 := by omega
  show walkU us (us.length + 2 - p) p = _
  rw [e, walkU, if_pos hp, wU, walkU_fuel ok (us.length + 1 - p) (us.length + 2 - us.getD (p - 1) 0) _ (by omega) (by omega) (by omega)]
theorem wD_len {ds : List Nat} (ok : DnOk ds) : ∀ (n p : Nat), p ≤ n → p ≤ ds.length → (wD ds p).length ≤ p
  | 0, p, h, _ => by
    have : p = 0 := by omega
    subst this
    rw [wD_zero]; exact Nat.zero_le _
  | n + 1, p, h, hp => by
    by_cases h0 : p = 0
    · subst h0; rw [wD_zero]; exact Nat.zero_le _
    · have := ok (p - 1) (by omega)
      rw [wD_pos ok (by omega) hp, List.length_cons]
      have := wD_len ok n (ds.getD (p - 1) 0) (by omega) (by omega)
      omega
theorem wU_len {us : List Nat} (ok : UpOk us) : ∀ (n p : Nat), us.length < p + n → 0 < p → (wU us p).length + p ≤ us.length + 1 ∨ us.length < p
  | 0, p, h, _ => .inr (by omega)
  | n + 1, p, h, h0 => by
    by_cases hp : p ≤ us.length
    · have hk := ok (p - 1) (by omega)
      rw [wU_in ok h0 hp, List.length_cons]
      rcases wU_len ok n (us.getD (p - 1) 0) (by omega) (by omega) with e | e
      · left; omega
      · left; rw [wU_out e]; simp; omega
    · exact .inr (by omega)
theorem wU_small {us : List Nat} (ok : UpOk us) {p : Nat} (h0 : 0 < p) : (wU us p).length ≤ us.length := by
  rcases wU_len ok us.length p (by omega) h0 with e | e
  · omega
  · rw [wU_out e]; exact Nat.zero_le _
theorem getD_snoc (l : List Nat) (x i : Nat) : (l ++ [x]).getD i 0 = if i < l.length then l.getD i 0 else if i = l.length then x else 0 := by
  rw [List.getD_eq_getElem?_getD, List.getElem?_append]
  by_cases h : i < l.length
  · rw [if_pos h, if_pos h, List.getD_eq_getElem?_getD]
  · rw [if_neg h, if_neg h]
    by_cases e : i = l.length
    · subst e; simp
    · rw [if_neg e]
      have : i - l.length ≠ 0 := by omega
      obtain ⟨m, hm⟩ := Nat.exists_eq_succ_of_ne_zero this
      rw [hm]; simp
theorem getD_set (l : List Nat) (k x i : Nat) (hk : k < l.length) : (l.set k x).getD i 0 = if i = k then x else l.getD i 0 := by
  rw [List.getD_eq_getElem?_getD, List.getElem?_set]
  by_cases h : i = k
  · subst h; simp [hk]
  · rw [if_neg h, if_neg (fun e => h e.symm), List.getD_eq_getElem?_getD]
def UpTo (m : Nat) (us : List Nat) : Prop := ∀ i, i < us.length → i + 2 ≤ us.getD i 0 ∧ us.getD i 0 ≤ m + 1
theorem DnOk.snoc {ds : List Nat} {x : Nat} (h : DnOk ds) (hx : x ≤ ds.length) : DnOk (ds ++ [x]) := by
  intro i hi
  rw [getD_snoc]
  rw [List.length_append, List.length_singleton] at hi
  by_cases e : i < ds.length
  · rw [if_pos e]; exact h i e
  · rw [if_neg e, if_pos (by omega)]; omega
theorem UpTo.snoc {m : Nat} {us : List Nat} {x : Nat} (h : UpTo m us) (hx : us.length + 2 ≤ x ∧ x ≤ m + 1) : UpTo m (us ++ [x]) := by
  intro i hi
  rw [getD_snoc]
  rw [List.length_append, List.length_singleton] at hi
  by_cases e : i < us.length
  · rw [if_pos e]; exact h i e
  · rw [if_neg e, if_pos (by omega)]; omega
theorem DnOk.set {ds : List Nat} {k x : Nat} (h : DnOk ds) (hk : k < ds.length) (hx : x ≤ k) : DnOk (ds.set k x) := by
  intro i hi
  rw [getD_set _ _ _ _ hk]
  rw [List.length_set] at hi
  by_cases e : i = k
  · rw [if_pos e]; omega
  · rw [if_neg e]; exact h i hi
theorem UpOk.set {us : List Nat} {k x : Nat} (h : UpOk us) (hk : k < us.length) (hx : k + 2 ≤ x ∧ x ≤ us.length + 1) : UpOk (us.set k x) := by
  intro i hi
  rw [getD_set _ _ _ _ hk, List.length_set]
  rw [List.length_set] at hi
  by_cases e : i = k
  · rw [if_pos e]; omega
  · rw [if_neg e]; exact h i hi
structure PrOk (m : Nat) (ds us : List Nat) : Prop where
  pos : 1 ≤ ds.length
  top : ds.length ≤ m
  len : us.length = ds.length
  dn : DnOk ds
  up : UpOk us
end VC

namespace VC
open PySem PySem.Spec PyProof.Rows L2

inductive Tr (ds us : List Nat) : Nat → Nat → Prop
  | nil {l h : Nat} : h < l → Tr ds us l h
  | node {l h r : Nat} : l ≤ r → r ≤ h → ds.getD (r - 1) 0 = l - 1 → us.getD (r - 1) 0 = h + 1 → Tr ds us l (r - 1) → Tr ds us (r + 1) h → Tr ds us l h
theorem Tr.at_ {ds us : List Nat} {l h : Nat} (t : Tr ds us l h) : ∀ k, 1 ≤ l → l ≤ k → k ≤ h → ∃ l' h', l ≤ l' ∧ l' ≤ k ∧ k ≤ h' ∧ h' ≤ h ∧ ds.getD (k - 1) 0 = l' - 1 ∧ us.getD (k - 1) 0 = h' + 1 := by
  induction t with
  | nil h => intro k h1 h2 h3; omega
  | @node l h r h1 h2 h3 h4 _ _ ih1 ih2 =>
    intro k g1 g2 g3
    by_cases e : k = r
    · subst e; exact ⟨l, h, Nat.le_refl _, g2, g3, Nat.le_refl _, h3, h4⟩
    · by_cases e2 : k < r
      · obtain ⟨l', h', a1, a2, a3, a4, a5, a6⟩ := ih1 k g1 g2 (by omega)
        exact ⟨l', h', a1, a2, a3, by omega, a5, a6⟩
      · obtain ⟨l', h', a1, a2, a3, a4, a5, a6⟩ := ih2 k (by omega) (by omega) g3
        exact ⟨l', h', by omega, a2, a3, a4, a5, a6⟩
structure TrOk (m : Nat) (ds us : List Nat) : Prop where
  pos : 1 ≤ ds.length
  top : ds.length ≤ m
  len : us.length = ds.length
  tr : Tr ds us 1 ds.length
theorem TrOk.pr {m : Nat} {ds us : List Nat} (h : TrOk m ds us) : PrOk m ds us := by
  refine ⟨h.pos, h.top, h.len, fun i hi => ?_, fun i hi => ?_⟩
  · obtain ⟨l', h', a1, a2, a3, a4, a5, a6⟩ := h.tr.at_ (i + 1) (Nat.le_refl _) (by omega) (by omega)
    rw [Nat.add_sub_cancel] at a5
    omega
  · have hl := h.len
    obtain ⟨l', h', a1, a2, a3, a4, a5, a6⟩ := h.tr.at_ (i + 1) (Nat.le_refl _) (by omega) (by omega)
    rw [Nat.add_sub_cancel] at a6
    omega
def totS (st : List (Nat × Nat)) : Nat := (st.map fun t => t.2 + 1 - t.1).sum
theorem totS_app (a b : List (Nat × Nat)) : totS (a ++ b) = totS a + totS b := by simp [totS]
theorem totS_len : ∀ st : List (Nat × Nat), (∀ t, t ∈ st → t.1 ≤ t.2) → st.length ≤ totS st
  | [], _ => Nat.zero_le _
  | t :: st, h => by
    have h1 := totS_len st fun x hx => h x (by simp [hx])
    have h2 := h t (by simp)
    have h3 : totS (t :: st) = (t.2 + 1 - t.1) + totS st := by simp [totS]
    rw [h3, List.length_cons]; omega
def Inn (t : Nat × Nat) (k : Nat) : Prop := t.1 ≤ k ∧ k ≤ t.2
structure TrW (l : Nat) (st : List (Nat × Nat)) (ds us : List Nat) : Prop where
  ld : ds.length = l
  lu : us.length = l
  ok : ∀ t, t ∈ st → 1 ≤ t.1 ∧ t.1 ≤ t.2 ∧ t.2 ≤ l
  dj : st.Pairwise fun a b => a.2 < b.1 ∨ b.2 < a.1
  tot : totS st ≤ l
  go : ∀ ds' us' : List Nat, (∀ i, (∀ t, t ∈ st → ¬ Inn t (i + 1)) → ds'.getD i 0 = ds.getD i 0 ∧ us'.getD i 0 = us.getD i 0) → (∀ t, t ∈ st → Tr ds' us' t.1 t.2) → Tr ds' us' 1 l
theorem TrW.start {l : Nat} (hl : 1 ≤ l) {ds us : List Nat} (h1 : ds.length = l) (h2 : us.length = l) : TrW l [(1, l)] ds us := by
  refine ⟨h1, h2, ?_, by simp, by simp [totS], fun ds' us' _ h => h (1, l) (by simp)⟩
  intro t ht
  rw [List.mem_singleton.mp ht]
  exact ⟨Nat.le_refl _, hl, Nat.le_refl _⟩
theorem TrW.done {l : Nat} {ds us : List Nat} (h : TrW l [] ds us) : Tr ds us 1 l := h.go ds us (fun _ _ => ⟨rfl, rfl⟩) fun t ht => by cases ht
theorem TrW.step {l lo hi rt : Nat} {st : List (Nat × Nat)} {ds us : List Nat} (h : TrW l (st ++ [(lo, hi)]) ds us) (h1 : lo ≤ rt) (h2 : rt ≤ hi) :
    TrW l (st ++ (if lo < rt then [(lo, rt - 1)] else []) ++ (if rt < hi then [(rt + 1, hi)] else [])) (ds.set (rt - 1) (lo - 1)) (us.set (rt - 1) (hi + 1)) ∧
      totS (st ++ (if lo < rt then [(lo, rt - 1)] else []) ++ (if rt < hi then [(rt + 1, hi)] else [])) + 1 = totS (st ++ [(lo, hi)]) := by
  have hb := h.ok (lo, hi) (by simp)
  dsimp only at hb
  have hd := List.pairwise_append.mp h.dj
  have hdis : ∀ t, t ∈ st → t.2 < lo ∨ hi < t.1 := fun t ht => hd.2.2 t ht (lo, hi) (by simp)
  have etot : totS (st ++ (if lo < rt then [(lo, rt - 1)] else []) ++ (if rt < hi then [(rt + 1, hi)] else [])) + 1 = totS (st ++ [(lo, hi)]) := by
    rw [totS_app, totS_app, totS_app]
    split <;> split <;> simp [totS] <;> omega
  have mem : ∀ t, t ∈ st ++ (if lo < rt then [(lo, rt - 1)] else []) ++ (if rt < hi then [(rt + 1, hi)] else []) → t ∈ st ∨ (t = (lo, rt - 1) ∧ lo < rt) ∨ (t = (rt + 1, hi) ∧ rt < hi) := by
    intro t ht
    rcases List.mem_append.mp ht with ht | ht
    · rcases List.mem_append.mp ht with ht | ht
      · exact .inl ht
      · split at ht
        · rename_i e; exact .inr (.inl ⟨List.mem_singleton.mp ht, e⟩)
        · cases ht
    · split at ht
      · rename_i e; exact .inr (.inr ⟨List.mem_singleton.mp ht, e⟩)
      · cases ht
  have ld := h.ld
  have lu := h.lu
  refine ⟨⟨by simp [ld], by simp [lu], ?_, ?_, by have := h.tot; omega, ?_⟩, etot⟩
  · intro t ht
    rcases mem t ht with ht | ⟨rfl, e⟩ | ⟨rfl, e⟩
    · exact h.ok t (by simp [ht])
    · dsimp only; omega
    · dsimp only; omega
  · rw [List.append_assoc]
    refine List.pairwise_append.mpr ⟨hd.1, ?_, ?_⟩
    · split <;> split <;> simp <;> omega
    · intro a ha b hb'
      have := hdis a ha
      rcases List.mem_append.mp hb' with hb' | hb'
      · split at hb'
        · rw [List.mem_singleton.mp hb']; dsimp only; omega
        · cases hb'
      · split at hb'
        · rw [List.mem_singleton.mp hb']; dsimp only; omega
        · cases hb'
  · intro ds' us' hag htr
    have e1 : rt - 1 + 1 = rt := by omega
    have hroot := hag (rt - 1) (fun t ht hin => by
      unfold Inn at hin
      rw [e1] at hin
      rcases mem t ht with ht | ⟨rfl, e⟩ | ⟨rfl, e⟩
      · have := hdis t ht; omega
      · dsimp only at hin; omega
      · dsimp only at hin; omega)
    rw [getD_set _ _ _ _ (by omega), getD_set _ _ _ _ (by omega), if_pos rfl, if_pos rfl] at hroot
    refine h.go ds' us' (fun i hi' => ?_) (fun t ht => ?_)
    · have hne : i ≠ rt - 1 := fun e => hi' (lo, hi) (by simp) (by unfold Inn; dsimp only; omega)
      have := hag i (fun t ht hin => by
        rcases mem t ht with ht | ⟨rfl, e⟩ | ⟨rfl, e⟩
        · exact hi' t (by simp [ht]) hin
        · exact hi' (lo, hi) (by simp) (by unfold Inn at hin ⊢; dsimp only at hin ⊢; omega)
        · exact hi' (lo, hi) (by simp) (by unfold Inn at hin ⊢; dsimp only at hin ⊢; omega))
      rw [getD_set _ _ _ _ (by omega), getD_set _ _ _ _ (by omega), if_neg hne, if_neg hne] at this
      exact this
    · rcases List.mem_append.mp ht with ht | ht
      · exact htr t (by simp [ht])
      · rw [List.mem_singleton.mp ht]
        refine .node h1 h2 hroot.1 hroot.2 ?_ ?_
        · by_cases e : lo < rt
          · exact htr (lo, rt - 1) (by rw [if_pos e]; simp)
          · exact .nil (by omega)
        · by_cases e : rt < hi
          · exact htr (rt + 1, hi) (by rw [if_pos e]; simp)
          · exact .nil (by omega)
end VC

namespace VC
open PySem PySem.Spec PyProof.Rows L2

theorem compX_by {f : Itm → PSt → Option (Option PV × PSt)} {its : List Itm} {σ : PSt} (W : Nat → List PV → PSt → Prop) (h0 : W 0 [] σ)
    (turn : ∀ i itm acc σ, its[i]? = some itm → W i acc σ → ∃ r σ1, f itm σ = some (r, σ1) ∧ W (i + 1) (acc ++ r.toList) σ1) : ∃ ps σ2, compX f its σ = some (.ok ps, σ2) ∧ W its.length ps σ2 := by
  have key : ∀ (n i : Nat) (acc : List PV) (σ : PSt), i + n = its.length → W i acc σ → ∃ ps σ2, compX f (its.drop i) σ = some (.ok ps, σ2) ∧ W its.length (acc ++ ps) σ2 := by
    intro n
    induction n with
    | zero =>
      intro i acc σ hi hw
      have e : i = its.length := by omega
      subst e
      rw [List.drop_length]
      exact ⟨[], σ, rfl, by rwa [List.append_nil]⟩
    | succ n ih =>
      intro i acc σ hi hw
      have hlt : i < its.length := by omega
      obtain ⟨r, σ1, h1, h2⟩ := turn i its[i] acc σ (List.getElem?_eq_getElem hlt) hw
      obtain ⟨ps, σ2, h3, h4⟩ := ih (i + 1) _ σ1 (by omega) h2
      rw [List.drop_eq_getElem_cons hlt, compX, h1]
      cases r with
      | none => exact ⟨ps, σ2, h3, by simpa using h4⟩
      | some p => dsimp only; rw [h3]; exact ⟨p :: ps, σ2, rfl, by simpa using h4⟩
  obtain ⟨ps, σ2, h1, h2⟩ := key its.length 0 [] σ (by omega) h0
  rw [List.drop_zero] at h1
  exact ⟨ps, σ2, h1, h2⟩
theorem cmX_of {c : PCn} {e : Ex} {tg : Tg} {own : List Nat} {i : Itm} {σ σ1 : PSt} {R : Option PV → PSt → Prop} (hb : bndT tg i (dropF own 0 σ) = some σ1) (q : Xe c e σ1 fun p σ => R (some p) σ) : ∃ r σ', cmX c e tg .no own i σ = some (r, σ') ∧ R r σ' := by
  obtain ⟨p, σ2, h, q⟩ := q
  refine ⟨some p, σ2, ?_, q⟩
  unfold cmX
  rw [hb]
  dsimp only [evXC]
  rw [h]
theorem compX_nats {c : PCn} {e : Ex} {own : List Nat} {j m : Nat} {σ : PSt} {PX : List PV → PSt → Prop} (W : Nat → List Nat → PSt → Prop) (h0 : W 0 [] σ)
    (turn : ∀ i ns σ, i < m → W i ns σ → ∃ σ1, bndT (.name j) (.one (.int (i : Nat))) (dropF own 0 σ) = some σ1 ∧ Xe c e σ1 fun p σ => ∃ n : Nat, p = .int (n : Nat) ∧ W (i + 1) (ns ++ [n]) σ)
    (done : ∀ ns σ, W m ns σ → PX (ns.map fun (n : Nat) => .int (n : Nat)) σ) :
    ∃ ps σ2, compX (cmX c e (.name j) .no own) (((List.range m).map fun (i : Nat) => PV.int (i : Nat)).map .one) σ = some (.ok ps, σ2) ∧ PX ps σ2 := by
  obtain ⟨ps, σ2, h1, ns, rfl, h2⟩ := compX_by (f := cmX c e (.name j) .no own) (its := ((List.range m).map fun (i : Nat) => PV.int (i : Nat)).map .one) (σ := σ) (fun i ps σ => ∃ ns : List Nat, ps = (ns.map fun (n : Nat) => PV.int (n : Nat)) ∧ W i ns σ) ⟨[], rfl, h0⟩ (by
    rintro i itm acc σ hi0 ⟨ns, rfl, hw⟩
    obtain ⟨hi, rfl⟩ := at_rng hi0
    obtain ⟨σ1, hb, hx⟩ := turn i ns σ hi hw
    refine cmX_of hb ?_
    obtain ⟨p, σ2, h, n, rfl, hw⟩ := hx
    refine ⟨_, _, h, ns ++ [n], by simp, hw⟩)
  rw [List.length_map, List.length_map, List.length_range] at h2
  exact ⟨_, _, h1, done ns σ2 h2⟩
theorem fit_and {n : Nat} {Q : Prop} (h : fitB n = true) (q : Q) : fitB n = true ∧ Q := ⟨h, q⟩
theorem io_by {fl : List Bool} {as : List (Option Nat × PV)} {σ σ1 : PSt} {ps ps' : List PV} {Q : List PV → PSt → Prop} (h : ioTake fl as σ = some (ps, σ1)) (e : ps = ps') (q : Q ps' σ1) : ∃ ps σ1, ioTake fl as σ = some (ps, σ1) ∧ Q ps σ1 := by subst e; exact ⟨ps, σ1, h, q⟩
theorem ij_by {i : Int} {Q : Int → Prop} (q : Q i) : ∃ j, PV.int i = .int j ∧ Q j := ⟨i, rfl, q⟩
theorem ij2_by {a b : Int} {Q : Int → Int → Prop} (q : Q a b) : ∃ i j, PV.int a = .int i ∧ PV.int b = .int j ∧ Q i j := ⟨a, b, rfl, rfl, q⟩
theorem ib_by {i : Bool} {Q : Bool → Prop} (q : Q i) : ∃ j, PV.bl i = .bl j ∧ Q j := ⟨i, rfl, q⟩
theorem ill_by {t : Bool} {xs : List PV} {Q : Bool → List PV → Prop} (q : Q t xs) : ∃ t' xs', LL t xs = LL t' xs' ∧ Q t' xs' := ⟨t, xs, rfl, q⟩
theorem inv_by {t : Bool} {xs : List Nat} {Q : Bool → List PV → Prop} (q : Q t (xs.map fun (n : Nat) => .int (n : Int))) : ∃ t' xs', nv t xs = LL t' xs' ∧ Q t' xs' := ⟨t, _, rfl, q⟩
theorem izv_by {t : Bool} {xs : List Int} {Q : Bool → List PV → Prop} (q : Q t (xs.map .int)) : ∃ t' xs', zv t xs = LL t' xs' ∧ Q t' xs' := ⟨t, _, rfl, q⟩
theorem itt_by {xs : List PV} {is : List Nat} {Q : Bool → List PV → Prop} (h : xs.length = is.length) (q : Q false xs) : ∃ t ys, TT_ xs = .nod .tup t ys ∧ ys.length = is.length ∧ Q t ys := ⟨false, xs, rfl, h, q⟩
theorem ipr_by {t : Bool} {ds us : List Nat} {is : List Nat} {Q : Bool → List PV → Prop} (h : 2 = is.length) (q : Q false [nv t ds, nv t us]) : ∃ t' ys, prv t ds us = .nod .tup t' ys ∧ ys.length = is.length ∧ Q t' ys := ⟨false, _, rfl, h, q⟩
theorem ln_and {α β : Type} {xs : List α} {ys : List β} {Q : Prop} (h : xs.length = ys.length) (q : Q) : xs.length = ys.length ∧ Q := ⟨h, q⟩
theorem compP_fil {f : Itm → Option (Option PV)} {ns : List Nat} (p : Nat → Bool) (g : Nat → PV) (h : ∀ n, n ∈ ns → f (.one (.int (n : Int))) = some (if p n then some (g n) else none)) : compP f ((ns.map fun (n : Nat) => PV.int (n : Int)).map .one) = some ((ns.filter p).map g) := by
  induction ns with
  | nil => rfl
  | cons n ns ih =>
    rw [List.map_cons, List.map_cons, compP, h n (by simp)]
    have e := ih fun x hx => h x (by simp [hx])
    cases hp : p n with
    | true => rw [if_pos rfl]; dsimp only; rw [e, List.filter_cons, hp, if_pos rfl, List.map_cons]
    | false => rw [if_neg (by decide)]; dsimp only; rw [e, List.filter_cons, hp, if_neg (by decide)]
theorem compP_each {f : Itm → Option (Option PV)} {ns : List Nat} (g : Nat → PV) (h : ∀ n, n ∈ ns → f (.one (.int (n : Int))) = some (some (g n))) : compP f ((ns.map fun (n : Nat) => PV.int (n : Int)).map .one) = some (ns.map g) := by
  have e := compP_fil (f := f) (ns := ns) (fun _ => true) g (fun n hn => by rw [h n hn]; rfl)
  rw [e]; congr 2; exact List.filter_eq_self.mpr fun _ _ => rfl
theorem rng2N {a b : Nat} {j : Int} (ha : a ≤ 100000) (hb : b ≤ 100000) (e : j = (b : Int)) : rngP [.int (a : Int), .int j] = some ((List.range' a (b - a)).map fun (n : Nat) => .int (n : Int)) := by
  subst e
  rw [rngP2 (by omega)]
  congr 1
  rw [List.range'_eq_map_range, List.map_map]
  have : ((b : Int) - (a : Int)).toNat = b - a := by omega
  rw [this]
  refine List.map_congr_left fun i _ => ?_
  show PV.int _ = PV.int _
  congr 1
theorem rng1N {b : Nat} {j : Int} (hb : b ≤ 100000) (e : j = (b : Int)) : rngP [.int j] = some ((List.range b).map fun (n : Nat) => .int (n : Int)) := by
  subst e
  rw [rngP1 (by omega), Int.toNat_natCast]
theorem oc_neNil {t u : Bool} {B : Bool → Prop} (q : B false) : Oc .NotEq (LL t []) (LL u []) B := oc_neD (d := .list []) (e := .list []) rfl rfl (DsOk.nil (n := 0) (w := 0)).list (DsOk.nil (n := 0) (w := 0)).list (by decide) (by decide) q
theorem oc_eqN {t u : Bool} {a b : List Nat} {B : Bool → Prop} (ha : ∀ n, n ∈ a → n < 1000000000000) (hb : ∀ n, n ∈ b → n < 1000000000000) (q : B (decide (a = b))) : Oc .Eq (nv t a) (nv u b) B := oc_eqD toD_nv toD_nv (dOk_dN ha) (dOk_dN hb) (by decide) (by decide) (by rw [eqv_dN]; exact q)
theorem oc_neN {t u : Bool} {a b : List Nat} {B : Bool → Prop} (ha : ∀ n, n ∈ a → n < 1000000000000) (hb : ∀ n, n ∈ b → n < 1000000000000) (q : B (!decide (a = b))) : Oc .NotEq (nv t a) (nv u b) B := oc_neD toD_nv toD_nv (dOk_dN ha) (dOk_dN hb) (by decide) (by decide) (by rw [eqv_dN]; exact q)
theorem nv_map {f : Nat → Nat} {xs : List Nat} {t : Bool} : LL t (xs.map fun n => PV.int (f n : Nat)) = nv t (xs.map f) := by simp [nv]
theorem compP_ex {α : Type} {f : Itm → Option (Option PV)} {xs : List α} {w : α → PV} {R : PV → Prop} (h : ∀ n, n ∈ xs → ∃ p, f (.one (w n)) = some (some p) ∧ R p) : ∃ ps, compP f ((xs.map w).map .one) = some ps ∧ (∀ p, p ∈ ps → R p) ∧ ps.length = xs.length := by
  induction xs with
  | nil => exact ⟨[], rfl, (fun p hp => by cases hp), rfl⟩
  | cons n ns ih =>
    obtain ⟨p, h1, h2⟩ := h n (by simp)
    obtain ⟨ps, h3, h4, h5⟩ := ih fun x hx => h x (by simp [hx])
    refine ⟨p :: ps, ?_, ?_, by simp [h5]⟩
    · rw [List.map_cons, List.map_cons, compP, h1]
      dsimp only
      rw [h3]
    · intro x hx
      rcases List.mem_cons.mp hx with rfl | hx
      · exact h2
      · exact h4 x hx
theorem cm_ex {c : PCn} {σ σ1 : PSt} {e : Ex} {tg : Tg} {i : Itm} {R : PV → Prop} (hb : bndT tg i σ = some σ1) (he : Ep c e σ1 R) : ∃ p, cmF c e tg .no σ i = some (some p) ∧ R p := by
  obtain ⟨x, h2, r⟩ := he
  refine ⟨x, ?_, r⟩
  unfold cmF
  rw [hb]
  dsimp only [evC]
  rw [h2]
theorem at_items {ps : List PV} {i : Nat} {itm : Itm} (h : (ps.map Itm.one)[i]? = some itm) : ∃ p, p ∈ ps ∧ itm = .one p := by
  rw [List.getElem?_map] at h
  cases e : ps[i]? with
  | none => rw [e] at h; cases h
  | some x => rw [e] at h; exact ⟨x, List.mem_of_getElem? e, (Option.some.inj h).symm⟩
theorem cln_all {ps : List PV} (h : ∀ p, p ∈ ps → cln p = true) : cln (LL true ps) = true := by
  rw [cln_LL, clns_eq, List.all_eq_true.mpr h]; rfl
theorem maxI_ge : ∀ (ns : List Int) (n : Int), n ≤ maxI n ns ∧ (∀ x, x ∈ ns → x ≤ maxI n ns) ∧ (maxI n ns = n ∨ maxI n ns ∈ ns)
  | [], n => ⟨Int.le_refl _, (fun x hx => by cases hx), .inl rfl⟩
  | m :: ns, n => by
    obtain ⟨h1, h2, h3⟩ := maxI_ge ns (if n < m then m else n)
    have e : maxI n (m :: ns) = maxI (if n < m then m else n) ns := rfl
    rw [e]
    have hb : n ≤ (if n < m then m else n) ∧ m ≤ (if n < m then m else n) := by split <;> omega
    refine ⟨Int.le_trans hb.1 h1, fun x hx => ?_, ?_⟩
    · rcases List.mem_cons.mp hx with rfl | hx
      · exact Int.le_trans hb.2 h1
      · exact h2 x hx
    · rcases h3 with h3 | h3
      · rw [h3]
        split
        · exact .inr (by simp)
        · exact .inl rfl
      · exact .inr (by simp [h3])
theorem of_maxN {t : Bool} {ns : List Nat} {P : PV → Prop} (h : ns ≠ []) (q : ∀ M, M ∈ ns → (∀ n, n ∈ ns → n ≤ M) → P (.int (M : Nat))) : Of "max" [nv t ns] P := by
  cases ns with
  | nil => exact absurd rfl h
  | cons n ns =>
    obtain ⟨h1, h2, h3⟩ := maxI_ge (ns.map fun (n : Nat) => (n : Int)) (n : Int)
    obtain ⟨M, hM, hm⟩ : ∃ M : Nat, maxI (n : Int) (ns.map fun (n : Nat) => (n : Int)) = (M : Int) ∧ M ∈ n :: ns := by
      rcases h3 with h3 | h3
      · exact ⟨n, h3, by simp⟩
      · obtain ⟨M, hM, e⟩ := List.mem_map.mp h3
        exact ⟨M, e.symm, by simp [hM]⟩
    refine ⟨.int (M : Int), ?_, q M hm fun x hx => ?_⟩
    · have e : bltP "max" [nv t (n :: ns)] = match intsP ((n :: ns).map fun (n : Nat) => PV.int (n : Int)) with
          | some (n :: ns) => some (.int (maxI n ns))
          | _ => none := rfl
      rw [e, intsP_nats]
      show some (PV.int (maxI (n : Int) (ns.map fun (n : Nat) => (n : Int)))) = _
      rw [hM]
    · rw [hM] at h1 h2
      rcases List.mem_cons.mp hx with rfl | hx
      · omega
      · have := h2 x (List.mem_map.mpr ⟨x, hx, rfl⟩)
        omega
def sv (t : Bool) (st : List (Nat × Nat)) : PV := LL t (st.map fun t => TT_ [.int (t.1 : Int), .int (t.2 : Int)])
theorem sh_sv {t : Bool} {st : List (Nat × Nat)} : sh (sv t st) = sv false st := by
  show PV.nod .lst false (shs _) = _
  rw [shs_eq, List.map_map]; rfl
theorem cln_sv {t : Bool} {st : List (Nat × Nat)} : cln (sv t st) = t := by
  show ((t || !true) && clns _) = t
  rw [clns_eq, List.all_map]
  have : (st.all (cln ∘ fun t => TT_ [.int (t.1 : Int), .int (t.2 : Int)])) = true := List.all_eq_true.mpr fun _ _ => rfl
  rw [this]; simp
theorem x_popS {o : Ex} {i : Nat} {c : PCn} {σ : PSt} {P : PV → PSt → Prop} {st : List (Nat × Nat)} {t : Nat × Nat} (ho : plc o = some (i, [])) (h0 : σ[i]? = some (some (sv true (st ++ [t])))) (q : P (TT_ [.int (t.1 : Int), .int (t.2 : Int)]) (σ.set i (some (sv true st)))) : Xe c (.mth "pop" o .nil) σ P := by
  refine x_pop (xs := st.map fun t => TT_ [.int (t.1 : Int), .int (t.2 : Int)]) ho ?_ q
  rw [h0]
  simp [sv]
theorem ob_repS {t u : Bool} {lo hi : Int} {l h : Nat} {P : PV → Prop} (el : lo = l ∨ t = false) (eh : hi = h ∨ t = false) (q : P (sv true (if t then [(l, h)] else []))) : Ob .Mult (LL u [TT_ [.int lo, .int hi]]) (.int (if t then 1 else 0)) P := by
  refine ob_rep (by cases t <;> decide) (by simp) ?_
  cases t with
  | false => exact q
  | true =>
    have e1 : lo = l := by simpa using el
    have e2 : hi = h := by simpa using eh
    subst e1 e2
    exact q
theorem ob_catS {t u : Bool} {a b : List (Nat × Nat)} {P : PV → Prop} (h : a.length + b.length ≤ 100000) (q : P (sv true (a ++ b))) : Ob .Add (sv t a) (sv u b) P := by
  refine ob_cat (by simpa using h) ?_
  rw [← List.map_append]; exact q
theorem oc_neStk {st : List (Nat × Nat)} {t : Bool} {B : Bool → Prop} (h : ∀ t, t ∈ st → t.1 < 1000000 ∧ t.2 < 1000000) (q : B (!st.isEmpty)) : Oc .NotEq (sv t st) (LL true []) B := by
  have e : toDs (st.map fun t => TT_ [.int (t.1 : Int), .int (t.2 : Int)]) = some (st.map fun t => PyData.tuple [.int (t.1 : Int), .int (t.2 : Int)]) := toDs_map (fun t => rfl) st
  have o : DOk (.list (st.map fun t => PyData.tuple [.int (t.1 : Int), .int (t.2 : Int)])) 2 _ := (DsOk.of_all (n := 1) (w := 84) fun d hd => by
    obtain ⟨t, ht, rfl⟩ := List.mem_map.mp hd
    have := h t ht
    exact (DsOk.cons (dOk_int (by omega)) (DsOk.cons (dOk_int (by omega)) (DsOk.nil (w := 0)))).tuple).list
  refine oc_neD (d := _) (e := .list []) (toD_LL e) rfl o (DsOk.nil (n := 0) (w := 0)).list (by decide) (by decide) ?_
  cases st with
  | nil => exact q
  | cons x st => exact q
end VC

namespace VC
open PySem PySem.Spec PyProof.Rows L2

structure Rt (ds us : List Nat) : Prop where
  nest : ∀ i, i < ds.length → ∀ j, ds.getD i 0 ≤ j → j < i → ds.getD i 0 ≤ ds.getD j 0
  bt : ∀ o i, o < i → i < ds.length → i + 1 < us.getD o 0 → o < ds.getD i 0
  fin : ∀ o, o < ds.length → us.getD o 0 ≤ ds.length → ds.getD (us.getD o 0 - 1) 0 ≤ o
theorem Tr.low {ds us : List Nat} {l h : Nat} (t : Tr ds us l h) {k : Nat} (h1 : 1 ≤ l) (h2 : l ≤ k) (h3 : k ≤ h) : l - 1 ≤ ds.getD (k - 1) 0 ∧ us.getD (k - 1) 0 ≤ h + 1 ∧ ds.getD (k - 1) 0 < k ∧ k < us.getD (k - 1) 0 := by
  obtain ⟨l', h', a1, a2, a3, a4, a5, a6⟩ := t.at_ k h1 h2 h3
  omega
theorem Tr.rt_ {ds us : List Nat} {l h : Nat} (t : Tr ds us l h) : 1 ≤ l →
    (∀ q, l ≤ q → q ≤ h → ∀ j, ds.getD (q - 1) 0 < j → j < q → ds.getD (q - 1) 0 ≤ ds.getD (j - 1) 0) ∧
    (∀ p q, l ≤ p → p < q → q ≤ h → q < us.getD (p - 1) 0 → p ≤ ds.getD (q - 1) 0) ∧
    (∀ p, l ≤ p → p ≤ h → us.getD (p - 1) 0 ≤ h → ds.getD (us.getD (p - 1) 0 - 1) 0 < p) := by
  induction t with
  | nil g => intro _; exact ⟨fun q _ _ => by omega, fun p q _ _ _ => by omega, fun p _ _ => by omega⟩
  | @node l h r h1 h2 h3 h4 ta tb iha ihb =>
    intro hl
    obtain ⟨a1, a2, a3⟩ := iha hl
    obtain ⟨b1, b2, b3⟩ := ihb (by omega)
    refine ⟨fun q q1 q2 j j1 j2 => ?_, fun p q p1 pq q2 q3 => ?_, fun p p1 p2 p3 => ?_⟩
    · by_cases e : q = r
      · subst e
        have := ta.low (k := j) hl (by omega) (by omega)
        omega
      · by_cases e2 : q < r
        · have := ta.low (k := q) hl (by omega) (by omega)
          exact a1 q q1 (by omega) j j1 j2
        · have := tb.low (k := q) (by omega) (by omega) (by omega)
          exact b1 q (by omega) q2 j j1 j2
    · by_cases e : p = r
      · subst e
        have := tb.low (k := q) (by omega) (by omega) (by omega)
        omega
      · by_cases e2 : p < r
        · have := ta.low (k := p) hl (by omega) (by omega)
          exact a2 p q p1 pq (by omega) q3
        · exact b2 p q (by omega) pq q2 q3
    · by_cases e : p = r
      · subst e; omega
      · by_cases e2 : p < r
        · have := ta.low (k := p) hl (by omega) (by omega)
          by_cases e3 : us.getD (p - 1) 0 = r
          · rw [e3, h3]; omega
          · exact a3 p p1 (by omega) (by omega)
        · exact b3 p (by omega) p2 p3
theorem TrOk.rt {m : Nat} {ds us : List Nat} (h : TrOk m ds us) : Rt ds us := by
  obtain ⟨a, b, c⟩ := h.tr.rt_ (Nat.le_refl _)
  refine ⟨fun i hi j h1 h2 => ?_, fun o i h1 h2 h3 => ?_, fun o h1 h2 => ?_⟩
  · have := a (i + 1) (by omega) (by omega) (j + 1)
    simp only [Nat.add_sub_cancel] at this
    exact this (by omega) (by omega)
  · have := b (o + 1) (i + 1) (by omega) (by omega) (by omega)
    simp only [Nat.add_sub_cancel] at this
    exact this (by omega)
  · have := c (o + 1) (by omega) (by omega)
    simp only [Nat.add_sub_cancel] at this
    have := this h2
    omega
structure UpW (ds us : List Nat) (i : Nat) (ts : List Nat) : Prop where
  len : ts.length = ds.length
  at_ : ∀ o, o < ds.length → ts.getD o 0 = if us.getD o 0 ≤ i then us.getD o 0 else ds.length + 1
structure UpJ (ds us : List Nat) (i j : Nat) (ts : List Nat) : Prop where
  len : ts.length = ds.length
  at_ : ∀ o, o < ds.length → ts.getD o 0 = if us.getD o 0 ≤ i ∨ (us.getD o 0 = i + 1 ∧ o < j) then us.getD o 0 else ds.length + 1
theorem UpW.start {m : Nat} {ds us : List Nat} (ok : PrOk m ds us) {ts : List Nat} (h : ts.length = ds.length) (h2 : ∀ o, o < ds.length → ts.getD o 0 = ds.length + 1) : UpW ds us 0 ts := by
  refine ⟨h, fun o ho => ?_⟩
  have := ok.up o (by have := ok.len; omega)
  rw [h2 o ho, if_neg (by omega)]
theorem UpW.to {ds us : List Nat} {i : Nat} {ts : List Nat} (h : UpW ds us i ts) : UpJ ds us i 0 ts := by
  refine ⟨h.len, fun o ho => ?_⟩
  rw [h.at_ o ho]
  by_cases e : us.getD o 0 ≤ i
  · rw [if_pos e, if_pos (.inl e)]
  · rw [if_neg e, if_neg (by omega)]
theorem UpJ.to {m : Nat} {ds us : List Nat} {i : Nat} {ts : List Nat} (ok : PrOk m ds us) (hi : i < ds.length) (h : UpJ ds us i i ts) : UpW ds us (i + 1) ts := by
  refine ⟨h.len, fun o ho => ?_⟩
  have := ok.up o (by have := ok.len; omega)
  rw [h.at_ o ho]
  by_cases e : us.getD o 0 ≤ i + 1
  · rw [if_pos e, if_pos (by omega)]
  · rw [if_neg e, if_neg (by omega)]
theorem UpJ.keep {m : Nat} {ds us : List Nat} {i j : Nat} {ts : List Nat} (rt : Rt ds us) (ok : PrOk m ds us) (hi : i < ds.length) (hj : j < i) (h : UpJ ds us i j ts) (hn : ¬ (ds.getD i 0 ≤ j ∧ ds.length < ts.getD j 0)) : UpJ ds us i (j + 1) ts := by
  refine ⟨h.len, fun o ho => ?_⟩
  have hl := ok.len
  rw [h.at_ o ho]
  by_cases e : o = j
  · subst e
    have e1 := h.at_ o ho
    have u := ok.up o (by omega)
    by_cases c : us.getD o 0 = i + 1
    · exfalso
      have f := rt.fin o ho (by omega)
      rw [c, Nat.add_sub_cancel] at f
      rw [if_neg (by omega)] at e1
      omega
    · by_cases e2 : us.getD o 0 ≤ i
      · rw [if_pos (.inl e2), if_pos (.inl e2)]
      · rw [if_neg (by omega), if_neg (by omega)]
  · by_cases e2 : us.getD o 0 ≤ i ∨ (us.getD o 0 = i + 1 ∧ o < j)
    · rw [if_pos e2, if_pos (by omega)]
    · rw [if_neg e2, if_neg (by omega)]
theorem UpJ.set {m : Nat} {ds us : List Nat} {i j : Nat} {ts : List Nat} (rt : Rt ds us) (ok : PrOk m ds us) (hi : i < ds.length) (hj : j < i) (h : UpJ ds us i j ts) (h1 : ds.getD i 0 ≤ j) (h2 : ds.length < ts.getD j 0) : UpJ ds us i (j + 1) (ts.set j (i + 1)) := by
  have hl := h.len
  refine ⟨by rw [List.length_set, hl], fun o ho => ?_⟩
  rw [getD_set _ _ _ _ (by omega)]
  by_cases e : o = j
  · subst e
    have e1 := h.at_ o ho
    have u := ok.up o (by have := ok.len; omega)
    rw [if_pos rfl]
    have g : us.getD o 0 = i + 1 := by
      by_cases c1 : us.getD o 0 ≤ i
      · rw [if_pos (.inl c1)] at e1; omega
      · by_cases c2 : us.getD o 0 = i + 1
        · exact c2
        · have := rt.bt o i hj hi (by omega)
          omega
    rw [if_pos (.inr ⟨g, by omega⟩), g]
  · rw [if_neg e, h.at_ o ho]
    by_cases e2 : us.getD o 0 ≤ i ∨ (us.getD o 0 = i + 1 ∧ o < j)
    · rw [if_pos e2, if_pos (by omega)]
    · rw [if_neg e2, if_neg (by omega)]
theorem UpW.done {m : Nat} {ds us : List Nat} {ts : List Nat} (ok : PrOk m ds us) (h : UpW ds us ds.length ts) : ts = us := by
  have hl := h.len
  refine List.ext_getElem (by have := ok.len; omega) fun i h1 h2 => ?_
  have e := h.at_ i (by omega)
  have u := ok.up i h2
  have hu := ok.len
  rw [List.getD_eq_getElem?_getD, List.getElem?_eq_getElem h1, Option.getD_some] at e
  rw [List.getD_eq_getElem?_getD, List.getElem?_eq_getElem h2, Option.getD_some] at e u
  rw [e]
  split
  · rfl
  · omega
inductive TrV (ds us : List Nat) : Nat → Nat → PV → Prop
  | nil {l h : Nat} : h < l → TrV ds us l h .non
  | node {l h r : Nat} {a b : PV} : l ≤ r → r ≤ h → ds.getD (r - 1) 0 = l - 1 → us.getD (r - 1) 0 = h + 1 → TrV ds us l (r - 1) a → TrV ds us (r + 1) h b → TrV ds us l h (TT_ [a, .int (r : Int), b])
theorem Tr.root {ds us : List Nat} {l h : Nat} (t : Tr ds us l h) (hl : 1 ≤ l) (hh : l ≤ h) : ∃ r, l ≤ r ∧ r ≤ h ∧ ds.getD (r - 1) 0 = l - 1 ∧ us.getD (r - 1) 0 = h + 1 ∧ Tr ds us l (r - 1) ∧ Tr ds us (r + 1) h ∧ ∀ k, l ≤ k → k ≤ h → (ds.getD (k - 1) 0 = l - 1 ∧ us.getD (k - 1) 0 = h + 1 ↔ k = r) := by
  cases t with
  | nil g => omega
  | @node _ _ r h1 h2 h3 h4 ta tb =>
    refine ⟨r, h1, h2, h3, h4, ta, tb, fun k k1 k2 => ⟨fun ⟨e1, e2⟩ => ?_, fun e => by subst e; exact ⟨h3, h4⟩⟩⟩
    by_cases e : k = r
    · exact e
    · exfalso
      by_cases c : k < r
      · have := ta.low (k := k) hl k1 (by omega)
        omega
      · have := tb.low (k := k) (by omega) (by omega) k2
        omega
theorem TrV.cln {ds us : List Nat} {l h : Nat} {v : PV} (t : TrV ds us l h v) : cln v = true ∧ sh v = v := by
  induction t with
  | nil _ => exact ⟨rfl, rfl⟩
  | node _ _ _ _ _ _ ha hb =>
    refine ⟨?_, ?_⟩
    · rw [cln_TT, clns, clns, clns, ha.1, hb.1]; rfl
    · rw [sh_TT, shs_cons, shs_cons, shs_cons, ha.2, hb.2]; rfl
def ch : Nat → Nat → Nat
  | _, 0 => 1
  | 0, _ + 1 => 0
  | n + 1, k + 1 => ch n k + ch n (k + 1)
end VC

namespace VC
open PySem PySem.Spec PyProof.Rows L2
def cD (ds us : List Nat) (i j : Nat) : Nat := ((wD ds i).filter fun x => decide (x ∈ wU us j)).length
def hit (us : List Nat) (i j : Nat) : Nat := if i ∈ wU us j then 1 else 0
theorem cD_zero (ds us : List Nat) (j : Nat) : cD ds us 0 j = 0 := by simp [cD, wD_zero]
theorem cD_pos {ds us : List Nat} (ok : DnOk ds) {i : Nat} (j : Nat) (h0 : 0 < i) (hi : i ≤ ds.length) : cD ds us i j = hit us i j + cD ds us (ds.getD (i - 1) 0) j := by
  unfold cD hit
  rw [wD_pos ok h0 hi]
  by_cases h : i ∈ wU us j
  · rw [List.filter_cons_of_pos (by simp [h]), if_pos h, List.length_cons]; omega
  · rw [List.filter_cons_of_neg (by simp [h]), if_neg h]; omega
theorem wU_ge {us : List Nat} (ok : UpOk us) {x : Nat} : ∀ (n p : Nat), us.length < p + n → 0 < p → x ∈ wU us p → p ≤ x
  | 0, p, h, _, hm => by rw [wU_out (by omega)] at hm; cases hm
  | n + 1, p, h, h0, hm => by
    by_cases hp : p ≤ us.length
    · have hk := ok (p - 1) (by omega)
      rw [wU_in ok h0 hp] at hm
      rcases List.mem_cons.mp hm with e | hm
      · omega
      · have := wU_ge ok n _ (by omega) (by omega) hm
        omega
    · rw [wU_out (by omega)] at hm; cases hm
theorem cD_le {ds us : List Nat} (od : DnOk ds) (ou : UpOk us) {j : Nat} (hj : 0 < j) : ∀ (n i : Nat), i ≤ n → i ≤ ds.length → cD ds us i j ≤ i + 1 - j
  | 0, i, h, _ => by
    have : i = 0 := by omega
    subst this
    rw [cD_zero]; exact Nat.zero_le _
  | n + 1, i, h, hi => by
    by_cases h0 : i = 0
    · subst h0; rw [cD_zero]; exact Nat.zero_le _
    · have hl := od (i - 1) (by omega)
      have ih := cD_le od ou hj n (ds.getD (i - 1) 0) (by omega) (by omega)
      rw [cD_pos od j (by omega) hi]
      unfold hit
      by_cases hm : i ∈ wU us j
      · have := wU_ge ou us.length j (by omega) hj hm
        rw [if_pos hm]; omega
      · rw [if_neg hm]; omega
def upTo (ds : List Nat) : Nat → Nat → Nat
  | 0, _ => ds.length + 1
  | i + 1, o => if o < i ∧ ds.getD i 0 ≤ o ∧ ds.length < upTo ds i o then i + 1 else upTo ds i o
def upsL (ds : List Nat) (i : Nat) : List Nat := (List.range ds.length).map (upTo ds i)
def nestAt (ds : List Nat) (i : Nat) : Prop := ∀ q, ds.getD i 0 ≤ q → q < i → ds.getD i 0 ≤ ds.getD q 0
def Nest (ds : List Nat) : Prop := ∀ i, i < ds.length → nestAt ds i
def Right (ds us : List Nat) : Prop := ∀ i j, 1 ≤ j → j ≤ i → i ≤ ds.length → cD ds us i j = 1
theorem upTo_spec {ds : List Nat} {o : Nat} : ∀ i, i ≤ ds.length →
    (upTo ds i o = ds.length + 1 ∧ ∀ p, o < p → p < i → o < ds.getD p 0) ∨
    (∃ p, upTo ds i o = p + 1 ∧ o < p ∧ p < i ∧ ds.getD p 0 ≤ o ∧ ∀ q, o < q → q < p → o < ds.getD q 0)
  | 0, _ => .inl ⟨rfl, fun p _ h => by omega⟩
  | i + 1, hi => by
    unfold upTo
    rcases upTo_spec (ds := ds) (o := o) i (by omega) with ⟨e, h⟩ | ⟨p, e, h1, h2, h3, h4⟩
    · by_cases c : o < i ∧ ds.getD i 0 ≤ o ∧ ds.length < upTo ds i o
      · rw [if_pos c]
        exact .inr ⟨i, rfl, c.1, by omega, c.2.1, fun q hq hq2 => h q hq hq2⟩
      · rw [if_neg c]
        refine .inl ⟨e, fun p hp hp2 => ?_⟩
        by_cases ep : p = i
        · subst ep
          omega
        · exact h p hp (by omega)
    · rw [if_neg (by omega)]
      exact .inr ⟨p, e, h1, by omega, h3, h4⟩
theorem wU_mem_step {us : List Nat} (ok : UpOk us) {i j : Nat} (h0 : 0 < j) (hj : j ≤ us.length) : i ∈ wU us j ↔ i = j ∨ i ∈ wU us (us.getD (j - 1) 0) := by
  rw [wU_in ok h0 hj, List.mem_cons]
def Star (ds us : List Nat) : Prop := ∀ i j, 1 ≤ j → j ≤ i → i ≤ ds.length → (i ∈ wU us j ↔ ds.getD (i - 1) 0 < j)
theorem star_right {ds us : List Nat} (od : DnOk ds) (ou : UpOk us) (h : Star ds us) : Right ds us := by
  have main : ∀ n i j, i ≤ n → 1 ≤ j → j ≤ i → i ≤ ds.length → cD ds us i j = 1 := by
    intro n
    induction n with
    | zero => intro i j h1 h2 h3 _; omega
    | succ n ih =>
      intro i j h1 h2 h3 h4
      have hl := od (i - 1) (by omega)
      rw [cD_pos od j (by omega) h4]
      unfold hit
      by_cases c : ds.getD (i - 1) 0 < j
      · rw [if_pos ((h i j h2 h3 h4).mpr c)]
        have := cD_le (us := us) od ou (j := j) (by omega) (ds.getD (i - 1) 0) (ds.getD (i - 1) 0) (Nat.le_refl _) (by omega)
        omega
      · rw [if_neg (fun z => c ((h i j h2 h3 h4).mp z)), ih (ds.getD (i - 1) 0) j (by omega) h2 (by omega) (by omega)]
  intro i j h1 h2 h3
  exact main i i j (Nat.le_refl _) h1 h2 h3
theorem right_star {ds us : List Nat} (od : DnOk ds) (ou : UpOk us) (h : Right ds us) : Star ds us := by
  intro i j h1 h2 h3
  have hl := od (i - 1) (by omega)
  have e := h i j h1 h2 h3
  rw [cD_pos od j (by omega) h3] at e
  unfold hit at e
  by_cases c : ds.getD (i - 1) 0 < j
  · have := cD_le (us := us) od ou (j := j) (by omega) (ds.getD (i - 1) 0) (ds.getD (i - 1) 0) (Nat.le_refl _) (by omega)
    refine ⟨fun _ => c, fun _ => ?_⟩
    by_cases hm : i ∈ wU us j
    · exact hm
    · rw [if_neg hm] at e; omega
  · have e2 := h (ds.getD (i - 1) 0) j h1 (by omega) (by omega)
    refine ⟨fun hm => ?_, fun z => absurd z c⟩
    rw [if_pos hm] at e; omega
theorem ups_star {ds us : List Nat} (od : DnOk ds) (ou : UpOk us) (hl : us.length = ds.length) (hn : Nest ds) (hu : us = upsL ds ds.length) : Star ds us := by
  have eu : ∀ o, o < ds.length → us.getD o 0 = upTo ds ds.length o := fun o ho => by
    rw [hu, upsL, List.getD_eq_getElem?_getD, List.getElem?_map, List.getElem?_range ho]; rfl
  have main : ∀ n j, ds.length < j + n → ∀ i, 1 ≤ j → j ≤ i → i ≤ ds.length → (i ∈ wU us j ↔ ds.getD (i - 1) 0 < j) := by
    intro n
    induction n with
    | zero => intro j h i _ h2 h3; omega
    | succ n ih =>
      intro j h i h1 h2 h3
      have hd := od (i - 1) (by omega)
      have hk := ou (j - 1) (by omega)
      rw [wU_mem_step ou (by omega) (by omega)]
      by_cases e : i = j
      · exact ⟨fun _ => by omega, fun _ => .inl e⟩
      · have ej := eu (j - 1) (by omega)
        rcases upTo_spec (ds := ds) (o := j - 1) ds.length (Nat.le_refl _) with ⟨e1, h5⟩ | ⟨p, e1, p1, p2, p3, p4⟩
        · rw [ej, e1]
          have := h5 (i - 1) (by omega) (by omega)
          rw [wU_out (by omega)]
          refine ⟨fun z => ?_, fun z => by omega⟩
          rcases z with z | z
          · exact absurd z e
          · cases z
        · rw [ej, e1]
          refine ⟨fun z => ?_, fun z => .inr ?_⟩
          · rcases z with z | z
            · exact absurd z e
            · have hpi : p + 1 ≤ i := wU_ge ou us.length (p + 1) (by omega) (by omega) z
              have := (ih (p + 1) (by omega) i (by omega) hpi h3).mp z
              by_cases ep : p + 1 = i
              · have : i - 1 = p := by omega
                rw [this]; omega
              · have hn' := hn (i - 1) (by omega) p (by omega) (by omega)
                omega
          · have hpi : p + 1 ≤ i := by
              by_cases hc : i < p + 1
              · have := p4 (i - 1) (by omega) (by omega)
                omega
              · omega
            exact (ih (p + 1) (by omega) i (by omega) hpi h3).mpr (by omega)
  intro i j h1 h2 h3
  exact main ds.length j (by omega) i h1 h2 h3
theorem star_ups {ds us : List Nat} (od : DnOk ds) (ou : UpOk us) (hl : us.length = ds.length) (h : Star ds us) : Nest ds ∧ us = upsL ds ds.length := by
  have sub : ∀ n j, ds.length < j + n → ∀ q p, 1 ≤ j → q ∈ wU us j → p ∈ wU us q → p ∈ wU us j := by
    intro n
    induction n with
    | zero => intro j h q p h1 hq _; rw [wU_out (by omega)] at hq; cases hq
    | succ n ih =>
      intro j h q p h1 hq hp
      by_cases hj : j ≤ us.length
      · have hk := ou (j - 1) (by omega)
        rcases (wU_mem_step ou h1 hj).mp hq with e | e
        · rw [← e]; exact hp
        · exact (wU_mem_step ou h1 hj).mpr (.inr (ih _ (by omega) q p (by omega) e hp))
      · rw [wU_out (by omega)] at hq; cases hq
  constructor
  · intro i hi q h1 h2
    by_cases hc : ds.getD i 0 ≤ ds.getD q 0
    · exact hc
    · exfalso
      have hdq := od q (by omega)
      have a1 : q + 1 ∈ wU us (ds.getD i 0) := (h (q + 1) (ds.getD i 0) (by omega) (by omega) (by omega)).mpr (by rw [Nat.add_sub_cancel]; omega)
      have a2 : i + 1 ∈ wU us (q + 1) := (h (i + 1) (q + 1) (by omega) (by omega) (by omega)).mpr (by rw [Nat.add_sub_cancel]; omega)
      have a3 := sub ds.length (ds.getD i 0) (by omega) (q + 1) (i + 1) (by omega) a1 a2
      have a4 := (h (i + 1) (ds.getD i 0) (by omega) (by omega) (by omega)).mp a3
      rw [Nat.add_sub_cancel] at a4
      omega
  · refine List.ext_getElem (by simp [upsL, hl]) fun o h1 h2 => ?_
    have ho : o < ds.length := by omega
    have hk := ou o (by omega)
    have e1 : us[o] = us.getD o 0 := by rw [List.getD_eq_getElem?_getD, List.getElem?_eq_getElem h1]; rfl
    have e2 : (upsL ds ds.length)[o] = upTo ds ds.length o := by simp [upsL]
    rw [e1, e2]
    have gap : ∀ q, o + 1 < q → q < us.getD o 0 → q ≤ ds.length → q ∉ wU us (o + 1) := fun q q1 q2 q3 hm => by
      rcases (wU_mem_step ou (by omega) (by omega)).mp hm with e | e
      · omega
      · rw [Nat.add_sub_cancel] at e
        have := wU_ge ou us.length _ (by omega) (by omega) e
        omega
    rcases upTo_spec (ds := ds) (o := o) ds.length (Nat.le_refl _) with ⟨e3, h5⟩ | ⟨p, e3, p1, p2, p3, p4⟩
    · rw [e3]
      by_cases hc : us.getD o 0 ≤ ds.length
      · exfalso
        have hm : us.getD o 0 ∈ wU us (o + 1) := (wU_mem_step ou (by omega) (by omega)).mpr (.inr (by rw [Nat.add_sub_cancel, wU_in ou (by omega) (by omega)]; simp))
        have := (h (us.getD o 0) (o + 1) (by omega) (by omega) hc).mp hm
        have := h5 (us.getD o 0 - 1) (by omega) (by omega)
        omega
      · omega
    · rw [e3]
      have hm : p + 1 ∈ wU us (o + 1) := (h (p + 1) (o + 1) (by omega) (by omega) (by omega)).mpr (by rw [Nat.add_sub_cancel]; omega)
      have hle : us.getD o 0 ≤ p + 1 := by
        by_cases hc : p + 1 < us.getD o 0
        · exact absurd hm (gap (p + 1) (by omega) hc (by omega))
        · omega
      have hge : p + 1 ≤ us.getD o 0 := by
        by_cases hc : us.getD o 0 < p + 1
        · exfalso
          have hm2 : us.getD o 0 ∈ wU us (o + 1) := (wU_mem_step ou (by omega) (by omega)).mpr (.inr (by rw [Nat.add_sub_cancel, wU_in ou (by omega) (by omega)]; simp))
          have := (h (us.getD o 0) (o + 1) (by omega) (by omega) (by omega)).mp hm2
          have := p4 (us.getD o 0 - 1) (by omega) (by omega)
          omega
        · omega
      omega
theorem right_iff {m : Nat} {ds us : List Nat} (ok : PrOk m ds us) : (Nest ds ∧ us = upsL ds ds.length) ↔ Right ds us :=
  ⟨fun h => star_right ok.dn ok.up (ups_star ok.dn ok.up ok.len h.1 h.2), fun h => star_ups ok.dn ok.up ok.len (right_star ok.dn ok.up h)⟩
end VC

namespace VC
open PySem PySem.Spec PyProof.Rows L2

structure Fw (n : Nat) (ds us ds2 us2 : List Nat) (x y : Nat) : Prop where
  hx : 1 ≤ x
  xy : x < y
  hy : y ≤ n
  up : us.getD (x - 1) 0 = y
  dn : ds.getD (x - 1) 0 = ds.getD (y - 1) 0
  u2 : ∀ i, us2.getD i 0 = if i = x - 1 then us.getD (y - 1) 0 else us.getD i 0
  d2 : ∀ i, ds2.getD i 0 = if i = y - 1 then x else ds.getD i 0
  lu : us.length = n ∧ us2.length = n
  ld : ds.length = n ∧ ds2.length = n
theorem Fw.high {n : Nat} {ds us ds2 us2 : List Nat} {x y : Nat} (f : Fw n ds us ds2 us2 x y) (ok : UpOk us) (ok2 : UpOk us2) : ∀ (m p : Nat), n < p + m → x < p → wU us2 p = wU us p
  | 0, p, h, h0 => by rw [wU_out (by have := f.lu; omega), wU_out (by have := f.lu; omega)]
  | m + 1, p, h, h0 => by
    have hl := f.lu
    have hx := f.hx
    by_cases hp : p ≤ n
    · have k := ok (p - 1) (by omega)
      rw [wU_in ok2 (by omega) (by omega), wU_in ok (by omega) (by omega), f.u2, if_neg (by omega), Fw.high f ok ok2 m _ (by omega) (by omega)]
    · rw [wU_out (by omega), wU_out (by omega)]
theorem Fw.low {n : Nat} {ds us ds2 us2 : List Nat} {x y : Nat} (f : Fw n ds us ds2 us2 x y) (ok : DnOk ds) (ok2 : DnOk ds2) : ∀ (m p : Nat), p ≤ m → p < y → wD ds2 p = wD ds p
  | 0, p, h, h0 => by
    have : p = 0 := by omega
    subst this; rw [wD_zero, wD_zero]
  | m + 1, p, h, h0 => by
    have hl := f.ld
    have hy := f.hy
    by_cases hp : p = 0
    · subst hp; rw [wD_zero, wD_zero]
    · have k := ok (p - 1) (by omega)
      rw [wD_pos ok2 (by omega) (by omega), wD_pos ok (by omega) (by omega), f.d2, if_neg (by omega), Fw.low f ok ok2 m _ (by omega) (by omega)]
end VC

namespace VC
open PySem PySem.Spec PyProof.Rows L2

def tnd (xs : List Nat) : List Nat := xs.reverse.map fun x => xs.length + 1 - x
theorem tnd_len (xs : List Nat) : (tnd xs).length = xs.length := by simp [tnd]
theorem tnd_get {xs : List Nat} {i : Nat} (h : i < xs.length) : (tnd xs).getD i 0 = xs.length + 1 - xs.getD (xs.length - 1 - i) 0 := by
  have h2 : xs.length - 1 - i < xs.length := by omega
  unfold tnd
  simp only [List.getD_eq_getElem?_getD]
  rw [List.getElem?_map, List.getElem?_reverse h, List.getElem?_eq_getElem h2]
  rfl
theorem tnd_up {ds : List Nat} (ok : DnOk ds) : UpOk (tnd ds) := by
  intro i hi
  rw [tnd_len] at hi ⊢
  have := ok (ds.length - 1 - i) (by omega)
  rw [tnd_get hi]
  omega
theorem tnd_dn {us : List Nat} (ok : UpOk us) : DnOk (tnd us) := by
  intro i hi
  rw [tnd_len] at hi
  have := ok (us.length - 1 - i) (by omega)
  rw [tnd_get hi]
  omega
theorem PrOk.turn {m : Nat} {ds us : List Nat} (ok : PrOk m ds us) : PrOk m (tnd us) (tnd ds) := by
  have h1 := ok.pos
  have h2 := ok.top
  have h3 := ok.len
  exact ⟨by rw [tnd_len]; omega, by rw [tnd_len]; omega, by rw [tnd_len, tnd_len]; omega, tnd_dn ok.up, tnd_up ok.dn⟩
end VC

namespace VC
open PySem PySem.Spec PyProof.Rows L2

def fwL (ds us : List Nat) : List (Nat × Nat) := (((List.range us.length).filter fun i => decide (us.getD i 0 ≤ us.length)).map fun i => (i + 1, us.getD i 0)).filter fun t => decide (ds.getD (t.1 - 1) 0 = ds.getD (t.2 - 1) 0)
def bkL (ds us : List Nat) : List (Nat × Nat) := (((List.range ds.length).filter fun i => decide (0 < ds.getD i 0)).map fun i => (ds.getD i 0, i + 1)).filter fun t => decide (us.getD (t.1 - 1) 0 = us.getD (t.2 - 1) 0)
theorem fwL_mem {m : Nat} {ds us : List Nat} (ok : PrOk m ds us) {t : Nat × Nat} : t ∈ fwL ds us ↔ 1 ≤ t.1 ∧ t.1 < t.2 ∧ t.2 ≤ ds.length ∧ us.getD (t.1 - 1) 0 = t.2 ∧ ds.getD (t.1 - 1) 0 = ds.getD (t.2 - 1) 0 := by
  have hl := ok.len
  obtain ⟨x, y⟩ := t
  unfold fwL
  simp only [List.mem_filter, List.mem_map, List.mem_range, decide_eq_true_eq, Prod.mk.injEq]
  constructor
  · rintro ⟨⟨i, ⟨h1, h2⟩, rfl, rfl⟩, h3⟩
    have := ok.up i h1
    exact ⟨by omega, by omega, by omega, rfl, h3⟩
  · rintro ⟨h1, h2, h3, h4, h5⟩
    refine ⟨⟨x - 1, ⟨by omega, by omega⟩, by omega, h4⟩, h5⟩
theorem bkL_mem {m : Nat} {ds us : List Nat} (ok : PrOk m ds us) {t : Nat × Nat} : t ∈ bkL ds us ↔ 1 ≤ t.1 ∧ t.1 < t.2 ∧ t.2 ≤ ds.length ∧ ds.getD (t.2 - 1) 0 = t.1 ∧ us.getD (t.1 - 1) 0 = us.getD (t.2 - 1) 0 := by
  have hl := ok.len
  obtain ⟨x, y⟩ := t
  unfold bkL
  simp only [List.mem_filter, List.mem_map, List.mem_range, decide_eq_true_eq, Prod.mk.injEq]
  constructor
  · rintro ⟨⟨i, ⟨h1, h2⟩, rfl, rfl⟩, h3⟩
    have := ok.dn i h1
    exact ⟨by omega, by omega, by omega, rfl, h3⟩
  · rintro ⟨h1, h2, h3, h4, h5⟩
    refine ⟨⟨y - 1, ⟨by omega, by omega⟩, h4, by omega⟩, h5⟩
theorem fw_pr {m : Nat} {ds us : List Nat} (ok : PrOk m ds us) {x y : Nat} (h : (x, y) ∈ fwL ds us) : PrOk m (ds.set (y - 1) x) (us.set (x - 1) (us.getD (y - 1) 0)) ∧ Fw ds.length ds us (ds.set (y - 1) x) (us.set (x - 1) (us.getD (y - 1) 0)) x y := by
  obtain ⟨h1, h2, h3, h4, h5⟩ := (fwL_mem ok).mp h
  have a1 := ok.pos
  have a2 := ok.top
  have a3 := ok.len
  have a4 := ok.up (y - 1) (by simp only at h3; omega)
  simp only at h1 h2 h3 h4 h5
  refine ⟨⟨by simpa using a1, by simpa using a2, by simpa using a3, ok.dn.set (by omega) (by omega), ok.up.set (by omega) (by omega)⟩, ⟨h1, h2, h3, h4, h5, fun i => getD_set _ _ _ _ (by omega), fun i => getD_set _ _ _ _ (by omega), by simp [a3], by simp⟩⟩
theorem bk_pr {m : Nat} {ds us : List Nat} (ok : PrOk m ds us) {x y : Nat} (h : (x, y) ∈ bkL ds us) : PrOk m (ds.set (y - 1) (ds.getD (x - 1) 0)) (us.set (x - 1) y) ∧ Fw ds.length (ds.set (y - 1) (ds.getD (x - 1) 0)) (us.set (x - 1) y) ds us x y := by
  obtain ⟨h1, h2, h3, h4, h5⟩ := (bkL_mem ok).mp h
  have a1 := ok.pos
  have a2 := ok.top
  have a3 := ok.len
  simp only at h1 h2 h3 h4 h5
  have a4 := ok.dn (x - 1) (by omega)
  refine ⟨⟨by simpa using a1, by simpa using a2, by simpa using a3, ok.dn.set (by omega) (by omega), ok.up.set (by omega) (by omega)⟩, ⟨h1, h2, h3, ?_, ?_, fun i => ?_, fun i => ?_, by simp [a3], by simp⟩⟩
  · rw [getD_set _ _ _ _ (by omega), if_pos rfl]
  · rw [getD_set _ _ _ _ (by omega), getD_set _ _ _ _ (by omega), if_neg (by omega), if_pos rfl]
  · by_cases e : i = x - 1
    · rw [if_pos e, getD_set _ _ _ _ (by omega), if_neg (by omega), e]; exact h5
    · rw [if_neg e, getD_set _ _ _ _ (by omega), if_neg e]
  · rw [getD_set _ _ _ _ (by omega)]
    split
    · rename_i e; rw [e]; exact h4
    · rfl
end VC

namespace VC
open PySem PySem.Spec PyProof.Rows L2

theorem Tr.congr {ds us ds2 us2 : List Nat} {l h : Nat} (t : Tr ds us l h) : 1 ≤ l → (∀ k, l ≤ k → k ≤ h → ds2.getD (k - 1) 0 = ds.getD (k - 1) 0 ∧ us2.getD (k - 1) 0 = us.getD (k - 1) 0) → Tr ds2 us2 l h := by
  induction t with
  | nil g => intro _ _; exact .nil g
  | @node l h r h1 h2 h3 h4 _ _ ih1 ih2 =>
    intro hl e
    obtain ⟨e1, e2⟩ := e r h1 h2
    exact .node h1 h2 (by rw [e1, h3]) (by rw [e2, h4]) (ih1 hl fun k k1 k2 => e k k1 (by omega)) (ih2 (by omega) fun k k1 k2 => e k (by omega) k2)
section
variable {ds us ds2 us2 : List Nat} {x y : Nat}
theorem Tr.fw {l h : Nat} (t : Tr ds us l h) (up : us.getD (x - 1) 0 = y) (dn : ds.getD (x - 1) 0 = ds.getD (y - 1) 0) (u2 : ∀ i, us2.getD i 0 = if i = x - 1 then us.getD (y - 1) 0 else us.getD i 0) (d2 : ∀ i, ds2.getD i 0 = if i = y - 1 then x else ds.getD i 0) (xy : x < y) : 1 ≤ l → l ≤ x → y ≤ h → Tr ds2 us2 l h := by
  have cg : ∀ {l h : Nat}, Tr ds us l h → 1 ≤ l → (∀ k, l ≤ k → k ≤ h → k ≠ x ∧ k ≠ y) → 1 ≤ x → Tr ds2 us2 l h := fun t hl ne hx1 => t.congr hl fun k k1 k2 => by
    have := ne k k1 k2
    rw [u2, d2, if_neg (by omega), if_neg (by omega)]
    exact ⟨rfl, rfl⟩
  induction t with
  | nil g => intro _ _ _; exact .nil g
  | @node l h r h1 h2 h3 h4 ta tb iha ihb =>
    intro hl hx hy
    by_cases e : y = r
    · subst e
      obtain ⟨r', a1, a2, a3, a4, ta1, ta2, a5⟩ := ta.root hl (by omega)
      have ex : x = r' := (a5 x hx (by omega)).mp ⟨by rw [dn, h3], by omega⟩
      subst ex
      refine .node (r := x) (by omega) (by omega) ?_ ?_ (cg ta1 hl (fun k k1 k2 => by omega) (by omega)) (.node (r := y) (by omega) (by omega) ?_ ?_ (cg ta2 (by omega) (fun k k1 k2 => by omega) (by omega)) (cg tb (by omega) (fun k k1 k2 => by omega) (by omega)))
      · rw [d2, if_neg (by omega), a3]
      · rw [u2, if_pos rfl, h4]
      · rw [d2, if_pos rfl]; omega
      · rw [u2, if_neg (by omega), h4]
    · by_cases c : y < r
      · refine .node h1 h2 ?_ ?_ (iha hl hx (by omega)) (cg tb (by omega) (fun k k1 k2 => by omega) (by omega))
        · rw [d2, if_neg (by omega), h3]
        · rw [u2, if_neg (by omega), h4]
      · have lo := tb.low (k := y) (by omega) (by omega) hy
        have xr : r < x := by
          by_cases q : x ≤ r
          · exfalso
            by_cases q2 : x = r
            · subst q2; omega
            · have := ta.low (k := x) hl hx (by omega)
              omega
          · omega
        refine .node h1 h2 ?_ ?_ (cg ta hl (fun k k1 k2 => by omega) (by omega)) (ihb (by omega) (by omega) hy)
        · rw [d2, if_neg (by omega), h3]
        · rw [u2, if_neg (by omega), h4]
theorem Tr.bk {l h : Nat} (t : Tr ds2 us2 l h) (up : us.getD (x - 1) 0 = y) (dn : ds.getD (x - 1) 0 = ds.getD (y - 1) 0) (u2 : ∀ i, us2.getD i 0 = if i = x - 1 then us.getD (y - 1) 0 else us.getD i 0) (d2 : ∀ i, ds2.getD i 0 = if i = y - 1 then x else ds.getD i 0) (xy : x < y) : 1 ≤ l → l ≤ x → y ≤ h → Tr ds us l h := by
  have cg : ∀ {l h : Nat}, Tr ds2 us2 l h → 1 ≤ l → (∀ k, l ≤ k → k ≤ h → k ≠ x ∧ k ≠ y) → 1 ≤ x → Tr ds us l h := fun t hl ne hx1 => t.congr hl fun k k1 k2 => by
    have := ne k k1 k2
    rw [u2, d2, if_neg (by omega), if_neg (by omega)]
    exact ⟨rfl, rfl⟩
  induction t with
  | nil g => intro _ _ _; exact .nil g
  | @node l h r h1 h2 h3 h4 ta tb iha ihb =>
    intro hl hx hy
    have dx : ds2.getD (x - 1) 0 = ds.getD (x - 1) 0 := by rw [d2, if_neg (by omega)]
    have dy : ds2.getD (y - 1) 0 = x := by rw [d2, if_pos rfl]
    have ux : us2.getD (x - 1) 0 = us.getD (y - 1) 0 := by rw [u2, if_pos rfl]
    have uy : us2.getD (y - 1) 0 = us.getD (y - 1) 0 := by rw [u2, if_neg (by omega)]
    by_cases e : x = r
    · subst e
      obtain ⟨r', a1, a2, a3, a4, tb1, tb2, a5⟩ := tb.root (by omega) (by omega)
      have ey : y = r' := (a5 y (by omega) hy).mp ⟨by omega, by omega⟩
      subst ey
      refine .node (r := y) (by omega) hy ?_ ?_ (.node (r := x) hx (by omega) ?_ ?_ (cg ta hl (fun k k1 k2 => by omega) (by omega)) (cg tb1 (by omega) (fun k k1 k2 => by omega) (by omega))) (cg tb2 (by omega) (fun k k1 k2 => by omega) (by omega))
      · omega
      · omega
      · omega
      · omega
    · by_cases c : x < r
      · have lo := ta.low (k := x) hl hx (by omega)
        have yr : y < r := by
          have := (Tr.node h1 h2 h3 h4 ta tb).low (k := y) hl (by omega) hy
          omega
        refine .node h1 h2 ?_ ?_ (iha hl hx (by omega)) (cg tb (by omega) (fun k k1 k2 => by omega) (by omega))
        · rw [d2, if_neg (by omega)] at h3; exact h3
        · rw [u2, if_neg (by omega)] at h4; exact h4
      · refine .node h1 h2 ?_ ?_ (cg ta hl (fun k k1 k2 => by omega) (by omega)) (ihb (by omega) (by omega) hy)
        · rw [d2, if_neg (by omega)] at h3; exact h3
        · rw [u2, if_neg (by omega)] at h4; exact h4
end
theorem fw_tr {m : Nat} {ds us : List Nat} (ok : TrOk m ds us) {x y : Nat} (h : (x, y) ∈ fwL ds us) : TrOk m (ds.set (y - 1) x) (us.set (x - 1) (us.getD (y - 1) 0)) := by
  have f := (fw_pr ok.pr h).2
  refine ⟨by simpa using ok.pos, by simpa using ok.top, by simpa using ok.len, ?_⟩
  rw [List.length_set]
  exact ok.tr.fw f.up f.dn f.u2 f.d2 f.xy (by omega) f.hx f.hy
theorem bk_tr {m : Nat} {ds us : List Nat} (ok : TrOk m ds us) {x y : Nat} (h : (x, y) ∈ bkL ds us) : TrOk m (ds.set (y - 1) (ds.getD (x - 1) 0)) (us.set (x - 1) y) := by
  have f := (bk_pr ok.pr h).2
  refine ⟨by simpa using ok.pos, by simpa using ok.top, by simpa using ok.len, ?_⟩
  rw [List.length_set]
  exact ok.tr.bk f.up f.dn f.u2 f.d2 f.xy (by omega) f.hx f.hy
theorem Tr.plain {ds us : List Nat} {l h : Nat} (t : Tr ds us l h) : 1 ≤ l → (∀ x y, l ≤ x → x < y → y ≤ h → us.getD (x - 1) 0 = y → ds.getD (x - 1) 0 ≠ ds.getD (y - 1) 0) → ∀ k, l ≤ k → k ≤ h → ds.getD (k - 1) 0 = k - 1 ∧ us.getD (k - 1) 0 = h + 1 := by
  induction t with
  | nil g => intro _ _ k k1 k2; omega
  | @node l h r h1 h2 h3 h4 ta tb iha ihb =>
    intro hl hn k k1 k2
    have e : l = r := by
      by_cases c : l = r
      · exact c
      · exfalso
        obtain ⟨r', a1, a2, a3, a4, _⟩ := ta.root hl (by omega)
        exact hn r' r a1 (by omega) h2 (by omega) (by omega)
    subst e
    by_cases c : k = l
    · subst c; exact ⟨h3, h4⟩
    · exact ihb (by omega) (fun x y x1 xy y2 => hn x y (by omega) xy y2) k (by omega) k2
theorem natL_ext {a b : List Nat} (hl : a.length = b.length) (h : ∀ i, i < a.length → a.getD i 0 = b.getD i 0) : a = b := by
  refine List.ext_getElem hl fun i h1 h2 => ?_
  have := h i h1
  rw [List.getD_eq_getElem?_getD, List.getD_eq_getElem?_getD, List.getElem?_eq_getElem h1, List.getElem?_eq_getElem h2] at this
  exact this
theorem Fw.le {n : Nat} {ds us ds2 us2 : List Nat} {x y m : Nat} (f : Fw n ds us ds2 us2 x y) (ok : PrOk m ds us) : (∀ i, ds.getD i 0 ≤ ds2.getD i 0) ∧ (∀ i, us.getD i 0 ≤ us2.getD i 0) ∧ ds.getD (y - 1) 0 < ds2.getD (y - 1) 0 ∧ us.getD (x - 1) 0 < us2.getD (x - 1) 0 := by
  have h1 := f.ld
  have h2 := f.lu
  have h3 := f.hx
  have h4 := f.xy
  have h5 := f.hy
  have a := ok.dn (x - 1) (by omega)
  have b := ok.up (y - 1) (by omega)
  have e1 := f.dn
  have e2 := f.up
  refine ⟨fun i => ?_, fun i => ?_, ?_, ?_⟩
  · rw [f.d2]
    split
    · rename_i e; rw [e, ← e1]; omega
    · omega
  · rw [f.u2]
    split
    · rename_i e; rw [e]; omega
    · omega
  · rw [f.d2, if_pos rfl, ← e1]; omega
  · rw [f.u2, if_pos rfl]; omega
theorem sum_mono : ∀ {a b : List Nat}, a.length = b.length → (∀ i, a.getD i 0 ≤ b.getD i 0) → a.sum ≤ b.sum
  | [], [], _, _ => by simp
  | [], _ :: _, h, _ => by cases h
  | _ :: _, [], h, _ => by cases h
  | x :: a, y :: b, h, g => by
    have h0 := g 0
    have := sum_mono (a := a) (b := b) (by simpa using h) fun i => by have := g (i + 1); simpa using this
    simp only [List.getD_cons_zero] at h0
    simp only [List.sum_cons]
    omega
theorem sum_lt : ∀ {a b : List Nat} {k : Nat}, a.length = b.length → (∀ i, a.getD i 0 ≤ b.getD i 0) → a.getD k 0 < b.getD k 0 → a.sum < b.sum
  | [], [], k, _, _, h => by simp at h
  | [], _ :: _, _, h, _, _ => by cases h
  | _ :: _, [], _, h, _, _ => by cases h
  | x :: a, y :: b, 0, h, g, l => by
    have := sum_mono (a := a) (b := b) (by simpa using h) fun i => by have := g (i + 1); simpa using this
    simp only [List.getD_cons_zero] at l
    simp only [List.sum_cons]
    omega
  | x :: a, y :: b, k + 1, h, g, l => by
    have h0 := g 0
    have := sum_lt (a := a) (b := b) (k := k) (by simpa using h) (fun i => by have := g (i + 1); simpa using this) (by simpa using l)
    simp only [List.getD_cons_zero] at h0
    simp only [List.sum_cons]
    omega
theorem Fw.sum {n : Nat} {ds us ds2 us2 : List Nat} {x y m : Nat} (f : Fw n ds us ds2 us2 x y) (ok : PrOk m ds us) : ds.sum + us.sum + 2 ≤ ds2.sum + us2.sum := by
  obtain ⟨a, b, c, d⟩ := f.le ok
  have h1 := f.ld
  have h2 := f.lu
  have := sum_lt (by omega) a c
  have := sum_lt (by omega) b d
  omega
end VC

namespace VC
open PySem PySem.Spec PyProof.Rows L2

section
variable {m n : Nat} {ds us ds2 us2 : List Nat}
end
end VC

namespace VC
open PySem PySem.Spec PyProof.Rows L2

section
variable {m : Nat} {ds us ds2 us2 : List Nat}
end

def decNs : List PV → Option (List Nat)
  | [] => some []
  | .int (.ofNat n) :: xs => (decNs xs).map (n :: ·)
  | _ => none
def decN : PV → Option (List Nat)
  | .nod .lst false xs => decNs xs
  | _ => none
def decPr : PV → Option (List Nat × List Nat)
  | .nod .tup false [a, b] => match decN a, decN b with
    | some x, some y => some (x, y)
    | _, _ => none
  | _ => none
def decPrs : List PV → Option (List (List Nat × List Nat))
  | [] => some []
  | x :: xs => match decPr x, decPrs xs with
    | some t, some ts => some (t :: ts)
    | _, _ => none
theorem decNs_ok : ∀ {xs : List PV} {ns : List Nat}, decNs xs = some ns → xs = ns.map fun (n : Nat) => PV.int (n : Int)
  | [], ns, h => by cases h; rfl
  | .int (.ofNat n) :: xs, ns, h => by
    rw [decNs] at h
    cases e : decNs xs with
    | none => rw [e] at h; cases h
    | some ms => rw [e] at h; cases h; rw [decNs_ok e]; rfl
  | .int (.negSucc n) :: xs, ns, h => by simp [decNs] at h
  | .non :: _, _, h => by simp [decNs] at h
  | .bl _ :: _, _, h => by simp [decNs] at h
  | .str _ :: _, _, h => by simp [decNs] at h
  | .nod _ _ _ :: _, _, h => by simp [decNs] at h
theorem decN_ok {x : PV} {ns : List Nat} (h : decN x = some ns) : x = nv false ns := by
  unfold decN at h
  split at h
  · rw [decNs_ok h]; rfl
  · cases h
theorem decPr_ok {x : PV} {t : List Nat × List Nat} (h : decPr x = some t) : x = prv false t.1 t.2 := by
  unfold decPr at h
  split at h
  · split at h
    · rename_i h1 h2
      cases h
      rw [decN_ok h1, decN_ok h2]; rfl
    · cases h
  · cases h
theorem decPrs_ok : ∀ {xs : List PV} {ts : List (List Nat × List Nat)}, decPrs xs = some ts → xs = ts.map fun t => prv false t.1 t.2
  | [], ts, h => by cases h; rfl
  | x :: xs, ts, h => by
    rw [decPrs] at h
    split at h
    · rename_i t ts' h1 h2
      cases h
      rw [decPr_ok h1, decPrs_ok h2]; rfl
    · cases h
end VC

namespace VC
open PySem PySem.Spec PyProof.Rows L2

section
variable {m : Nat} {ds us : List Nat}
end
end VC

namespace VC
open PySem PySem.Spec PyProof.Rows L2

section
variable {m : Nat} {ds us : List Nat}
end
end VC

namespace VC
open PySem PySem.Spec PyProof.Rows L2
theorem set_range {α : Type} (f : Nat → α) (n o : Nat) (v : α) : ((List.range n).map f).set o v = (List.range n).map fun x => if x = o then v else f x := by
  refine List.ext_getElem? fun j => ?_
  rw [List.getElem?_set, List.getElem?_map, List.getElem?_map]
  by_cases h : j < n
  · rw [List.getElem?_range h]
    by_cases e : o = j
    · subst e; simp [h]
    · rw [if_neg e, Option.map_some, Option.map_some, if_neg (fun z => e z.symm)]
  · rw [List.getElem?_eq_none (by simp; omega)]
    by_cases e : o = j
    · subst e; simp [h]
    · rw [if_neg e]; rfl
theorem getD_range (f : Nat → Nat) {n i : Nat} (h : i < n) : ((List.range n).map f).getD i 0 = f i := by
  rw [List.getD_eq_getElem?_getD, List.getElem?_map, List.getElem?_range h]; rfl
theorem mem_cut {ns : List Nat} {a b x : Nat} (hb : b ≤ ns.length) : x ∈ (ns.drop a).take (b - a) ↔ ∃ q, a ≤ q ∧ q < b ∧ ns.getD q 0 = x := by
  constructor
  · intro h
    obtain ⟨i, hi, e⟩ := List.getElem_of_mem h
    rw [List.getElem_take, List.getElem_drop] at e
    rw [List.length_take, List.length_drop] at hi
    refine ⟨a + i, by omega, by omega, ?_⟩
    rw [List.getD_eq_getElem?_getD, List.getElem?_eq_getElem (show a + i < ns.length by omega)]
    exact e
  · rintro ⟨q, h1, h2, e⟩
    refine List.mem_iff_getElem?.mpr ⟨q - a, ?_⟩
    rw [List.getElem?_take, if_pos (by omega), List.getElem?_drop, show a + (q - a) = q by omega, List.getElem?_eq_getElem (show q < ns.length by omega)]
    rw [List.getD_eq_getElem?_getD, List.getElem?_eq_getElem (show q < ns.length by omega)] at e
    exact congrArg some e
def mixU (ds : List Nat) (i o : Nat) : List Nat := (List.range ds.length).map fun x => if x < o then upTo ds (i + 1) x else upTo ds i x
theorem mixU_zero (ds : List Nat) (i : Nat) : mixU ds i 0 = upsL ds i := by
  unfold mixU upsL
  exact List.map_congr_left fun x _ => if_neg (by omega)
theorem mixU_all (ds : List Nat) (i : Nat) : mixU ds i i = upsL ds (i + 1) := by
  unfold mixU upsL
  refine List.map_congr_left fun x _ => ?_
  by_cases h : x < i
  · rw [if_pos h]
  · rw [if_neg h]
    show upTo ds i x = if _ then _ else _
    rw [if_neg (by omega)]
theorem mixU_yes {ds : List Nat} {i o : Nat} (h : o < i) (h1 : ds.getD i 0 ≤ o) (h2 : ds.length < upTo ds i o) : (mixU ds i o).set o (i + 1) = mixU ds i (o + 1) := by
  unfold mixU
  rw [set_range]
  refine List.map_congr_left fun x _ => ?_
  by_cases e : x = o
  · subst e
    rw [if_pos rfl, if_pos (by omega)]
    show i + 1 = if _ then _ else _
    rw [if_pos ⟨h, h1, h2⟩]
  · rw [if_neg e]
    by_cases hx : x < o
    · rw [if_pos hx, if_pos (by omega)]
    · rw [if_neg hx, if_neg (by omega)]
theorem mixU_no {ds : List Nat} {i o : Nat} (h : ¬ (ds.getD i 0 ≤ o ∧ ds.length < upTo ds i o)) : mixU ds i o = mixU ds i (o + 1) := by
  unfold mixU
  refine List.map_congr_left fun x _ => ?_
  by_cases e : x = o
  · subst e
    rw [if_neg (by omega), if_pos (by omega)]
    show upTo ds i x = if _ then _ else _
    rw [if_neg (fun z => h z.2)]
  · by_cases hx : x < o
    · rw [if_pos hx, if_pos (by omega)]
    · rw [if_neg hx, if_neg (by omega)]
theorem upTo_le (ds : List Nat) (o : Nat) : ∀ i, i ≤ ds.length → upTo ds i o ≤ ds.length + 1 := by
  intro i hi
  rcases upTo_spec (ds := ds) (o := o) i hi with ⟨e, _⟩ | ⟨p, e, _⟩ <;> omega
theorem cut_eq {ns : List Nat} {a b : Nat} (ha : a ≤ ns.length) (hb : b ≤ ns.length) : cutP ns (some (a : Int)) (some (b : Int)) = (ns.drop a).take (b - a) := by
  unfold cutP
  rw [HT.sIx_nat, HT.sIx_nat, Nat.min_eq_left ha, Nat.min_eq_left hb]
end VC

namespace VC
open PySem PySem.Spec PyProof.Rows L2
end VC

namespace VC
open PySem PySem.Spec PyProof.Rows L2
def chkQ (n : Nat) (t : List Nat × List Nat) : Bool := decide (t.1.length = n) && decide (t.2.length = n) && (List.range n).all fun i => decide (t.1.getD i 0 ≤ i) && decide (i + 2 ≤ t.2.getD i 0) && decide (t.2.getD i 0 ≤ n + 1)
theorem chkQ_ok {n : Nat} {t : List Nat × List Nat} (hn : 1 ≤ n ∧ n ≤ 16) (h : chkQ n t = true) : PrOk 16 t.1 t.2 ∧ t.1.length = n := by
  simp only [chkQ, Bool.and_eq_true, decide_eq_true_eq] at h
  obtain ⟨⟨h1, h2⟩, h3⟩ := h
  have h3 := List.all_eq_true.mp h3
  refine ⟨⟨by omega, by omega, by omega, fun i hi => ?_, fun i hi => ?_⟩, h1⟩
  · have := h3 i (List.mem_range.mpr (by omega))
    simp only [Bool.and_eq_true, decide_eq_true_eq] at this
    exact this.1.1
  · have := h3 i (List.mem_range.mpr (by omega))
    simp only [Bool.and_eq_true, decide_eq_true_eq] at this
    exact ⟨this.1.2, by omega⟩
def okQ (n m : Nat) : Option (Rx PV × List (Option PV)) → Bool
  | some (.ok (.nod .lst true xs), []) => match decPrs xs with
    | some ts => decide (ts.length = m) && ts.all (chkQ n)
    | none => false
  | _ => false
theorem okQ_ok {n m : Nat} (hn : 1 ≤ n ∧ n ≤ 16) {r : Option (Rx PV × List (Option PV))} (h : okQ n m r = true) : ∃ ts : List (List Nat × List Nat), r = some (.ok (LL true (ts.map fun t => prv false t.1 t.2)), []) ∧ ts.length = m ∧ ∀ t, t ∈ ts → PrOk 16 t.1 t.2 ∧ t.1.length = n := by
  unfold okQ at h
  split at h
  · split at h
    · rename_i ts e
      simp only [Bool.and_eq_true, decide_eq_true_eq] at h
      refine ⟨ts, by rw [decPrs_ok e], h.1, fun t ht => chkQ_ok hn ((List.all_eq_true.mp h.2) t ht)⟩
    · cases h
  · cases h
def isI (n : Int) : Option (Rx PV) → Bool
  | some (.ok (.int m)) => decide (m = n)
  | _ => false
theorem isI_ok {n : Int} {r : Option (Rx PV)} (h : isI n r = true) : r = some (.ok (.int n)) := by
  unfold isI at h
  split at h
  · rw [of_decide_eq_true h]
  · cases h
def pvs (t : Bool) (ts : List (List Nat × List Nat)) : PV := LL t (ts.map fun t => prv false t.1 t.2)
theorem shs_pvs (ts : List (List Nat × List Nat)) : shs (ts.map fun t => prv false t.1 t.2) = ts.map fun t => prv false t.1 t.2 := by
  rw [shs_eq, List.map_map]
  exact List.map_congr_left fun t _ => sh_prv
theorem sh_pvs {t : Bool} {ts : List (List Nat × List Nat)} : sh (pvs t ts) = pvs false ts := by
  show PV.nod .lst false (shs _) = _
  rw [shs_pvs]; rfl
theorem compX_none {f : Itm → PSt → Option (Option PV × PSt)} {its : List Itm} {σ : PSt} {PX : List PV → PSt → Prop} (W : PSt → Prop) (h0 : W σ) (turn : ∀ itm, itm ∈ its → ∀ σ, W σ → ∃ σ1, f itm σ = some (none, σ1) ∧ W σ1) (done : ∀ σ, W σ → PX [] σ) : ∃ ps σ2, compX f its σ = some (.ok ps, σ2) ∧ PX ps σ2 := by
  obtain ⟨ps, σ2, h1, rfl, h2⟩ := compX_by (f := f) (its := its) (σ := σ) (fun i ps σ => ps = [] ∧ W σ) ⟨rfl, h0⟩ (by
    rintro i itm acc σ hi ⟨rfl, hw⟩
    obtain ⟨σ1, h1, h2⟩ := turn itm (List.mem_of_getElem? hi) σ hw
    exact ⟨none, σ1, h1, rfl, h2⟩)
  exact ⟨_, _, h1, done _ h2⟩
theorem cmX_no {c : PCn} {e : Ex} {tg : Tg} {cs : Cd} {own : List Nat} {i : Itm} {σ σ1 : PSt} {R : PSt → Prop} (hb : bndT tg i (dropF own 0 σ) = some σ1) (q : Xc c cs σ1 fun b σ => b = false ∧ R σ) : ∃ σ', cmX c e tg cs own i σ = some (none, σ') ∧ R σ' := by
  obtain ⟨p, σ2, h, rfl, q⟩ := q
  refine ⟨σ2, ?_, q⟩
  unfold cmX
  rw [hb]
  dsimp only
  rw [h]
theorem pick_mem {α : Type} {xs : List α} {lo hi st : Option Int} {x : α} (h : x ∈ pickA xs lo hi st) : x ∈ xs := by
  unfold pickA at h
  obtain ⟨i, _, e⟩ := List.mem_filterMap.mp h
  exact List.mem_of_getElem? e
end VC

namespace VC
open PySem PySem.Spec PyProof.Rows L2
def dnTo (us : List Nat) (i : Nat) : Nat → Nat
  | 0 => 0
  | o + 1 => if i + 1 < us.getD o 0 then o + 1 else dnTo us i o
def downsL (us : List Nat) (n : Nat) : List Nat := (List.range n).map fun i => dnTo us i i
def nestUAt (us : List Nat) (i : Nat) : Prop := ∀ q, i < q → q + 1 < us.getD i 0 → us.getD q 0 ≤ us.getD i 0
def NestU (us : List Nat) : Prop := ∀ i, i < us.length → nestUAt us i
theorem dnTo_spec {us : List Nat} {i : Nat} : ∀ o, (dnTo us i o = 0 ∧ ∀ q, q < o → us.getD q 0 ≤ i + 1) ∨ (∃ p, dnTo us i o = p + 1 ∧ p < o ∧ i + 1 < us.getD p 0 ∧ ∀ q, p < q → q < o → us.getD q 0 ≤ i + 1)
  | 0 => .inl ⟨rfl, fun q hq => by omega⟩
  | o + 1 => by
    unfold dnTo
    by_cases c : i + 1 < us.getD o 0
    · rw [if_pos c]
      exact .inr ⟨o, rfl, by omega, c, fun q h1 h2 => by omega⟩
    · rw [if_neg c]
      rcases dnTo_spec (us := us) (i := i) o with ⟨e, h⟩ | ⟨p, e, h1, h2, h3⟩
      · refine .inl ⟨e, fun q hq => ?_⟩
        by_cases z : q = o
        · rw [z]; omega
        · exact h q (by omega)
      · refine .inr ⟨p, e, by omega, h2, fun q hq hq2 => ?_⟩
        by_cases z : q = o
        · rw [z]; omega
        · exact h3 q hq (by omega)
theorem dnTo_le (us : List Nat) (i o : Nat) : dnTo us i o ≤ o := by
  rcases dnTo_spec (us := us) (i := i) o with ⟨e, _⟩ | ⟨p, e, h, _⟩ <;> omega
theorem downs_len (us : List Nat) (n : Nat) : (downsL us n).length = n := by simp [downsL]
theorem downs_get {us : List Nat} {n i : Nat} (h : i < n) : (downsL us n).getD i 0 = dnTo us i i := getD_range (fun i => dnTo us i i) h
theorem downs_ok (us : List Nat) (n : Nat) : DnOk (downsL us n) := fun i hi => by
  rw [downs_len] at hi
  rw [downs_get hi]; exact dnTo_le us i i
theorem ups_len (ds : List Nat) (n : Nat) : (upsL ds n).length = ds.length := by simp [upsL]
theorem ups_get {ds : List Nat} {n i : Nat} (h : i < ds.length) : (upsL ds n).getD i 0 = upTo ds n i := getD_range (upTo ds n) h
theorem ups_ok (ds : List Nat) : UpOk (upsL ds ds.length) := fun i hi => by
  rw [ups_len] at hi
  rw [ups_get hi, ups_len]
  rcases upTo_spec (ds := ds) (o := i) ds.length (Nat.le_refl _) with ⟨e, _⟩ | ⟨p, e, h1, h2, _⟩ <;> omega
section
variable {m : Nat} {ds us : List Nat}
theorem ups_pr (h : 1 ≤ ds.length ∧ ds.length ≤ m) (ok : DnOk ds) : PrOk m ds (upsL ds ds.length) := ⟨h.1, h.2, ups_len _ _, ok, ups_ok ds⟩
theorem downs_pr (h : 1 ≤ us.length ∧ us.length ≤ m) (ok : UpOk us) : PrOk m (downsL us us.length) us := ⟨by rw [downs_len]; exact h.1, by rw [downs_len]; exact h.2, (downs_len _ _).symm, downs_ok _ _, ok⟩
theorem right_downs (ok : PrOk m ds us) (r : Right ds us) : NestU us ∧ ds = downsL us us.length := by
  have hl := ok.len
  obtain ⟨hN, hu⟩ := (right_iff ok).mpr r
  have gu : ∀ o, o < ds.length → us.getD o 0 = upTo ds ds.length o := fun o ho => by
    conv => lhs; rw [hu]
    exact ups_get ho
  refine ⟨fun i hi q h1 h2 => ?_, ?_⟩
  · have hq := ok.up i hi
    have g1 := gu i (by omega)
    have g2 := gu q (by omega)
    rcases upTo_spec (ds := ds) (o := i) ds.length (Nat.le_refl _) with ⟨e, _⟩ | ⟨p, e, a1, a2, a3, a4⟩
    · have := ok.up q (by omega); omega
    · rcases upTo_spec (ds := ds) (o := q) ds.length (Nat.le_refl _) with ⟨e2, b1⟩ | ⟨p2, e2, b1, b2, b3, b4⟩
      · have := b1 p (by omega) a2; omega
      · by_cases c : p2 ≤ p
        · omega
        · have := b4 p (by omega) (by omega); omega
  · refine natL_ext (by rw [downs_len]; omega) fun i hi => ?_
    rw [downs_get (by omega)]
    have hd := ok.dn i hi
    have hn := hN i hi
    rcases dnTo_spec (us := us) (i := i) i with ⟨e, h⟩ | ⟨p, e, h1, h2, h3⟩
    · rw [e]
      refine Decidable.byContradiction fun z => ?_
      have g := gu (ds.getD i 0 - 1) (by omega)
      have hh := h (ds.getD i 0 - 1) (by omega)
      rcases upTo_spec (ds := ds) (o := ds.getD i 0 - 1) ds.length (Nat.le_refl _) with ⟨e2, b1⟩ | ⟨p2, e2, b1, b2, b3, b4⟩
      · omega
      · have c : p2 ≤ i := by omega
        by_cases c2 : p2 = i
        · subst c2; omega
        · have := hn p2 (by omega) (by omega); omega
    · rw [e]
      have g := gu p (by omega)
      have c1 : p + 1 ≤ ds.getD i 0 := by
        rcases upTo_spec (ds := ds) (o := p) ds.length (Nat.le_refl _) with ⟨e2, b1⟩ | ⟨p2, e2, b1, b2, b3, b4⟩
        · exact b1 i (by omega) hi
        · exact b4 i (by omega) (by omega)
      refine Decidable.byContradiction fun z => ?_
      have hh := h3 (ds.getD i 0 - 1) (by omega) (by omega)
      have g := gu (ds.getD i 0 - 1) (by omega)
      rcases upTo_spec (ds := ds) (o := ds.getD i 0 - 1) ds.length (Nat.le_refl _) with ⟨e2, b1⟩ | ⟨p2, e2, b1, b2, b3, b4⟩
      · omega
      · by_cases c2 : p2 = i
        · subst c2; omega
        · have := hn p2 (by omega) (by omega); omega
theorem downs_right (ok : PrOk m ds us) (hN : NestU us) (hd : ds = downsL us us.length) : Right ds us := by
  have hl := ok.len
  have gd : ∀ i, i < ds.length → ds.getD i 0 = dnTo us i i := fun i hi => by
    conv => lhs; rw [hd]
    exact downs_get (by omega)
  refine (right_iff ok).mp ⟨fun i hi q h1 h2 => ?_, ?_⟩
  · rw [gd i hi] at h1 ⊢
    rw [gd q (by omega)]
    rcases dnTo_spec (us := us) (i := i) i with ⟨e, h⟩ | ⟨p, e, a1, a2, a3⟩
    · omega
    · rcases dnTo_spec (us := us) (i := q) q with ⟨e2, h⟩ | ⟨p2, e2, b1, b2, b3⟩
      · have := h p (by omega); omega
      · by_cases c : p ≤ p2
        · omega
        · have := b3 p (by omega) (by omega); omega
  · refine natL_ext (by rw [ups_len]; omega) fun o ho => ?_
    rw [ups_get (by omega)]
    have hu := ok.up o ho
    have low : ∀ p, o < p → p + 1 < us.getD o 0 → o < ds.getD p 0 := fun p h1 h2 => by
      rw [gd p (by omega)]
      rcases dnTo_spec (us := us) (i := p) p with ⟨e2, h⟩ | ⟨p2, e2, b1, b2, b3⟩
      · have := h o h1; omega
      · by_cases c : o ≤ p2
        · omega
        · have := b3 o (by omega) (by omega); omega
    have top : us.getD o 0 ≤ us.length → ds.getD (us.getD o 0 - 1) 0 ≤ o := fun hu2 => by
      rw [gd _ (by omega)]
      rcases dnTo_spec (us := us) (i := us.getD o 0 - 1) (us.getD o 0 - 1) with ⟨e2, h⟩ | ⟨p2, e2, b1, b2, b3⟩
      · omega
      · refine Decidable.byContradiction fun z => ?_
        by_cases c : p2 = o
        · subst c; omega
        · have := hN o ho p2 (by omega) (by omega)
          omega
    rcases upTo_spec (ds := ds) (o := o) ds.length (Nat.le_refl _) with ⟨e2, b1⟩ | ⟨p2, e2, b1, b2, b3, b4⟩
    · rw [e2]
      refine Decidable.byContradiction fun z => ?_
      have t := top (by omega)
      have := b1 (us.getD o 0 - 1) (by omega) (by omega)
      omega
    · rw [e2]
      refine Decidable.byContradiction fun z => ?_
      by_cases c : p2 + 1 < us.getD o 0
      · have := low p2 b1 c; omega
      · have t := top (by omega)
        have := b4 (us.getD o 0 - 1) (by omega) (by omega)
        omega
theorem dn_is {i v : Nat} (h1 : v = 0 ∨ (1 ≤ v ∧ v ≤ i ∧ i + 1 < us.getD (v - 1) 0)) (h2 : ∀ w, 1 ≤ w → w ≤ i → i + 1 < us.getD (w - 1) 0 → w ≤ v) : v = dnTo us i i := by
  rcases dnTo_spec (us := us) (i := i) i with ⟨e, h⟩ | ⟨p, e, a1, a2, a3⟩
  · rw [e]
    rcases h1 with z | ⟨z1, z2, z3⟩
    · exact z
    · have := h (v - 1) (by omega); omega
  · rw [e]
    have := h2 (p + 1) (by omega) (by omega) (by rw [Nat.add_sub_cancel]; exact a2)
    rcases h1 with z | ⟨z1, z2, z3⟩
    · omega
    · refine Decidable.byContradiction fun c => ?_
      have := a3 (v - 1) (by omega) (by omega); omega
theorem up_is {o v : Nat} (ho : o < ds.length) (h1 : v = ds.length + 1 ∨ (o + 2 ≤ v ∧ v ≤ ds.length ∧ ds.getD (v - 1) 0 ≤ o)) (h2 : ∀ w, o + 2 ≤ w → w ≤ ds.length → ds.getD (w - 1) 0 ≤ o → v ≤ w) : v = upTo ds ds.length o := by
  rcases upTo_spec (ds := ds) (o := o) ds.length (Nat.le_refl _) with ⟨e, h⟩ | ⟨p, e, a1, a2, a3, a4⟩
  · rw [e]
    rcases h1 with z | ⟨z1, z2, z3⟩
    · exact z
    · have := h (v - 1) (by omega) (by omega); omega
  · rw [e]
    have := h2 (p + 1) (by omega) (by omega) (by rw [Nat.add_sub_cancel]; exact a3)
    rcases h1 with z | ⟨z1, z2, z3⟩
    · omega
    · refine Decidable.byContradiction fun c => ?_
      have := a4 (v - 1) (by omega) (by omega); omega
theorem last_dn {i : Nat} : ∃ xs, [0] ++ (List.range' 1 i).filter (fun m => decide (i + 1 < us.getD (m - 1) 0)) = xs ++ [dnTo us i i] := by
  have hs : ([0] ++ (List.range' 1 i).filter (fun m => decide (i + 1 < us.getD (m - 1) 0))).Pairwise (· < ·) := by
    refine List.pairwise_append.mpr ⟨List.pairwise_singleton _ _, List.Pairwise.filter _ List.pairwise_lt_range', fun a ha b hb => ?_⟩
    have := List.mem_singleton.mp ha
    have := (List.mem_range'_1.mp (List.mem_filter.mp hb).1).1
    omega
  have hm : ∀ w, w ∈ [0] ++ (List.range' 1 i).filter (fun m => decide (i + 1 < us.getD (m - 1) 0)) ↔ w = 0 ∨ (1 ≤ w ∧ w ≤ i ∧ i + 1 < us.getD (w - 1) 0) := fun w => by
    rw [List.mem_append, List.mem_singleton, List.mem_filter, List.mem_range'_1, decide_eq_true_eq]
    constructor
    · rintro (z | ⟨z1, z2⟩)
      · exact .inl z
      · exact .inr ⟨z1.1, by omega, z2⟩
    · rintro (z | ⟨z1, z2, z3⟩)
      · exact .inl z
      · exact .inr ⟨⟨z1, by omega⟩, z3⟩
  have hne : [0] ++ (List.range' 1 i).filter (fun m => decide (i + 1 < us.getD (m - 1) 0)) ≠ [] := by simp
  generalize [0] ++ (List.range' 1 i).filter (fun m => decide (i + 1 < us.getD (m - 1) 0)) = l at hs hm hne
  refine ⟨l.dropLast, ?_⟩
  have e := List.dropLast_concat_getLast hne
  rw [← dn_is (v := l.getLast hne) ((hm _).mp (List.getLast_mem hne)) fun w w1 w2 w3 => ?_, e]
  have hw := (hm w).mpr (.inr ⟨w1, w2, w3⟩)
  rw [← e] at hw hs
  rcases List.mem_append.mp hw with z | z
  · exact Nat.le_of_lt ((List.pairwise_append.mp hs).2.2 w z _ (List.mem_singleton.mpr rfl))
  · exact Nat.le_of_eq (List.mem_singleton.mp z)
theorem first_up {o : Nat} (ho : o < ds.length) : ∃ xs, (List.range' (o + 2) (ds.length + 1 - (o + 2))).filter (fun m => decide (ds.getD (m - 1) 0 < o + 1)) ++ [ds.length + 1] = upTo ds ds.length o :: xs := by
  have hs : ((List.range' (o + 2) (ds.length + 1 - (o + 2))).filter (fun m => decide (ds.getD (m - 1) 0 < o + 1)) ++ [ds.length + 1]).Pairwise (· < ·) := by
    refine List.pairwise_append.mpr ⟨List.Pairwise.filter _ List.pairwise_lt_range', List.pairwise_singleton _ _, fun a ha b hb => ?_⟩
    have := List.mem_singleton.mp hb
    have := (List.mem_range'_1.mp (List.mem_filter.mp ha).1).2
    omega
  have hm : ∀ w, w ∈ (List.range' (o + 2) (ds.length + 1 - (o + 2))).filter (fun m => decide (ds.getD (m - 1) 0 < o + 1)) ++ [ds.length + 1] ↔ w = ds.length + 1 ∨ (o + 2 ≤ w ∧ w ≤ ds.length ∧ ds.getD (w - 1) 0 ≤ o) := fun w => by
    rw [List.mem_append, List.mem_singleton, List.mem_filter, List.mem_range'_1, decide_eq_true_eq]
    constructor
    · rintro (⟨z1, z2⟩ | z)
      · exact .inr ⟨z1.1, by omega, by omega⟩
      · exact .inl z
    · rintro (z | ⟨z1, z2, z3⟩)
      · exact .inr z
      · exact .inl ⟨⟨z1, by omega⟩, by omega⟩
  have hne : (List.range' (o + 2) (ds.length + 1 - (o + 2))).filter (fun m => decide (ds.getD (m - 1) 0 < o + 1)) ++ [ds.length + 1] ≠ [] := by simp
  generalize (List.range' (o + 2) (ds.length + 1 - (o + 2))).filter (fun m => decide (ds.getD (m - 1) 0 < o + 1)) ++ [ds.length + 1] = l at hs hm hne
  cases l with
  | nil => exact absurd rfl hne
  | cons v l =>
    refine ⟨l, ?_⟩
    rw [← up_is (v := v) ho ((hm v).mp (List.mem_cons_self ..)) fun w w1 w2 w3 => ?_]
    rcases List.mem_cons.mp ((hm w).mpr (.inr ⟨w1, w2, w3⟩)) with z | z
    · exact Nat.le_of_eq z.symm
    · exact Nat.le_of_lt ((List.pairwise_cons.mp hs).1 w z)
theorem right_iffU (ok : PrOk m ds us) : (NestU us ∧ ds = downsL us us.length) ↔ Right ds us := ⟨fun h => downs_right ok h.1 h.2, right_downs ok⟩
end
end VC

namespace VC
open PySem PySem.Spec PyProof.Rows L2
local macro_rules | `(tactic| walk_at "shs") => `(tactic| first | (simp only [tkP_t, tkP_f, tkP_n, List.drop_succ_cons, List.drop_zero, List.drop_nil, sh_sh, sh_int, sh_bl, sh_str, sh_non, sh_nv, sh_zv, sh_prv, sh_sv, sh_dv, sh_LL, sh_TT, shs_cons, shs_nil, shs_nats, shs_ints]; done) | (simp only [tkP_t, tkP_f, tkP_n, List.drop_succ_cons, List.drop_zero, List.drop_nil, sh_sh, sh_int, sh_bl, sh_str, sh_non, sh_nv, sh_zv, sh_prv, sh_sv, sh_dv, sh_LL, sh_TT, shs_cons, shs_nil, shs_nats, shs_ints]; exact rfl) | exact rfl)
local macro_rules | `(tactic| walk_at "sh") => `(tactic| first
  | exact sh_int | exact sh_nv | exact sh_sv | exact sh_prv | exact sh_zv | exact sh_dv | exact sh_bl | exact sh_str | exact sh_non
  | (simp only [sh_sh, sh_int, sh_bl, sh_str, sh_non, sh_nv, sh_zv, sh_prv, sh_LL, sh_TT, shs_cons, shs_nil, shs_nats, shs_ints]; done) | exact rfl)
local macro_rules | `(tactic| walk_at "cl") => `(tactic| first
  | exact rfl | exact cln_nv | exact cln_sv | exact cln_prv | exact cln_zv
  | (simp only [cln_TT, cln_LL, clns, cln, cln_nv, cln_prv, cln_zv, clns_nats, clns_ints, Bool.and_true, Bool.true_and, Bool.and_self, Bool.false_and]; done)
  | (simp [cln_TT, cln_LL, clns, cln, cln_nv, cln_prv, cln_zv, clns_nats, clns_ints]; done))
local macro_rules | `(tactic| walk_at "v0") => `(tactic| simp only [List.map_cons, List.map_nil, List.length_cons, List.length_nil, List.cons_append, List.nil_append, Nat.reduceAdd, Nat.reduceSub, List.reduceReplicate])
local macro_rules | `(tactic| walk_at "v1") => `(tactic| first
  | ((with_reducible refine' v_varS ?k1 ?k2 ?_); (case k1 => exact rfl); (case k2 => walk_at "sh"))
  | (with_reducible refine v_int ?_) | (with_reducible refine v_bool ?_) | (with_reducible refine v_none ?_) | (with_reducible refine v_str ?_) | ((with_reducible refine' v_glbI ?k1 ?_); (case k1 => exact rfl))
  | (with_reducible refine v_bin ?_) | (with_reducible refine v_cmp ?_) | (with_reducible refine v_and ?_) | (with_reducible refine v_or ?_) | (with_reducible refine v_not ?_) | (with_reducible refine v_ite ?_) | (with_reducible refine v_chn ?_)
  | (with_reducible refine v_tup ?_) | (with_reducible refine v_lst ?_) | (with_reducible refine v_idx ?_) | (with_reducible refine v_callI ?_) | (with_reducible refine v_blt ?_) | (with_reducible refine v_isi ?_) | (with_reducible refine v_comp ?_) | (with_reducible refine v_us ?_)
  | (with_reducible refine v_sl0 ?_) | (with_reducible refine v_sl1 ?_) | (with_reducible refine v_sl2 ?_)
  | (with_reducible refine vs_nil ?_) | (with_reducible refine vs_cons ?_)
  | (with_reducible refine ob_add ?_) | (with_reducible refine ob_sub ?_) | ((with_reducible refine' ob_mod ?k1 ?_); (case k1 => omega)) | ((with_reducible refine' ob_fdiv ?k1 ?_); (case k1 => omega)) | ((with_reducible refine' ob_mul ?k1 ?k2 ?_); (case k1 => omega); (case k2 => omega))
  | ((with_reducible refine' ob_catN ?k1 ?_); (case k1 => first | omega | (simp; omega)))
  | (with_reducible refine oc_lt ?_) | (with_reducible refine oc_le ?_) | (with_reducible refine oc_gt ?_) | (with_reducible refine oc_ge ?_) | (with_reducible refine oc_eqI ?_) | (with_reducible refine oc_neI ?_) | (with_reducible refine oc_eqS ?_) | (with_reducible refine oc_neS ?_) | (with_reducible refine oc_eqB ?_) | (with_reducible refine oc_neB ?_)
  | (with_reducible refine oc_inN ?_) | (with_reducible refine oc_ninN ?_)
  | ((with_reducible refine' oi_nv ?k1 ?k2 ?_); (case k1 => omega); (case k2 => omega)) | ((with_reducible refine' oi_zv ?k1 ?k2 ?_); (case k1 => omega); (case k2 => omega)) | (with_reducible refine oi_pr0 ?_) | (with_reducible refine oi_pr1 ?_) | (with_reducible refine oi_dv0 ?_) | (with_reducible refine oi_dv1 ?_) | (with_reducible refine oi_dv2 ?_)
  | (with_reducible refine of_lenN ?_) | (with_reducible refine of_lenZ ?_) | (with_reducible refine of_lenP ?_) | (with_reducible refine of_len ?_) | (with_reducible refine of_lenT ?_) | (with_reducible refine of_int ?_) | (with_reducible refine of_intB ?_) | (with_reducible refine of_listN ?_) | (with_reducible refine of_listZ ?_) | (with_reducible refine of_sumZ ?_)
  | (with_reducible refine ol_nv ?_)
  | (with_reducible refine vt_us ?_) | (with_reducible refine vt_val ?_) | (with_reducible refine vt_cmp ?_) | (with_reducible refine vt_chn ?_) | (with_reducible refine vt_not ?_) | (with_reducible refine vt_and ?_) | (with_reducible refine vt_or ?_) | (with_reducible refine vd_no ?_) | (with_reducible refine vd_one ?_)
  | (with_reducible refine vi_us ?_) | (with_reducible refine vi_seq ?_) | (with_reducible refine vi_rng ?_) | (with_reducible refine vi_enm ?_) | (with_reducible refine vi_zip ?_)
  | (with_reducible refine x_us ?_) | ((with_reducible refine' x_mv ?k1 ?_); (case k1 => exact rfl)) | (with_reducible refine x_intc ?_) | (with_reducible refine x_boolc ?_) | (with_reducible refine x_nonec ?_) | (with_reducible refine x_strc ?_)
  | (with_reducible refine x_bin ?_) | (with_reducible refine x_cmp ?_) | (with_reducible refine x_not ?_) | (with_reducible refine x_and ?_) | (with_reducible refine x_or ?_) | (with_reducible refine x_blt ?_) | (with_reducible refine x_tup ?_) | (with_reducible refine x_lst ?_) | (with_reducible refine x_ite ?_) | (with_reducible refine x_callIO ?_) | (with_reducible refine x_comp ?_)
  | (with_reducible refine xs_nil ?_) | (with_reducible refine xs_cons ?_) | (with_reducible refine xa_nil ?_) | ((with_reducible refine' xa_io ?k1 ?_); (case k1 => exact rfl)) | (with_reducible refine xa_no ?_) | (with_reducible refine xa_0 ?_)
  | (with_reducible refine xt_us ?_) | (with_reducible refine xt_val ?_) | (with_reducible refine xt_cmp ?_) | (with_reducible refine xt_not ?_) | (with_reducible refine xt_and ?_) | (with_reducible refine xt_or ?_) | (with_reducible refine xd_no ?_) | (with_reducible refine xd_one ?_)
  | (with_reducible refine xi_seq ?_) | (with_reducible refine xi_rng ?_) | (with_reducible refine xi_enm ?_) | (with_reducible refine xi_zip ?_) | (with_reducible refine xi_seqX ?_) | (with_reducible refine xi_rngX ?_)
  | (with_reducible refine y_expr ?_) | (with_reducible refine y_ret ?_) | (with_reducible refine y_retN ?_) | ((with_reducible refine' y_asg ?k1 ?_); (case k1 => exact rfl)) | ((with_reducible refine' y_unp ?k1 ?_); (case k1 => exact rfl)) | ((with_reducible refine' y_par ?k1 ?_); (case k1 => exact rfl)) | (with_reducible refine y_ife ?_) | ((with_reducible refine' y_for ?k1 ?_); (case k1 => exact rfl)) | (with_reducible refine y_whl ?_) | (with_reducible refine j_us ?_) | (with_reducible refine j_con ?_) | (with_reducible refine y_pass ?_) | (with_reducible refine y_brk ?_) | (with_reducible refine y_cont ?_)
  | (with_reducible refine z_nil ?_) | (with_reducible refine z_cons ?_) | (with_reducible refine th_nx ?_) | (with_reducible refine th_rt ?_) | (with_reducible refine rt_rt ?_) | (with_reducible refine rt_nx ?_) | (with_reducible refine tu_nx ?_) | (with_reducible refine tu_rt ?_)
  | ((with_reducible refine' ⟨_, cm_cl ?k1, ?_⟩); (case k1 => walk_at "cl"))
  | ((with_reducible refine' ⟨_, cm_dm ?k1 ?k2, ?_⟩); (case k1 => walk_at "cl"); (case k2 => first | (simp only [List.set_cons_zero, List.set_cons_succ, List.set_nil, ioPut, dmF, List.contains_cons, List.contains_nil, Nat.reduceBEq, Nat.reduceAdd, Bool.or_false, Bool.or_true, Bool.false_or, Bool.true_or, beq_self_eq_true, if_true, Bool.false_eq_true, if_false, Option.map_some, Option.map_none, sh_sh, sh_int, sh_bl, sh_str, sh_non, sh_nv, sh_zv, sh_prv, sh_LL, sh_TT, shs_cons, shs_nil, shs_nats, shs_ints]; done) | (simp only [List.set_cons_zero, List.set_cons_succ, List.set_nil, ioPut, dmF, List.contains_cons, List.contains_nil, Nat.reduceBEq, Nat.reduceAdd, Bool.or_false, Bool.or_true, Bool.false_or, Bool.true_or, beq_self_eq_true, if_true, Bool.false_eq_true, if_false, Option.map_some, Option.map_none, sh_sh, sh_int, sh_bl, sh_str, sh_non, sh_nv, sh_zv, sh_prv, sh_LL, sh_TT, shs_cons, shs_nil, shs_nats, shs_ints]; exact rfl) | exact rfl))
  | ((with_reducible refine' cl_sh ?k1 ?_); (case k1 => walk_at "shs"))
  | ((with_reducible refine' fit_and ?k1 ?_); (case k1 => exact rfl)) | ((with_reducible refine' io_by ?k1 ?k2 ?_); (case k1 => exact rfl); (case k2 => walk_at "shs"))
  | (with_reducible refine sq_nv ?_) | (with_reducible refine sq_zv ?_) | (with_reducible refine sq_prv ?_) | (with_reducible refine sq_LL ?_) | (with_reducible refine sq_TT ?_) | (with_reducible refine ij2_by ?_) | (with_reducible refine ij_by ?_) | (with_reducible refine ib_by ?_) | (with_reducible refine ill_by ?_) | (with_reducible refine inv_by ?_) | (with_reducible refine izv_by ?_) | ((with_reducible refine' itt_by ?k1 ?_); (case k1 => exact rfl)) | ((with_reducible refine' ipr_by ?k1 ?_); (case k1 => exact rfl)) | ((with_reducible refine' ln_and ?k1 ?_); (case k1 => exact rfl))
  | (with_reducible refine if_T ?_) | (with_reducible refine if_F ?_) | (with_reducible refine if_nT ?_) | (with_reducible refine if_nF ?_)
  | (dsimp only)
  | (rw [shs_nats]) | (rw [shs_ints])
  | ((rw [decide_eq_true ?kk]); (case kk => omega)) | ((rw [decide_eq_false ?kk]); (case kk => omega)))
local macro_rules | `(tactic| walk_at "v") => `(tactic| repeat walk_at "v1")

section
variable {T : Tab} {io : Str → List Bool} {fu k : Nat} [HasF T io "is_whole" g_is_whole []]
theorem is_whole_i {i : Int} {P : PV → List (Option PV) → Prop} (q : P (.bl true) []) : Cl T io fu (k + 1) "is_whole" [.int i] P := by
  refine cl_ofI rfl ?_
  dsimp only [g_is_whole]
  walk_at "v0"
  walk_at "v"
  refine ⟨"int", true, rfl, by decide +kernel, ?_⟩
  walk_at "v"
  refine ⟨"int", false, rfl, by decide +kernel, ?_⟩
  walk_at "v"
  exact q
end
section
variable {T : Tab} {io : Str → List Bool} {fu k : Nat} [HasF T io "check_down" g_check_down []] [HasF T io "is_whole" g_is_whole []] [HasC T "MOST_PLACES" (.int 16)]
theorem check_down_v {ds : List Nat} {t : Bool} {P : PV → List (Option PV) → Prop} (hn : 1 ≤ ds.length ∧ ds.length ≤ 16) (ok : DnOk ds) (q : P .non []) : Cl T io fu (k + 2) "check_down" [nv t ds] P := by
  refine cl_ofI rfl ?_
  dsimp only [g_check_down]
  walk_at "v0"
  walk_at "v"
  refine ⟨"list", true, rfl, by decide +kernel, ?_⟩
  walk_at "v"
  refine for_by (fun i σ => ∃ a x y, σ = [a, x, y]) ⟨_, _, _, rfl⟩ ?_ ?_
  · rintro i itm σ hi0 ⟨a, x, y, rfl⟩
    obtain ⟨hi, rfl⟩ := at_enm hi0
    have hl := ok i hi
    refine ⟨_, rfl, ?_⟩
    walk_at "v"
    refine is_whole_i ?_
    walk_at "v"
    exact ⟨_, _, _, rfl⟩
  · rintro σ ⟨a, x, y, rfl⟩
    walk_at "v"
    exact q
end
section
variable {T : Tab} {io : Str → List Bool} {fu k : Nat} [HasF T io "check_up" g_check_up []] [HasF T io "is_whole" g_is_whole []] [HasC T "MOST_PLACES" (.int 16)]
theorem check_up_v {us : List Nat} {t : Bool} {P : PV → List (Option PV) → Prop} (hn : 1 ≤ us.length ∧ us.length ≤ 16) (ok : UpOk us) (q : P .non []) : Cl T io fu (k + 2) "check_up" [nv t us] P := by
  refine cl_ofI rfl ?_
  dsimp only [g_check_up]
  walk_at "v0"
  walk_at "v"
  refine ⟨"list", true, rfl, by decide +kernel, ?_⟩
  walk_at "v"
  refine for_by (fun i σ => ∃ x y, σ = [some (nv false us), x, y]) ⟨_, _, rfl⟩ ?_ ?_
  · rintro i itm σ hi0 ⟨x, y, rfl⟩
    obtain ⟨hi, rfl⟩ := at_enm hi0
    have hl := ok i hi
    refine ⟨_, rfl, ?_⟩
    walk_at "v"
    refine is_whole_i ?_
    walk_at "v"
    exact ⟨_, _, rfl⟩
  · rintro σ ⟨x, y, rfl⟩
    walk_at "v"
    exact q
end
section
variable {T : Tab} {io : Str → List Bool} {fu k : Nat} [HasF T io "check_pair" g_check_pair []] [HasF T io "check_down" g_check_down []] [HasF T io "check_up" g_check_up []] [HasF T io "is_whole" g_is_whole []] [HasC T "MOST_PLACES" (.int 16)]
theorem check_pair_v {m : Nat} {ds us : List Nat} {t : Bool} {P : PV → List (Option PV) → Prop} (h : PrOk m ds us) (hm : m ≤ 16) (q : P .non []) : Cl T io fu (k + 3) "check_pair" [prv t ds us] P := by
  have h1 := h.pos
  have h2 := h.top
  have h3 := h.len
  refine cl_ofI rfl ?_
  dsimp only [g_check_pair]
  walk_at "v0"
  walk_at "v"
  refine ⟨"tuple", true, rfl, by decide +kernel, ?_⟩
  walk_at "v"
  refine ⟨"list", true, rfl, by decide +kernel, ?_⟩
  walk_at "v"
  refine ⟨"list", true, rfl, by decide +kernel, ?_⟩
  walk_at "v"
  refine check_down_v ⟨h1, by omega⟩ h.dn ?_
  walk_at "v"
  refine check_up_v ⟨by omega, by omega⟩ h.up ?_
  walk_at "v"
  exact q
end
section
variable {T : Tab} {io : Str → List Bool} {fu k : Nat} [HasF T io "check_place" g_check_place []] [HasF T io "is_whole" g_is_whole []]
end
section
variable {T : Tab} {io : Str → List Bool} {fu k : Nat} [HasF T io "steps_down" g_steps_down []]
end
section
variable {T : Tab} {io : Str → List Bool} {fu k : Nat} [HasF T io "steps_up" g_steps_up []]
end
structure DrOk (a b : Int) (n : Nat) : Prop where
  a0 : 0 ≤ a
  b0 : 0 ≤ b
  bn : b ≤ n
theorem DrOk.mono {a b : Int} {n m : Nat} (h : DrOk a b n) (hm : n ≤ m) : DrOk a b m := ⟨h.a0, h.b0, by have := h.bn; omega⟩
theorem p6 : ((10 : Int) ^ (6 : Int).toNat) = 1000000 := by decide +kernel
def bigM : Int := (((10 : Int) ^ (60 : Int).toNat) ^ (60 : Int).toNat) ^ (4 : Int).toNat
theorem bigM_pos : 0 < bigM := by decide +kernel
section
variable {T : Tab} {io : Str → List Bool} {fu k : Nat} [HasF T io "_law_draws" g_law_draws []]
theorem law_draws_v {i : Int} {P : PV → List (Option PV) → Prop} (q : ∀ a b c, DrOk a b 0 → P (dv true a b c) []) : Cl T io fu (k + 1) "_law_draws" [.int i] P := by
  refine cl_ofI rfl ?_
  dsimp only [g_law_draws]
  walk_at "v0"
  walk_at "v"
  refine ob_pow (by decide +kernel) ?_
  walk_at "v"
  refine ob_pow (by decide +kernel) ?_
  walk_at "v"
  refine ob_pow (by decide +kernel) ?_
  refine ob_mod bigM_pos ?_
  walk_at "v"
  refine ob_pow (by decide +kernel) ?_
  walk_at "v"
  exact q _ _ _ ⟨Int.emod_nonneg _ (Int.ne_of_gt bigM_pos), Int.le_refl _, Int.le_refl _⟩
end
section
variable {T : Tab} {io : Str → List Bool} {fu k : Nat} [HasF T io "_law_next" g_law_next [true]]
theorem law_next_v {a b : Int} {c : Bool} {n : Nat} {P : PV → List (Option PV) → Prop} (h : DrOk a b n) (hn : n ≤ 1000000) (q : ∀ (v : Nat) a b, DrOk a b (n + 1) → P (.int (v : Nat)) [some (dv true a b c)]) : Cl T io fu (k + 1) "_law_next" [dv true a b c] P := by
  have ha := h.a0
  have hb := h.b0
  have hbn := h.bn
  refine cl_ofI rfl ?_
  dsimp only [g_law_next]
  walk_at "v0"
  walk_at "v"
  refine y_setV rfl ?_
  walk_at "v"
  refine ⟨_, 1, rfl, rfl, ?_⟩
  walk_at "v"
  cases c with
  | true =>
    walk_at "v"
    refine ob_pow (by decide +kernel) ?_
    rw [p6]
    walk_at "v"
    refine y_setV rfl ?_
    walk_at "v"
    refine ob_pow (by decide +kernel) ?_
    rw [p6]
    walk_at "v"
    refine ⟨_, 0, rfl, rfl, ?_⟩
    walk_at "v"
    have ev : a % 1000000 = ((a % 1000000).toNat : Int) := by omega
    rw [ev]
    exact q _ (a / 1000000) (b + 1) ⟨Int.ediv_nonneg ha (by decide), by omega, by omega⟩
  | false =>
    have m1 := mul_bd (a := b + 1) (A := 1000001) (b := b + 1) (B := 1000001) (by omega) (by omega) (by omega) (by omega)
    walk_at "v"
    generalize (((a % 1000003 + (b + 1) * (b + 1) * 7919 + (b + 1)) * 48271 % 2147483629) * ((a % 1000003 + (b + 1) * (b + 1) * 7919 + (b + 1)) * 48271 % 2147483629) % 2147483587) * (((a % 1000003 + (b + 1) * (b + 1) * 7919 + (b + 1)) * 48271 % 2147483629) * ((a % 1000003 + (b + 1) * (b + 1) * 7919 + (b + 1)) * 48271 % 2147483629) % 2147483587 + 2) = z
    have ev : z % 2147483579 / 7 = ((z % 2147483579 / 7).toNat : Int) := by omega
    rw [ev]
    exact q _ a (b + 1) ⟨ha, by omega, by omega⟩
end

theorem fit_rng {m : Nat} {f : Nat → PV} (h : m ≤ 100000) : fitB (((List.range m).map f).map Itm.one).length = true := decide_eq_true (by simpa using h)
theorem one_mod (v m : Nat) (hm : 1 ≤ m) : ∃ l : Nat, (1 : Int) + (v : Int) % (m : Int) = (l : Int) ∧ 1 ≤ l ∧ l ≤ m := by
  have := Nat.mod_lt v (show 0 < m by omega)
  exact ⟨1 + v % m, by simp, by omega, by omega⟩
theorem mod_nat (v : Nat) (m : Int) (hm : 0 < m) : ∃ l : Nat, (v : Int) % m = (l : Int) ∧ (l : Int) < m := by
  have h1 := Int.emod_nonneg (v : Int) (show m ≠ 0 by omega)
  have h2 := Int.emod_lt_of_pos (v : Int) hm
  exact ⟨((v : Int) % m).toNat, by omega, by omega⟩
theorem mod_int (v : Int) (m : Int) (hm : 0 < m) : ∃ l : Nat, v % m = (l : Int) ∧ (l : Int) < m := by
  have h1 := Int.emod_nonneg v (show m ≠ 0 by omega)
  have h2 := Int.emod_lt_of_pos v hm
  exact ⟨(v % m).toNat, by omega, by omega⟩
section
variable {T : Tab} {io : Str → List Bool} {fu k : Nat} [HasF T io "_law_pair" g_law_pair [true, false]] [HasF T io "_law_next" g_law_next [true]]
theorem law_pair_v {a b : Int} {c : Bool} {n m : Nat} {P : PV → List (Option PV) → Prop} (h : DrOk a b n) (hn : n ≤ 900000) (hm : 1 ≤ m ∧ m ≤ 16) (q : ∀ ds us a b, PrOk m ds us → DrOk a b (n + 33) → P (prv true ds us) [some (dv true a b c), none]) : Cl T io fu (k + 2) "_law_pair" [dv true a b c, .int (m : Nat)] P := by
  refine cl_ofI rfl ?_
  dsimp only [g_law_pair]
  walk_at "v0"
  walk_at "v"
  refine law_next_v h (by omega) fun v a b h => ?_
  walk_at "v"
  obtain ⟨l, el, hl⟩ := one_mod v m hm.1
  rw [el]
  refine ⟨_, rngP1 ⟨by omega, by omega⟩, ?_⟩
  rw [Int.toNat_natCast]
  refine ⟨by rw [fit_rng (by omega)]; rfl, ?_⟩
  refine compX_nats (fun i ns σ => ∃ a b x, σ = [some (dv true a b c), none, some (.int (l : Nat)), none, none, x] ∧ DrOk a b (n + 1 + i) ∧ ns.length = i ∧ ∀ t, t < i → ns.getD t 0 ≤ t) ⟨_, _, _, rfl, h, rfl, by intro t ht; omega⟩ ?_ ?_
  · rintro i ns σ hi ⟨a, b, x, rfl, h, hl1, hb⟩
    refine ⟨_, rfl, ?_⟩
    walk_at "v"
    refine law_next_v h (by omega) fun v a b h => ?_
    walk_at "v"
    obtain ⟨w, ew, hw⟩ := mod_nat v ((i : Int) + 1) (by omega)
    rw [ew]
    refine ⟨w, rfl, _, _, _, rfl, h.mono (by omega), by simp [hl1], fun t ht => ?_⟩
    rw [getD_snoc]
    split
    · exact hb t (by omega)
    · split <;> omega
  rintro ds σ ⟨a, b, x, rfl, h, hl1, hb⟩
  walk_at "v"
  refine ⟨_, rngP1 ⟨by omega, by omega⟩, ?_⟩
  rw [Int.toNat_natCast]
  refine ⟨by rw [fit_rng (by omega)]; rfl, ?_⟩
  refine compX_nats (fun i ns σ => ∃ a b x, σ = [some (dv true a b c), none, some (.int (l : Nat)), some (nv true ds), none, x] ∧ DrOk a b (n + 1 + l + i) ∧ ns.length = i ∧ ∀ t, t < i → t + 2 ≤ ns.getD t 0 ∧ ns.getD t 0 ≤ l + 1) ⟨_, _, _, rfl, h, rfl, by intro t ht; omega⟩ ?_ ?_
  · rintro i ns σ hi ⟨a, b, x, rfl, h, hl1, hb⟩
    refine ⟨_, rfl, ?_⟩
    walk_at "v"
    refine law_next_v h (by omega) fun v a b h => ?_
    walk_at "v"
    obtain ⟨w, ew, hw⟩ := mod_nat v ((l : Int) - i) (by omega)
    rw [ew]
    refine ⟨i + 2 + w, by simp, _, _, _, rfl, h.mono (by omega), by simp [hl1], fun t ht => ?_⟩
    rw [getD_snoc]
    split
    · exact hb t (by omega)
    · split <;> omega
  rintro us σ ⟨a, b, x, rfl, h, hl2, hb2⟩
  walk_at "v"
  refine q ds us a b ⟨by omega, by omega, by omega, fun i hi => hb i (by omega), fun i hi => ?_⟩ (h.mono (by omega))
  have := hb2 i (by omega)
  omega
end
section
variable {T : Tab} {io : Str → List Bool} {fu k : Nat} [HasF T io "_law_tree" g_law_tree [true, false]] [HasF T io "_law_next" g_law_next [true]]
theorem law_tree_v {a b : Int} {c : Bool} {n m : Nat} {P : PV → List (Option PV) → Prop} (hf : 20 ≤ fu) (h : DrOk a b n) (hn : n ≤ 900000) (hm : 1 ≤ m ∧ m ≤ 16) (q : ∀ ds us a b, TrOk m ds us → DrOk a b (n + 17) → P (prv true ds us) [some (dv true a b c), none]) : Cl T io fu (k + 2) "_law_tree" [dv true a b c, .int (m : Nat)] P := by
  refine cl_ofI rfl ?_
  dsimp only [g_law_tree]
  walk_at "v0"
  walk_at "v"
  refine law_next_v h (by omega) fun v a b h => ?_
  walk_at "v"
  obtain ⟨l, el, hl⟩ := one_mod v m hm.1
  rw [el]
  walk_at "v"
  refine ob_repN (m := 0) ?_ ?_
  · exact ⟨by omega, by omega⟩
  walk_at "v"
  refine ob_repN (m := 0) ?_ ?_
  · exact ⟨by omega, by omega⟩
  walk_at "v"
  refine whl_by (fun i σ => ∃ st ds us a b x1 x2 x3 x4 x5, σ = [some (dv true a b c), none, none, some (nv true ds), some (nv true us), some (sv true st), x1, x2, x3, x4, x5] ∧ i = totS st ∧ TrW l st ds us ∧ DrOk a b (n + 1 + (l - totS st))) l (by show l < fu; omega) ⟨[(1, l)], List.replicate l 0, List.replicate l 0, _, _, _, _, _, _, _, rfl, by simp [totS], TrW.start (by omega) (by simp) (by simp), h.mono (by omega)⟩ ?_
  rintro i σ ⟨st, ds, us, a, b, x1, x2, x3, x4, x5, rfl, rfl, tw, h⟩
  walk_at "v"
  have tot := tw.tot
  have hok := tw.ok
  have hsl := totS_len st fun t ht => (hok t ht).2.1
  refine oc_neStk (fun t ht => by have := hok t ht; omega) ?_
  rcases List.eq_nil_or_concat st with rfl | ⟨st, ⟨lo, hi⟩, rfl⟩
  · rw [show (!([] : List (Nat × Nat)).isEmpty) = false from rfl]
    walk_at "v"
    have := tw.ld
    have := tw.lu
    have e := tw.done
    refine q ds us a b ⟨by omega, by omega, by omega, ?_⟩ (h.mono (by omega))
    rwa [tw.ld]
  rw [List.concat_eq_append] at *
  have hb := hok (lo, hi) (by simp)
  dsimp only at hb
  have e1 : (!(st ++ [(lo, hi)]).isEmpty) = true := by simp
  rw [e1]
  walk_at "v"
  refine x_popS rfl rfl ?_
  walk_at "v"
  refine law_next_v h (by omega) fun v a b h => ?_
  walk_at "v"
  obtain ⟨s, es, hs⟩ := mod_int ((v : Int) / 4) ((hi : Int) - lo + 1) (by omega)
  rw [es]
  obtain ⟨w, ew, hw⟩ := mod_int (v : Int) 4 (by omega)
  rw [ew]
  obtain ⟨rt, ert, hrt⟩ : ∃ rt : Nat, atI [PV.int (lo : Int), .int (hi : Int), .int ((lo : Int) + s), .int ((lo : Int) + s)] (w : Int) = some (.int (rt : Int)) ∧ lo ≤ rt ∧ rt ≤ hi := by
    match w, hw with
    | 0, _ => exact ⟨lo, rfl, by omega, by omega⟩
    | 1, _ => exact ⟨hi, rfl, by omega, by omega⟩
    | 2, _ => exact ⟨lo + s, by show some _ = some _; simp, by omega, by omega⟩
    | 3, _ => exact ⟨lo + s, by show some _ = some _; simp, by omega, by omega⟩
  refine oi_L ert ?_
  have ld := tw.ld
  have lu := tw.lu
  walk_at "v"
  refine y_setN rfl ?_
  walk_at "v"
  refine ⟨ds, rt - 1, lo - 1, rfl, by omega, by omega, by congr 1; omega, ?_⟩
  walk_at "v"
  refine y_setN rfl ?_
  walk_at "v"
  refine ⟨us, rt - 1, hi + 1, rfl, by omega, by omega, rfl, ?_⟩
  walk_at "v"
  refine ob_repS (l := lo) (h := rt - 1) (.inl rfl) (by by_cases e : (lo : Int) < rt <;> simp [e]; omega) ?_
  rw [List.length_append, List.length_singleton] at hsl
  refine ob_catS (by split <;> simp <;> omega) ?_
  walk_at "v"
  refine ob_repS (l := rt + 1) (h := hi) (.inl (by simp)) (.inl rfl) ?_
  refine ob_catS (by split <;> split <;> simp <;> omega) ?_
  walk_at "v"
  have st2 := tw.step hrt.1 hrt.2
  have e2 : (if decide ((lo : Int) < rt) = true then [(lo, rt - 1)] else []) = if lo < rt then [(lo, rt - 1)] else [] := by
    by_cases e : lo < rt
    · rw [if_pos e, if_pos (decide_eq_true (by omega))]
    · rw [if_neg e, if_neg (by simp; omega)]
  have e3 : (if decide ((rt : Int) < hi) = true then [(rt + 1, hi)] else []) = if rt < hi then [(rt + 1, hi)] else [] := by
    by_cases e : rt < hi
    · rw [if_pos e, if_pos (decide_eq_true (by omega))]
    · rw [if_neg e, if_neg (by simp; omega)]
  rw [e2, e3]
  refine ⟨_, ?_, _, _, _, _, _, _, _, _, _, _, rfl, rfl, st2.1, h.mono (by omega)⟩
  omega
end
section
variable {T : Tab} {io : Str → List Bool} {fu k : Nat} [HasF T io "_law_bent" g_law_bent [true, false]] [HasF T io "_law_next" g_law_next [true]]
theorem law_bent_v {a b : Int} {c : Bool} {n m : Nat} {ds0 us0 : List Nat} {P : PV → List (Option PV) → Prop} (h : DrOk a b n) (hn : n ≤ 900000) (ok : PrOk m ds0 us0) (hm : m ≤ 16) (q : ∀ ds us a b, PrOk m ds us → DrOk a b (n + 4) → P (prv true ds us) [some (dv true a b c), none]) : Cl T io fu (k + 2) "_law_bent" [dv true a b c, prv false ds0 us0] P := by
  refine cl_ofI rfl ?_
  dsimp only [g_law_bent]
  walk_at "v0"
  walk_at "v"
  refine law_next_v h (by omega) fun v a b h => ?_
  walk_at "v"
  obtain ⟨w, ew, hw⟩ := mod_nat v 3 (by omega)
  rw [ew]
  refine ⟨_, rngP1 ⟨by omega, by omega⟩, ?_⟩
  refine for_by (fun i σ => ∃ ds us a b x1 x2 x3, σ = [some (dv true a b c), some (prv false ds0 us0), x1, some (nv true ds), some (nv true us), x2, x3] ∧ PrOk m ds us ∧ DrOk a b (n + 1 + i)) ⟨_, _, _, _, _, _, _, rfl, ok, h⟩ ?_ ?_
  · rintro i itm σ hi0 ⟨ds, us, a, b, x1, x2, x3, rfl, ok, h⟩
    obtain ⟨hi, rfl⟩ := at_rng hi0
    refine ⟨_, rfl, ?_⟩
    walk_at "v"
    refine law_next_v h (by omega) fun v a b h => ?_
    have hp := ok.pos
    have ht := ok.top
    have hl := ok.len
    walk_at "v"
    obtain ⟨r, er, hr⟩ := mod_int ((v : Int) / 2) (ds.length : Int) (by omega)
    rw [er]
    walk_at "v"
    refine if_dec (fun hpos => ?_) (fun hpos => ?_)
    · walk_at "v"
      refine y_setN rfl ?_
      walk_at "v"
      obtain ⟨s, es, hs⟩ := mod_int ((v : Int) / 32) ((r : Int) + 1) (by omega)
      rw [es]
      refine ⟨ds, r, s, rfl, rfl, by omega, rfl, ?_⟩
      walk_at "v"
      refine ⟨_, _, _, _, _, _, _, rfl, ⟨by simp [hp], by simpa using ht, by simp [hl], fun j hj => ?_, ok.up⟩, h.mono (by omega)⟩
      rw [getD_set _ _ _ _ (by omega)]
      rw [List.length_set] at hj
      split
      · omega
      · exact ok.dn j hj
    · walk_at "v"
      refine y_setN rfl ?_
      walk_at "v"
      obtain ⟨s, es, hs⟩ := mod_int ((v : Int) / 32) ((ds.length : Int) - r) (by omega)
      rw [es]
      refine ⟨us, r, r + 2 + s, rfl, rfl, by omega, by simp, ?_⟩
      walk_at "v"
      refine ⟨_, _, _, _, _, _, _, rfl, ⟨hp, ht, by simp [hl], ok.dn, fun j hj => ?_⟩, h.mono (by omega)⟩
      rw [getD_set _ _ _ _ (by omega)]
      rw [List.length_set] at hj ⊢
      split
      · omega
      · exact ok.up j hj
  · rintro σ ⟨ds, us, a, b, x1, x2, x3, rfl, ok, h⟩
    rw [len_rng] at h
    walk_at "v"
    exact q ds us a b ok (h.mono (by omega))
end
section
variable {T : Tab} {io : Str → List Bool} {fu k : Nat} [HasF T io "_law_any" g_law_any [true, false]] [HasF T io "_law_next" g_law_next [true]] [HasF T io "_law_pair" g_law_pair [true, false]] [HasF T io "_law_tree" g_law_tree [true, false]] [HasF T io "_law_bent" g_law_bent [true, false]]
theorem law_any_v {a b : Int} {c : Bool} {n m : Nat} {P : PV → List (Option PV) → Prop} (hf : 20 ≤ fu) (h : DrOk a b n) (hn : n ≤ 800000) (hm : 1 ≤ m ∧ m ≤ 16) (q : ∀ ds us a b, PrOk m ds us → DrOk a b (n + 34) → P (prv true ds us) [some (dv true a b c), none]) : Cl T io fu (k + 3) "_law_any" [dv true a b c, .int (m : Nat)] P := by
  refine cl_ofI rfl ?_
  dsimp only [g_law_any]
  walk_at "v0"
  walk_at "v"
  refine law_next_v h (by omega) fun v a b h => ?_
  walk_at "v"
  refine if_dec (fun hpos => ?_) (fun hpos => ?_)
  · walk_at "v"
    refine law_pair_v h (by omega) hm fun ds us a b ok h => ?_
    walk_at "v"
    exact q ds us a b ok (h.mono (by omega))
  · walk_at "v"
    refine law_tree_v hf h (by omega) hm fun ds us a b ok h => ?_
    walk_at "v"
    refine if_dec (fun hpos => ?_) (fun hpos => ?_)
    · walk_at "v"
      refine law_bent_v h (by omega) ok.pr hm.2 fun ds us a b ok h => ?_
      walk_at "v"
      exact q ds us a b ok (h.mono (by omega))
    · walk_at "v"
      exact q ds us a b ok.pr (h.mono (by omega))
end

theorem fit_one {ns : List Nat} (h : ns.length ≤ 100000) : fitB ((ns.map fun (n : Nat) => PV.int (n : Int)).map Itm.one).length = true := decide_eq_true (by simpa using h)
section
variable {T : Tab} {io : Str → List Bool} {fu k : Nat} [HasF T io "ups_of" g_ups_of []]
end
theorem pr_small {m : Nat} {ds us : List Nat} (ok : PrOk m ds us) (hm : m ≤ 16) : (∀ n, n ∈ ds → n < 17) ∧ ∀ n, n ∈ us → n < 18 := by
  have h1 := ok.top
  have h2 := ok.len
  refine ⟨fun n hn => ?_, fun n hn => ?_⟩
  · obtain ⟨i, hi, e⟩ := List.getElem_of_mem hn
    have := ok.dn i hi
    rw [List.getD_eq_getElem?_getD, List.getElem?_eq_getElem hi, Option.getD_some, e] at this
    omega
  · obtain ⟨i, hi, e⟩ := List.getElem_of_mem hn
    have := ok.up i hi
    rw [List.getD_eq_getElem?_getD, List.getElem?_eq_getElem hi, Option.getD_some, e] at this
    omega
section
variable {T : Tab} {io : Str → List Bool} {fu k : Nat} [HasF T io "check_right" g_check_right []] [HasF T io "is_right_pair" g_is_right_pair []] [HasF T io "parted" g_parted []] [HasF T io "sums_of" g_sums_of []] [HasF T io "ups_of" g_ups_of []]
end
section
variable {T : Tab} {io : Str → List Bool} {fu k : Nat} [HasF T io "root_of" g_root_of []]
end
section
variable {T : Tab} {io : Str → List Bool} {fu k : Nat} [HasF T io "tree_in" g_tree_in []] [HasF T io "root_of" g_root_of []]
end
section
variable {T : Tab} {io : Str → List Bool} {fu k : Nat} [HasF T io "tree_of" g_tree_of []] [HasF T io "check_pair" g_check_pair []] [HasF T io "check_right" g_check_right []] [HasF T io "tree_in" g_tree_in []] [HasF T io "check_down" g_check_down []] [HasF T io "check_up" g_check_up []] [HasF T io "is_right_pair" g_is_right_pair []] [HasF T io "parted" g_parted []] [HasF T io "sums_of" g_sums_of []] [HasF T io "root_of" g_root_of []] [HasF T io "is_whole" g_is_whole []] [HasF T io "ups_of" g_ups_of []] [HasC T "MOST_PLACES" (.int 16)]
end
theorem wlen {m : Nat} {ds us : List Nat} (ok : PrOk m ds us) {p : Nat} (h0 : 1 ≤ p) (hp : p ≤ ds.length) : 1 ≤ (wD ds p).length ∧ (wD ds p).length ≤ ds.length ∧ 1 ≤ (wU us p).length ∧ (wU us p).length ≤ ds.length := by
  have h1 := wD_len ok.dn p p (Nat.le_refl _) hp
  have h2 := wU_small ok.up (show 0 < p by omega)
  have h3 := ok.len
  rw [wD_pos ok.dn (by omega) hp, wU_in ok.up (by omega) (by omega)] at *
  simp only [List.length_cons] at *
  omega
section
variable {T : Tab} {io : Str → List Bool} {fu k : Nat} [HasF T io "depths" g_depths []] [HasF T io "check_pair" g_check_pair []] [HasF T io "check_right" g_check_right []] [HasF T io "steps_down" g_steps_down []] [HasF T io "steps_up" g_steps_up []] [HasF T io "check_down" g_check_down []] [HasF T io "check_up" g_check_up []] [HasF T io "is_right_pair" g_is_right_pair []] [HasF T io "parted" g_parted []] [HasF T io "sums_of" g_sums_of []] [HasF T io "is_whole" g_is_whole []] [HasF T io "ups_of" g_ups_of []] [HasC T "MOST_PLACES" (.int 16)]
end
section
variable {T : Tab} {io : Str → List Bool} {fu k : Nat} [HasF T io "_law_down" g_law_down []]
end
section
variable {T : Tab} {io : Str → List Bool} {fu k : Nat} [HasF T io "_law_up" g_law_up []]
end

section
variable {T : Tab} {io : Str → List Bool} {fu k : Nat} [HasF T io "_law_next" g_law_next_b [true]]
end
section
variable {T : Tab} {io : Str → List Bool} {fu k : Nat} [HasF T io "_law_tree" g_law_tree_b [true, false]] [HasF T io "_law_next" g_law_next_b [true]]
end
section
variable {T : Tab} {io : Str → List Bool} {fu k : Nat} [HasF T io "_law_any" g_law_any_b [true, false]] [HasF T io "_law_next" g_law_next_b [true]]
end

abbrev sw (t : Nat × Nat) : PV := TT_ [.int (t.1 : Int), .int (t.2 : Int)]
section
variable {T : Tab} {io : Str → List Bool} {fu k : Nat} [HasF T io "_law_bent" g_law_bent_b [true, false]] [HasF T io "_law_next" g_law_next_b [true]]
end
section
variable {T : Tab} {io : Str → List Bool} {fu k : Nat} [HasF T io "check_values" g_check_values []] [HasF T io "is_whole" g_is_whole []]
end
section
variable {T : Tab} {io : Str → List Bool} {fu k : Nat} [HasF T io "filled" g_filled []] [HasF T io "steps_up" g_steps_up []]
end
section
variable {T : Tab} {io : Str → List Bool} {fu k : Nat} [HasF T io "cells_of" g_cells_of []] [HasF T io "check_up" g_check_up []] [HasF T io "check_values" g_check_values []] [HasF T io "filled" g_filled []] [HasF T io "is_whole" g_is_whole []] [HasF T io "steps_up" g_steps_up []] [HasC T "MOST_PLACES" (.int 16)]
end
section
variable {T : Tab} {io : Str → List Bool} {fu k : Nat} [HasF T io "turned" g_turned []] [HasF T io "check_pair" g_check_pair []] [HasF T io "check_down" g_check_down []] [HasF T io "check_up" g_check_up []] [HasF T io "is_whole" g_is_whole []] [HasC T "MOST_PLACES" (.int 16)]
end
section
variable {T : Tab} {io : Str → List Bool} {fu k : Nat} [HasF T io "check_numbers" g_check_numbers []] [HasF T io "is_whole" g_is_whole []]
end
section
variable {T : Tab} {io : Str → List Bool} {fu k : Nat} [HasF T io "price" g_price []] [HasF T io "check_pair" g_check_pair []] [HasF T io "check_numbers" g_check_numbers []] [HasF T io "steps_down" g_steps_down []] [HasF T io "steps_up" g_steps_up []] [HasF T io "check_down" g_check_down []] [HasF T io "check_up" g_check_up []] [HasF T io "is_whole" g_is_whole []] [HasC T "MOST_PLACES" (.int 16)]
end
section
variable {T : Tab} {io : Str → List Bool} {fu k : Nat} [HasF T io "forward_in" g_forward_in []]
end
section
variable {T : Tab} {io : Str → List Bool} {fu k : Nat} [HasF T io "back_in" g_back_in []]
end
section
variable {T : Tab} {io : Str → List Bool} {fu k : Nat} [HasF T io "forward_moves" g_forward_moves []] [HasF T io "check_pair" g_check_pair []] [HasF T io "forward_in" g_forward_in []] [HasF T io "check_down" g_check_down []] [HasF T io "check_up" g_check_up []] [HasF T io "is_whole" g_is_whole []] [HasC T "MOST_PLACES" (.int 16)]
end
section
variable {T : Tab} {io : Str → List Bool} {fu k : Nat} [HasF T io "back_moves" g_back_moves []] [HasF T io "check_pair" g_check_pair []] [HasF T io "back_in" g_back_in []] [HasF T io "check_down" g_check_down []] [HasF T io "check_up" g_check_up []] [HasF T io "is_whole" g_is_whole []] [HasC T "MOST_PLACES" (.int 16)]
end
section
variable {T : Tab} {io : Str → List Bool} {fu k : Nat} [HasF T io "gone_forward" g_gone_forward []]
end
section
variable {T : Tab} {io : Str → List Bool} {fu k : Nat} [HasF T io "gone_back" g_gone_back []]
end
section
variable {T : Tab} {io : Str → List Bool} {fu k : Nat} [HasF T io "moved" g_moved []] [HasF T io "check_pair" g_check_pair []] [HasF T io "is_whole" g_is_whole []] [HasF T io "forward_in" g_forward_in []] [HasF T io "gone_forward" g_gone_forward []] [HasF T io "back_in" g_back_in []] [HasF T io "gone_back" g_gone_back []] [HasF T io "check_down" g_check_down []] [HasF T io "check_up" g_check_up []] [HasC T "MOST_PLACES" (.int 16)]
end

section
variable {T : Tab} {io : Str → List Bool} {fu k : Nat} [HasF T io "is_right" g_is_right []] [HasF T io "check_pair" g_check_pair []] [HasF T io "is_right_pair" g_is_right_pair []] [HasF T io "check_down" g_check_down []] [HasF T io "check_up" g_check_up []] [HasF T io "ups_of" g_ups_of []] [HasF T io "is_whole" g_is_whole []] [HasC T "MOST_PLACES" (.int 16)]
end

section
variable {T : Tab} {io : Str → List Bool} {fu k : Nat} [HasF T io "_law_sized" g_law_sized_b [true, false]] [HasF T io "_law_next" g_law_next [true]]
end
def MvOk (ds us : List Nat) (t : Nat × Nat × Bool) : Prop := (t.2.2 = true ∧ (t.1, t.2.1) ∈ fwL ds us) ∨ (t.2.2 = false ∧ (t.1, t.2.1) ∈ bkL ds us)
section
variable {T : Tab} {io : Str → List Bool} {fu k : Nat} [HasF T io "_law_moves" g_law_moves []]
end
def mvD (ds : List Nat) (t : Nat × Nat × Bool) : List Nat := if t.2.2 then ds.set (t.2.1 - 1) t.1 else ds.set (t.2.1 - 1) (ds.getD (t.1 - 1) 0)
def mvU (us : List Nat) (t : Nat × Nat × Bool) : List Nat := if t.2.2 then us.set (t.1 - 1) (us.getD (t.2.1 - 1) 0) else us.set (t.1 - 1) t.2.1
theorem MvOk.tr {m : Nat} {ds us : List Nat} {x : Nat × Nat × Bool} (ok : TrOk m ds us) (h : MvOk ds us x) : TrOk m (mvD ds x) (mvU us x) := by
  rcases h with ⟨e, h⟩ | ⟨e, h⟩
  · simp only [mvD, mvU, e, if_true]; exact fw_tr ok h
  · simp only [mvD, mvU, e, Bool.false_eq_true, if_false]; exact bk_tr ok h
section
variable {T : Tab} {io : Str → List Bool} {fu k : Nat} [HasF T io "_law_moved" g_law_moved []]
end

theorem oc_eqNon {ns : List Nat} {t : Bool} {B : Bool → Prop} (ha : ∀ n, n ∈ ns → n < 1000000000000) (q : B false) : Oc .Eq (nv t ns) .non B := by
  refine oc_eqD (d := dN ns) (e := .none) toD_nv rfl (dOk_dN ha) (n := _) (m := 0) (u := 4) (by constructor <;> decide) (by decide) (by decide) ?_
  rw [show PyData.eqv (dN ns) .none = false from rfl]
  exact q
section
variable {T : Tab} {io : Str → List Bool} {fu k : Nat} [HasF T io "ups_of" g_ups_of []]
theorem ups_any_v {ds : List Nat} {t : Bool} {P : PV → List (Option PV) → Prop} (ok : DnOk ds) (hm : ds.length ≤ 16) (q1 : Nest ds → P (nv true (upsL ds ds.length)) []) (q2 : ¬ Nest ds → P .non []) : Cl T io fu (k + 1) "ups_of" [nv t ds] P := by
  refine cl_ofI rfl ?_
  dsimp only [g_ups_of]
  walk_at "v0"
  walk_at "v"
  refine ⟨fit_one (by omega), _, compP_each (fun _ => .int ((ds.length + 1 : Nat) : Int)) (fun n _ => cm_of rfl ?_ ?_), ?_⟩
  · walk_at "v"
  · walk_at "v"
    rfl
  rw [show (ds.map fun _ => PV.int ((ds.length + 1 : Nat) : Int)) = (upsL ds 0).map (fun (n : Nat) => PV.int (n : Int)) by simp [upsL, upTo, List.map_const']]
  rw [← nv_LL]
  walk_at "v"
  refine for_by (fun i σ => ∃ x y z t', σ = [some (nv t' ds), some (nv true (upsL ds i)), x, y, z] ∧ ∀ j, j < i → nestAt ds j) ⟨_, _, _, _, rfl, fun j hj => by omega⟩ ?_ ?_
  · rintro i itm σ hi0 ⟨x, y, z, t', rfl, hne⟩
    obtain ⟨hi, rfl⟩ := at_enm hi0
    have hd := ok i hi
    refine ⟨_, rfl, ?_⟩
    walk_at "v"
    have ce := cut_eq (ns := ds) (show ds.getD i 0 ≤ ds.length by omega) (show i ≤ ds.length by omega)
    have hfit : (cutP ds (some ((ds.getD i 0 : Nat) : Int)) (some (i : Int))).length ≤ 100000 := by
      unfold cutP; simp; omega
    refine ⟨fit_one hfit, _, compP_fil (fun n => decide ((n : Int) < (ds.getD i 0 : Nat))) (fun n => .int (n : Int)) (fun n _ => cm_if rfl ?_ fun _ => ?_), ?_⟩
    · walk_at "v"
    · walk_at "v"
    rw [ce, ← nv_LL]
    walk_at "v"
    refine oc_neN (b := []) (fun n hn => ?_) (by simp) ?_
    · have := of_decide_eq_true (List.mem_filter.mp hn).2; omega
    refine if_ndec (fun hf => ?_) (fun hf => ?_)
    · walk_at "v"
      refine q2 fun hN => hf ?_
      rw [List.filter_eq_nil_iff]
      intro x hx
      obtain ⟨q, h6, h7, e⟩ := (mem_cut (by omega)).mp hx
      have := hN i hi q h6 h7
      rw [decide_eq_true_eq]
      omega
    have hnest : nestAt ds i := fun q h6 h7 => by
      have := List.filter_eq_nil_iff.mp hf (ds.getD q 0) ((mem_cut (by omega)).mpr ⟨q, h6, h7, rfl⟩)
      simp only [decide_eq_true_eq] at this
      omega
    walk_at "v"
    refine ⟨_, rngP1 ⟨by omega, by omega⟩, ?_⟩
    rw [Int.toNat_natCast]
    refine for_by (fun o σ => ∃ z t', σ = [some (nv t' ds), some (nv true (mixU ds i o)), some (.int (i : Nat)), some (.int (ds.getD i 0 : Nat)), z]) ⟨z, t', by rw [mixU_zero]; rfl⟩ ?_ ?_
    · rintro j itm σ hj0 ⟨z, t', rfl⟩
      obtain ⟨hj, rfl⟩ := at_rng hj0
      have lm : (mixU ds i j).length = ds.length := by simp [mixU]
      have gm : (mixU ds i j).getD j 0 = upTo ds i j := by
        unfold mixU
        rw [getD_range _ (by omega), if_neg (by omega)]
      refine ⟨_, rfl, ?_⟩
      walk_at "v"
      refine if_dec (fun h1 => ?_) (fun h1 => ?_)
      · walk_at "v"
        refine if_dec (fun h2 => ?_) (fun h2 => ?_)
        · walk_at "v"
          refine y_setN rfl ?_
          walk_at "v"
          refine ⟨mixU ds i j, j, i + 1, rfl, rfl, by omega, rfl, ?_⟩
          walk_at "v"
          rw [Int.toNat_natCast, gm] at h2
          exact ⟨_, t', by rw [← mixU_yes hj (by omega) (by omega)]; rfl⟩
        · walk_at "v"
          rw [Int.toNat_natCast, gm] at h2
          exact ⟨_, t', by rw [mixU_no (by omega)]; rfl⟩
      · walk_at "v"
        exact ⟨_, t', by rw [mixU_no (by omega)]; rfl⟩
    · rintro σ ⟨z, t', rfl⟩
      rw [len_rng]
      walk_at "v"
      refine ⟨_, _, z, t', by rw [mixU_all], fun j hj => ?_⟩
      by_cases e : j = i
      · rw [e]; exact hnest
      · exact hne j (by omega)
  · rintro σ ⟨x, y, z, t', rfl, hne⟩
    rw [len_enm, List.length_map] at hne ⊢
    walk_at "v"
    exact q1 hne
end
section
variable {T : Tab} {io : Str → List Bool} {fu k : Nat} [HasF T io "is_right" g_is_right []] [HasF T io "check_pair" g_check_pair []] [HasF T io "is_right_pair" g_is_right_pair []] [HasF T io "check_down" g_check_down []] [HasF T io "check_up" g_check_up []] [HasF T io "ups_of" g_ups_of []] [HasF T io "is_whole" g_is_whole []] [HasC T "MOST_PLACES" (.int 16)]
theorem is_right_any_v {m : Nat} {ds us : List Nat} {t : Bool} {P : PV → List (Option PV) → Prop} (ok : PrOk m ds us) (hm : m ≤ 16) (q : ∀ b : Bool, (b = true ↔ Right ds us) → P (.bl b) []) : Cl T io fu (k + 4) "is_right" [prv t ds us] P := by
  have hs := pr_small ok hm
  have ht := ok.top
  refine cl_ofI rfl ?_
  dsimp only [g_is_right]
  walk_at "v0"
  walk_at "v"
  refine check_pair_v ok hm ?_
  walk_at "v"
  refine cl_ofI rfl ?_
  dsimp only [g_is_right_pair]
  walk_at "v0"
  walk_at "v"
  refine ups_any_v ok.dn (by omega) (fun hN => ?_) (fun hN => ?_)
  · refine oc_eqN (fun n hn => by have := hs.2 n hn; omega) (fun n hn => ?_) ?_
    · obtain ⟨o, _, rfl⟩ := List.mem_map.mp hn
      have := upTo_le ds o ds.length (Nat.le_refl _)
      omega
    walk_at "v"
    refine q _ ?_
    rw [decide_eq_true_iff, ← right_iff ok]
    exact ⟨fun h => ⟨hN, h⟩, fun h => h.2⟩
  · refine oc_eqNon (fun n hn => by have := hs.2 n hn; omega) ?_
    walk_at "v"
    exact q _ ⟨fun h => by simp at h, fun h => absurd ((right_iff ok).mpr h).1 hN⟩
end

section
variable {T : Tab} {io : Str → List Bool} {fu k : Nat} [HasF T io "_law_counts" g_law_counts []] [HasF T io "_law_up" g_law_up []] [HasF T io "_law_down" g_law_down []]
end

theorem oi_last {t : Bool} {ns : List Nat} {x : Nat} {P : PV → Prop} (q : P (.int (x : Int))) : Oi (nv t (ns ++ [x])) (.int (-1)) P := by
  refine ⟨_, ?_, q⟩
  show atI ((ns ++ [x]).map fun (n : Nat) => PV.int (n : Int)) (-1) = _
  unfold atI
  have e : ixN ((ns ++ [x]).map fun (n : Nat) => PV.int (n : Int)).length (-1) = some ns.length := by
    unfold ixN
    simp
    omega
  rw [e]
  simp

theorem oc_eqNonL {ns : List Nat} {t : Bool} {B : Bool → Prop} (ha : ∀ n, n ∈ ns → n < 1000000000000) (q : B false) : Oc .Eq .non (nv t ns) B := by
  refine oc_eqD (d := .none) (e := dN ns) rfl toD_nv (m := _) (n := 0) (w := 4) (by constructor <;> decide) (dOk_dN ha) (by decide) (by decide) ?_
  rw [show PyData.eqv .none (dN ns) = false from rfl]
  exact q
section
variable {T : Tab} {io : Str → List Bool} {fu k : Nat} [HasF T io "downs_of" g_downs_of []]
theorem downs_any_v {us : List Nat} {t : Bool} {P : PV → List (Option PV) → Prop} (ok : UpOk us) (hm : us.length ≤ 16) (q1 : NestU us → P (nv true (downsL us us.length)) []) (q2 : ¬ NestU us → P .non []) : Cl T io fu (k + 1) "downs_of" [nv t us] P := by
  refine cl_ofI rfl ?_
  dsimp only [g_downs_of]
  walk_at "v0"
  walk_at "v"
  refine for_by (fun i σ => ∃ y z w t', σ = [some (nv t' us), some (nv true (downsL us i)), y, z, w] ∧ ∀ j, j < i → nestUAt us j) ⟨_, _, _, _, rfl, fun j hj => by omega⟩ ?_ ?_
  · rintro i itm σ hi0 ⟨y, z, w, t', rfl, hne⟩
    obtain ⟨hi, rfl⟩ := at_enm hi0
    have hu := ok i hi
    refine ⟨_, rfl, ?_⟩
    walk_at "v"
    rw [show (i : Int) + 1 = ((i + 1 : Nat) : Int) by omega, show ((us.getD i 0 : Nat) : Int) - 1 = ((us.getD i 0 - 1 : Nat) : Int) by omega]
    have ce := cut_eq (ns := us) (show i + 1 ≤ us.length by omega) (show us.getD i 0 - 1 ≤ us.length by omega)
    have hfit : (cutP us (some ((i + 1 : Nat) : Int)) (some ((us.getD i 0 - 1 : Nat) : Int))).length ≤ 100000 := by
      unfold cutP; simp; omega
    refine ⟨fit_one hfit, _, compP_fil (fun n => decide ((us.getD i 0 : Nat) < (n : Int))) (fun n => .int (n : Int)) (fun n _ => cm_if rfl ?_ fun _ => ?_), ?_⟩
    · walk_at "v"
    · walk_at "v"
    rw [ce, ← nv_LL]
    walk_at "v"
    refine oc_neN (b := []) (fun n hn => ?_) (by simp) ?_
    · obtain ⟨q, h6, h7, e⟩ := (mem_cut (by omega)).mp (List.mem_filter.mp hn).1
      have := ok q (by omega)
      omega
    refine if_ndec (fun hf => ?_) (fun hf => ?_)
    · walk_at "v"
      refine q2 fun hN => hf ?_
      rw [List.filter_eq_nil_iff]
      intro x hx
      obtain ⟨q, h6, h7, e⟩ := (mem_cut (by omega)).mp hx
      have := hN i hi q (by omega) (by omega)
      rw [decide_eq_true_eq]
      omega
    have hnest : nestUAt us i := fun q h6 h7 => by
      have := List.filter_eq_nil_iff.mp hf (us.getD q 0) ((mem_cut (by omega)).mpr ⟨q, by omega, by omega, rfl⟩)
      simp only [decide_eq_true_eq] at this
      omega
    walk_at "v"
    refine x_appN (m := dnTo us i i) rfl rfl (by rw [downs_len]; omega) ?_
    walk_at "v"
    refine ⟨_, rng1N (b := i) (by omega) (by omega), ?_⟩
    refine ⟨fit_one (by simp; omega), _, compP_fil (fun o => decide (i + 1 < us.getD o 0)) (fun n => .int ((n + 1 : Nat) : Int)) (fun n hn => cm_if rfl ?_ fun _ => ?_), ?_⟩
    · rw [List.mem_range] at hn
      walk_at "v"
      rw [Int.toNat_natCast, decide_eq_decide]
      omega
    · walk_at "v"
      rfl
    rw [nv_map (f := fun n => n + 1)]
    refine ob_catN (a := [0]) (by simp; have := List.length_filter_le (fun o => decide (i + 1 < us.getD o 0)) (List.range i); simp at this; omega) ?_
    walk_at "v"
    refine of_maxN (by simp) fun M hM hle => ?_
    have eM : M = dnTo us i i := by
      refine dn_is ?_ fun w w1 w2 w3 => ?_
      · rcases List.mem_append.mp hM with z | z
        · exact .inl (List.mem_singleton.mp z)
        · obtain ⟨o, ho, rfl⟩ := List.mem_map.mp z
          have h8 := List.mem_filter.mp ho
          have := List.mem_range.mp h8.1
          have := of_decide_eq_true h8.2
          exact .inr ⟨by omega, by omega, by rw [Nat.add_sub_cancel]; omega⟩
      · refine hle w (List.mem_append_right _ (List.mem_map.mpr ⟨w - 1, List.mem_filter.mpr ⟨List.mem_range.mpr (by omega), decide_eq_true w3⟩, by omega⟩))
    walk_at "v"
    refine ⟨by rw [eM], rfl, ?_⟩
    walk_at "v"
    rw [show downsL us (i + 1) = downsL us i ++ [dnTo us i i] by simp [downsL, List.range_succ]]
    refine ⟨_, _, _, t', rfl, fun j hj => ?_⟩
    by_cases e : j = i
    · rw [e]; exact hnest
    · exact hne j (by omega)
  · rintro σ ⟨y, z, w, t', rfl, hne⟩
    rw [len_enm, List.length_map] at hne ⊢
    walk_at "v"
    exact q1 hne
end
section
variable {T : Tab} {io : Str → List Bool} {fu k : Nat} [HasF T io "up_for" g_up_for []] [HasF T io "check_down" g_check_down []] [HasF T io "ups_of" g_ups_of []] [HasF T io "is_whole" g_is_whole []] [HasC T "MOST_PLACES" (.int 16)]
theorem up_for_v {ds : List Nat} {t : Bool} {P : PV → List (Option PV) → Prop} (hn : 1 ≤ ds.length ∧ ds.length ≤ 16) (ok : DnOk ds) (q1 : Nest ds → P (nv true (upsL ds ds.length)) []) (q2 : ¬ Nest ds → P .non []) : Cl T io fu (k + 3) "up_for" [nv t ds] P := by
  refine cl_ofI rfl ?_
  dsimp only [g_up_for]
  walk_at "v0"
  walk_at "v"
  refine check_down_v hn ok ?_
  walk_at "v"
  refine ups_any_v ok hn.2 (fun h => ?_) (fun h => ?_)
  · walk_at "v"
    exact q1 h
  · walk_at "v"
    exact q2 h
end
section
variable {T : Tab} {io : Str → List Bool} {fu k : Nat} [HasF T io "down_for" g_down_for []] [HasF T io "check_up" g_check_up []] [HasF T io "downs_of" g_downs_of []] [HasF T io "is_whole" g_is_whole []] [HasC T "MOST_PLACES" (.int 16)]
theorem down_for_v {us : List Nat} {t : Bool} {P : PV → List (Option PV) → Prop} (hn : 1 ≤ us.length ∧ us.length ≤ 16) (ok : UpOk us) (q1 : NestU us → P (nv true (downsL us us.length)) []) (q2 : ¬ NestU us → P .non []) : Cl T io fu (k + 3) "down_for" [nv t us] P := by
  refine cl_ofI rfl ?_
  dsimp only [g_down_for]
  walk_at "v0"
  walk_at "v"
  refine check_up_v hn ok ?_
  walk_at "v"
  refine downs_any_v ok hn.2 (fun h => ?_) (fun h => ?_)
  · walk_at "v"
    exact q1 h
  · walk_at "v"
    exact q2 h
end

def T : Tab := ⟨[("is_whole", g_is_whole), ("check_down", g_check_down), ("check_up", g_check_up), ("check_pair", g_check_pair), ("ups_of", g_ups_of), ("downs_of", g_downs_of), ("is_right_pair", g_is_right_pair), ("is_right", g_is_right), ("up_for", g_up_for), ("down_for", g_down_for), ("_law_draws", g_law_draws), ("_law_next", g_law_next), ("_law_pair", g_law_pair), ("_law_tree", g_law_tree), ("_law_bent", g_law_bent), ("_law_any", g_law_any), ("_law_lists", g_law_lists), ("_law_all_pairs", g_law_all_pairs), ("_law_ups", g_k22_law_ups), ("_law_downs", g_k22_law_downs), ("_law_right", g_k22_law_right), ("law", g_k22_law)],
  [("MOST_PLACES", .int 16)],
  [("up_for", 0, ["down"]), ("down_for", 0, ["up"])]⟩
def ioL : List (Str × List Bool) := [("_law_next", [true]), ("_law_pair", [true, false]), ("_law_tree", [true, false]), ("_law_bent", [true, false]), ("_law_any", [true, false])]
def io (f : Str) : List Bool := (ioL.lookup f).getD []
instance : HasF T io "is_whole" g_is_whole [] := ⟨rfl, by rfl⟩
instance : HasF T io "check_down" g_check_down [] := ⟨rfl, by rfl⟩
instance : HasF T io "check_up" g_check_up [] := ⟨rfl, by rfl⟩
instance : HasF T io "check_pair" g_check_pair [] := ⟨rfl, by rfl⟩
instance : HasF T io "ups_of" g_ups_of [] := ⟨rfl, by rfl⟩
instance : HasF T io "downs_of" g_downs_of [] := ⟨rfl, by rfl⟩
instance : HasF T io "is_right_pair" g_is_right_pair [] := ⟨rfl, by rfl⟩
instance : HasF T io "is_right" g_is_right [] := ⟨rfl, by rfl⟩
instance : HasF T io "up_for" g_up_for [] := ⟨rfl, by rfl⟩
instance : HasF T io "down_for" g_down_for [] := ⟨rfl, by rfl⟩
instance : HasF T io "_law_draws" g_law_draws [] := ⟨rfl, by rfl⟩
instance : HasF T io "_law_next" g_law_next [true] := ⟨rfl, by rfl⟩
instance : HasF T io "_law_pair" g_law_pair [true, false] := ⟨rfl, by rfl⟩
instance : HasF T io "_law_tree" g_law_tree [true, false] := ⟨rfl, by rfl⟩
instance : HasF T io "_law_bent" g_law_bent [true, false] := ⟨rfl, by rfl⟩
instance : HasF T io "_law_any" g_law_any [true, false] := ⟨rfl, by rfl⟩
instance : HasF T io "_law_lists" g_law_lists [] := ⟨rfl, by rfl⟩
instance : HasF T io "_law_all_pairs" g_law_all_pairs [] := ⟨rfl, by rfl⟩
instance : HasF T io "_law_ups" g_k22_law_ups [] := ⟨rfl, by rfl⟩
instance : HasF T io "_law_downs" g_k22_law_downs [] := ⟨rfl, by rfl⟩
instance : HasF T io "_law_right" g_k22_law_right [] := ⟨rfl, by rfl⟩
instance : HasF T io "law" g_k22_law [] := ⟨rfl, by rfl⟩
instance : HasC T "MOST_PLACES" (.int 16) := ⟨rfl⟩
section
variable {fu k : Nat}
theorem law_ups_v {ds : List Nat} {t : Bool} {P : PV → List (Option PV) → Prop} (ok : DnOk ds) (hm : ds.length ≤ 16) (q1 : Nest ds → P (nv true (upsL ds ds.length)) []) (q2 : ¬ Nest ds → P .non []) : Cl T io fu (k + 1) "_law_ups" [nv t ds] P := by
  refine cl_ofI rfl ?_
  dsimp only [g_k22_law_ups]
  walk_at "v0"
  walk_at "v"
  refine ⟨_, rng2N (a := 1) (b := ds.length + 1) (by omega) (by omega) (by omega), ?_⟩
  rw [Nat.add_sub_cancel]
  refine for_by (fun i σ => ∃ x y z, σ = [some (nv t ds), some (.int (ds.length : Nat)), some (nv true ((List.range i).map (upTo ds ds.length))), x, y, z] ∧ ∀ j, j < i → nestAt ds j) ⟨_, _, _, rfl, fun j hj => by omega⟩ ?_ ?_
  · rintro i itm σ hi0 ⟨x, y, z, rfl, hne⟩
    have hi : i < ds.length := by
      refine Decidable.byContradiction fun z => ?_
      rw [List.getElem?_eq_none (by simp; omega)] at hi0; cases hi0
    rw [List.getElem?_map, List.getElem?_map, List.getElem?_range' hi] at hi0
    have e0 : itm = .one (.int ((i + 1 : Nat) : Int)) := by
      rw [← Option.some.inj hi0, show 1 + 1 * i = i + 1 by omega]
    subst e0
    have hd := ok i hi
    refine ⟨_, rfl, ?_⟩
    walk_at "v"
    have ed : (((i + 1 : Nat) : Int) - 1).toNat = i := by omega
    rw [ed]
    refine ⟨_, rng2N (a := ds.getD i 0 + 1) (b := i + 1) (by omega) (by omega) (by omega), ?_⟩
    refine ⟨fit_one (by simp; omega), _, compP_fil (fun n => decide (ds.getD (n - 1) 0 < ds.getD i 0)) (fun n => .int (n : Int)) (fun n hn => cm_if rfl ?_ fun _ => ?_), ?_⟩
    · rw [List.mem_range'_1] at hn
      walk_at "v"
      rw [ed, show ((n : Int) - 1).toNat = n - 1 by omega, decide_eq_decide]
      omega
    · walk_at "v"
    rw [← nv_LL]
    walk_at "v"
    refine oc_neN (b := []) (fun n hn => ?_) (by simp) ?_
    · have := (List.mem_range'_1.mp (List.mem_filter.mp hn).1).2; omega
    refine if_ndec (fun hf => ?_) (fun hf => ?_)
    · walk_at "v"
      refine q2 fun hN => hf ?_
      rw [List.filter_eq_nil_iff]
      intro x hx
      have hx := List.mem_range'_1.mp hx
      have := hN i hi (x - 1) (by omega) (by omega)
      rw [decide_eq_true_eq]
      omega
    have hnest : nestAt ds i := fun q h6 h7 => by
      have := List.filter_eq_nil_iff.mp hf (q + 1) (List.mem_range'_1.mpr ⟨by omega, by omega⟩)
      simp only [decide_eq_true_eq, Nat.add_sub_cancel] at this
      omega
    walk_at "v"
    refine x_appN (m := upTo ds ds.length i) rfl rfl (by simp; omega) ?_
    walk_at "v"
    refine ⟨_, rng2N (a := i + 2) (b := ds.length + 1) (by omega) (by omega) (by omega), ?_⟩
    refine ⟨fit_one (by simp; omega), _, compP_fil (fun n => decide (ds.getD (n - 1) 0 < i + 1)) (fun n => .int (n : Int)) (fun n hn => cm_if rfl ?_ fun _ => ?_), ?_⟩
    · rw [List.mem_range'_1] at hn
      walk_at "v"
      rw [show ((n : Int) - 1).toNat = n - 1 by omega, decide_eq_decide]
      omega
    · walk_at "v"
    rw [← nv_LL]
    walk_at "v"
    have hlen : ((List.range' (i + 2) (ds.length + 1 - (i + 2))).filter (fun n => decide (ds.getD (n - 1) 0 < i + 1))).length ≤ 100 := Nat.le_trans (List.length_filter_le _ _) (by simp; omega)
    rw [show LL true [PV.int ((ds.length : Int) + 1)] = nv true [ds.length + 1] from rfl]
    refine ob_catN (by rw [List.length_singleton]; omega) ?_
    obtain ⟨xs, exs⟩ := first_up (ds := ds) hi
    rw [exs]
    walk_at "v"
    refine oi_nv (by omega) (by rw [List.length_cons]; omega) ?_
    walk_at "v"
    refine ⟨rfl, rfl, ?_⟩
    walk_at "v"
    rw [List.range_succ, List.map_append]
    refine ⟨_, _, _, rfl, fun j hj => ?_⟩
    by_cases e : j = i
    · rw [e]; exact hnest
    · exact hne j (by omega)
  · rintro σ ⟨x, y, z, rfl, hne⟩
    rw [List.length_map, List.length_map, List.length_range'] at hne ⊢
    walk_at "v"
    exact q1 hne
theorem law_downs_v {us : List Nat} {t : Bool} {P : PV → List (Option PV) → Prop} (ok : UpOk us) (hm : us.length ≤ 16) (q1 : NestU us → P (nv true (downsL us us.length)) []) (q2 : ¬ NestU us → P .non []) : Cl T io fu (k + 1) "_law_downs" [nv t us] P := by
  refine cl_ofI rfl ?_
  dsimp only [g_k22_law_downs]
  walk_at "v0"
  walk_at "v"
  refine ⟨_, rng2N (a := 1) (b := us.length + 1) (by omega) (by omega) (by omega), ?_⟩
  rw [Nat.add_sub_cancel]
  refine for_by (fun i σ => ∃ x y z, σ = [some (nv t us), some (nv true (downsL us i)), x, y, z] ∧ ∀ j, j < i → nestUAt us j) ⟨_, _, _, rfl, fun j hj => by omega⟩ ?_ ?_
  · rintro i itm σ hi0 ⟨x, y, z, rfl, hne⟩
    have hi : i < us.length := by
      refine Decidable.byContradiction fun z => ?_
      rw [List.getElem?_eq_none (by simp; omega)] at hi0; cases hi0
    rw [List.getElem?_map, List.getElem?_map, List.getElem?_range' hi] at hi0
    have e0 : itm = .one (.int ((i + 1 : Nat) : Int)) := by
      rw [← Option.some.inj hi0, show 1 + 1 * i = i + 1 by omega]
    subst e0
    have hu := ok i hi
    refine ⟨_, rfl, ?_⟩
    walk_at "v"
    have ed : (((i + 1 : Nat) : Int) - 1).toNat = i := by omega
    rw [ed]
    refine ⟨_, rng2N (a := i + 2) (b := us.getD i 0) (by omega) (by omega) (by omega), ?_⟩
    refine ⟨fit_one (by rw [List.length_range']; omega), _, compP_fil (fun n => decide (us.getD i 0 < us.getD (n - 1) 0)) (fun n => .int (n : Int)) (fun n hn => cm_if rfl ?_ fun _ => ?_), ?_⟩
    · rw [List.mem_range'_1] at hn
      walk_at "v"
      rw [ed, show ((n : Int) - 1).toNat = n - 1 by omega, decide_eq_decide]
      omega
    · walk_at "v"
    rw [← nv_LL]
    walk_at "v"
    refine oc_neN (b := []) (fun n hn => ?_) (by simp) ?_
    · have := (List.mem_range'_1.mp (List.mem_filter.mp hn).1).2; omega
    refine if_ndec (fun hf => ?_) (fun hf => ?_)
    · walk_at "v"
      refine q2 fun hN => hf ?_
      rw [List.filter_eq_nil_iff]
      intro x hx
      have hx := List.mem_range'_1.mp hx
      have := hN i hi (x - 1) (by omega) (by omega)
      rw [decide_eq_true_eq]
      omega
    have hnest : nestUAt us i := fun q h6 h7 => by
      have := List.filter_eq_nil_iff.mp hf (q + 1) (List.mem_range'_1.mpr ⟨by omega, by omega⟩)
      simp only [decide_eq_true_eq, Nat.add_sub_cancel] at this
      omega
    walk_at "v"
    refine x_appN (m := dnTo us i i) rfl rfl (by rw [downs_len]; omega) ?_
    walk_at "v"
    refine ⟨_, rng2N (a := 1) (b := i + 1) (by omega) (by omega) (by omega), ?_⟩
    rw [Nat.add_sub_cancel]
    refine ⟨fit_one (by simp; omega), _, compP_fil (fun n => decide (i + 1 < us.getD (n - 1) 0)) (fun n => .int (n : Int)) (fun n hn => cm_if rfl ?_ fun _ => ?_), ?_⟩
    · rw [List.mem_range'_1] at hn
      walk_at "v"
      rw [show ((n : Int) - 1).toNat = n - 1 by omega, decide_eq_decide]
      omega
    · walk_at "v"
    rw [← nv_LL]
    have hlen : ((List.range' 1 i).filter (fun n => decide (i + 1 < us.getD (n - 1) 0))).length ≤ 100 := Nat.le_trans (List.length_filter_le _ _) (by simp; omega)
    refine ob_catN (a := [0]) (by rw [List.length_singleton]; omega) ?_
    obtain ⟨xs, exs⟩ := last_dn (us := us) (i := i)
    rw [exs]
    walk_at "v"
    refine v_neg (i := 0) ?_
    walk_at "v"
    refine oi_last ?_
    walk_at "v"
    refine ⟨rfl, rfl, ?_⟩
    walk_at "v"
    rw [show downsL us (i + 1) = downsL us i ++ [dnTo us i i] by simp [downsL, List.range_succ]]
    refine ⟨_, _, _, rfl, fun j hj => ?_⟩
    by_cases e : j = i
    · rw [e]; exact hnest
    · exact hne j (by omega)
  · rintro σ ⟨x, y, z, rfl, hne⟩
    rw [List.length_map, List.length_map, List.length_range'] at hne ⊢
    walk_at "v"
    exact q1 hne
end
section
variable {fu k : Nat}
theorem law_right_v {ds us : List Nat} {t u : Bool} {P : PV → List (Option PV) → Prop} (hf : 20 ≤ fu) (ok : PrOk 16 ds us) (q : P (.bl true) []) : Cl T io fu (k + 5) "_law_right" [nv t ds, nv u us] P := by
  have h0 := ok.pos
  have h1 := ok.top
  have h2 := ok.len
  have hs := pr_small ok (by omega)
  have pA : PrOk 16 ds (upsL ds ds.length) := ups_pr (by omega) ok.dn
  have pB : PrOk 16 (downsL us us.length) us := downs_pr (by omega) ok.up
  have gA := pr_small pA (by omega)
  have gB := pr_small pB (by omega)
  have sU : ∀ n, n ∈ us → n < 1000000000000 := fun n hn => by have := hs.2 n hn; omega
  have sD : ∀ n, n ∈ ds → n < 1000000000000 := fun n hn => by have := hs.1 n hn; omega
  have sA : ∀ n, n ∈ upsL ds ds.length → n < 1000000000000 := fun n hn => by have := gA.2 n hn; omega
  have sB : ∀ n, n ∈ downsL us us.length → n < 1000000000000 := fun n hn => by have := gB.1 n hn; omega
  have oA := (dOk_dN sA).mono (m := 1) (u := 1000) (Nat.le_refl _) (by rw [ups_len]; omega)
  have oB := (dOk_dN sB).mono (m := 1) (u := 1000) (Nat.le_refl _) (by rw [downs_len]; omega)
  have oN : DOk .none 1 1000 := DOk.mono (n := 0) (w := 4) (by constructor <;> decide) (by omega) (by omega)
  have oK : DOk (.list [dN ds, dN us]) 2 3000 := ((DsOk.cons ((dOk_dN sD).mono (m := 1) (u := 1000) (Nat.le_refl _) (by omega)) (DsOk.cons ((dOk_dN sU).mono (m := 1) (u := 1000) (Nat.le_refl _) (by omega)) (DsOk.nil (w := 0)))).list).mono (by omega) (by omega)
  have tK : ∀ a b c, toD (LL a [nv b ds, nv c us]) = some (.list [dN ds, dN us]) := fun a b c => toD_LL (by simp only [toDs, toD_nv])
  by_cases hN : Nest ds
  · by_cases hU : NestU us
    · have oX : DOk (.list [dN (upsL ds ds.length), dN (downsL us us.length)]) 2 3000 := ((DsOk.cons oA (DsOk.cons oB (DsOk.nil (w := 0)))).list).mono (by omega) (by omega)
      have tX : ∀ a b : Bool, toD (LL a [nv b (upsL ds ds.length), nv b (downsL us us.length)]) = some (.list [dN (upsL ds ds.length), dN (downsL us us.length)]) := fun a b => toD_LL (by simp only [toDs, toD_nv, toD])
      have shX : ∀ a, sh (LL a [nv true (upsL ds ds.length), nv true (downsL us us.length)]) = LL false [nv false (upsL ds ds.length), nv false (downsL us us.length)] := fun a => by simp only [sh_LL, shs_cons, shs_nil, sh_nv, sh_non]
      refine cl_ofI rfl ?_
      dsimp only [g_k22_law_right]
      walk_at "v0"
      walk_at "v"
      try rw [shX]
      refine of_repr (tK _ _ _) ⟨_, _, _, rfl⟩ oK (by omega) (by omega) ?_
      walk_at "v"
      refine law_ups_v ok.dn (by omega) (fun _ => ?_) (fun h => absurd hN h)
      walk_at "v"
      refine law_downs_v ok.up (by omega) (fun _ => ?_) (fun h => absurd hU h)
      walk_at "v"
      refine up_for_v (by omega) ok.dn (fun _ => ?_) (fun h => absurd hN h)
      walk_at "v"
      refine down_for_v (by omega) ok.up (fun _ => ?_) (fun h => absurd hU h)
      walk_at "v"
      try rw [shX]
      refine of_repr (tX _ _) ⟨_, _, _, rfl⟩ oX (by omega) (by omega) ?_
      walk_at "v"
      try rw [shX]
      refine of_repr (tX _ _) ⟨_, _, _, rfl⟩ oX (by omega) (by omega) ?_
      walk_at "v"
      rw [decide_eq_true rfl]
      walk_at "v"
      refine v_callKI ?_
      walk_at "v"
      refine cl_sh (ys := [nv false ds]) (by show shs [nv false ds] = _; simp only [shs_cons, shs_nil, sh_nv]) ?_
      refine up_for_v (by omega) ok.dn (fun _ => ?_) (fun h => absurd hN h)
      walk_at "v"
      refine v_callKI ?_
      walk_at "v"
      refine cl_sh (ys := [nv false us]) (by show shs [nv false us] = _; simp only [shs_cons, shs_nil, sh_nv]) ?_
      refine down_for_v (by omega) ok.up (fun _ => ?_) (fun h => absurd hU h)
      walk_at "v"
      try rw [shX]
      refine of_repr (tX _ _) ⟨_, _, _, rfl⟩ oX (by omega) (by omega) ?_
      walk_at "v"
      try rw [shX]
      refine of_repr (tX _ _) ⟨_, _, _, rfl⟩ oX (by omega) (by omega) ?_
      walk_at "v"
      rw [decide_eq_true rfl]
      walk_at "v"
      try rw [shX]
      refine oi_L (z := nv false (upsL ds ds.length)) rfl ?_
      walk_at "v"
      refine oc_eqN sA sU ?_
      walk_at "v"
      try rw [shX]
      refine of_repr (tK _ _ _) ⟨_, _, _, rfl⟩ oK (by omega) (by omega) ?_
      walk_at "v"
      rw [decide_eq_true rfl]
      walk_at "v"
      refine is_right_any_v ok (by omega) fun b rb => ?_
      have eb : b = decide ((upsL ds ds.length) = us) := by
        rw [Bool.eq_iff_iff, rb, ← right_iff ok, decide_eq_true_iff]
        exact ⟨fun h => h.2.symm, fun h => ⟨hN, h.symm⟩⟩
      subst eb
      walk_at "v"
      rw [decide_eq_true rfl]
      walk_at "v"
      try rw [shX]
      refine oi_L (z := nv false (downsL us us.length)) rfl ?_
      walk_at "v"
      refine oc_eqN sB sD ?_
      walk_at "v"
      have ef : decide (decide ((downsL us us.length) = ds) = decide ((upsL ds ds.length) = us)) = true := by
        rw [decide_eq_true_iff, Bool.eq_iff_iff, decide_eq_true_iff, decide_eq_true_iff]
        exact ⟨fun h => ((right_iff ok).mpr ((right_iffU ok).mp ⟨hU, h.symm⟩)).2.symm, fun h => ((right_iffU ok).mpr ((right_iff ok).mp ⟨hN, h.symm⟩)).2.symm⟩
      rw [ef]
      walk_at "v"
      try rw [shX]
      refine oi_L (z := nv false (upsL ds ds.length)) rfl ?_
      walk_at "v"
      refine oc_notN (b := true) rfl ?_
      walk_at "v"
      try rw [shX]
      refine oi_L (z := nv false (upsL ds ds.length)) rfl ?_
      walk_at "v"
      show Cl T io fu (k + 4) "is_right" [prv false ds (upsL ds ds.length)] _
      refine is_right_any_v pA (by omega) fun b rb => ?_
      have eb : b = true := rb.mpr ((right_iff pA).mp ⟨hN, rfl⟩)
      subst eb
      walk_at "v"
      try rw [shX]
      refine oi_L (z := nv false (upsL ds ds.length)) rfl ?_
      walk_at "v"
      have hAU := (right_iffU pA).mpr ((right_iff pA).mp ⟨hN, rfl⟩)
      refine down_for_v (by rw [ups_len]; omega) pA.up (fun _ => ?_) (fun h => absurd hAU.1 h)
      rw [← hAU.2]
      walk_at "v"
      refine oc_neN sD sD ?_
      rw [decide_eq_true rfl]
      walk_at "v"
      try rw [shX]
      refine oi_L (z := nv false (downsL us us.length)) rfl ?_
      walk_at "v"
      refine oc_notN (b := true) rfl ?_
      walk_at "v"
      try rw [shX]
      refine oi_L (z := nv false (downsL us us.length)) rfl ?_
      walk_at "v"
      show Cl T io fu (k + 4) "is_right" [prv false (downsL us us.length) us] _
      refine is_right_any_v pB (by omega) fun b rb => ?_
      have eb : b = true := rb.mpr ((right_iffU pB).mp ⟨hU, rfl⟩)
      subst eb
      walk_at "v"
      try rw [shX]
      refine oi_L (z := nv false (downsL us us.length)) rfl ?_
      walk_at "v"
      have hBU := (right_iff pB).mpr ((right_iffU pB).mp ⟨hU, rfl⟩)
      refine up_for_v (by rw [downs_len]; omega) pB.dn (fun _ => ?_) (fun h => absurd hBU.1 h)
      rw [← hBU.2]
      walk_at "v"
      refine oc_neN sU sU ?_
      rw [decide_eq_true rfl]
      walk_at "v"
      refine for_by (fun i σ => ∃ x4 x6, σ = [some (nv t ds), some (nv u us), some (.str (PyData.list [dN ds, dN us]).shown), some (LL true [nv true (upsL ds ds.length), nv true (downsL us us.length)]), x4, some (.bl (decide ((upsL ds ds.length) = us))), x6]) ⟨_, _, rfl⟩ ?_ ?_
      · rintro i itm σ hi0 ⟨x4, x6, rfl⟩
        obtain ⟨p, hp, rfl⟩ := at_items hi0
        refine ⟨_, rfl, ?_⟩
        have hp2 : p = nv true (upsL ds ds.length) ∨ p = nv true (downsL us us.length) := by
          rcases List.mem_cons.mp hp with z | z
          · exact .inl z
          · exact .inr (List.mem_singleton.mp z)
        rcases hp2 with rfl | rfl
        · walk_at "v"
          refine oc_notN (b := true) rfl ?_
          walk_at "v"
          refine x_append rfl rfl rfl ?_
          walk_at "v"
          refine ⟨_, rfl, by rw [List.length_map, ups_len]; omega, ?_⟩
          walk_at "v"
          exact ⟨_, _, rfl⟩
        · walk_at "v"
          refine oc_notN (b := true) rfl ?_
          walk_at "v"
          refine x_append rfl rfl rfl ?_
          walk_at "v"
          refine ⟨_, rfl, by rw [List.length_map, downs_len]; omega, ?_⟩
          walk_at "v"
          exact ⟨_, _, rfl⟩
      rintro σ ⟨x4, x6, rfl⟩
      walk_at "v"
      refine up_for_v (by omega) ok.dn (fun _ => ?_) (fun h => absurd hN h)
      walk_at "v"
      refine down_for_v (by omega) ok.up (fun _ => ?_) (fun h => absurd hU h)
      walk_at "v"
      try rw [shX]
      refine of_repr (tX _ _) ⟨_, _, _, rfl⟩ oX (by omega) (by omega) ?_
      walk_at "v"
      try rw [shX]
      refine of_repr (tX _ _) ⟨_, _, _, rfl⟩ oX (by omega) (by omega) ?_
      walk_at "v"
      rw [decide_eq_true rfl]
      walk_at "v"
      try rw [shX]
      refine of_repr (tK _ _ _) ⟨_, _, _, rfl⟩ oK (by omega) (by omega) ?_
      walk_at "v"
      rw [decide_eq_true rfl]
      walk_at "v"
      exact q
    · have oX : DOk (.list [dN (upsL ds ds.length), .none]) 2 3000 := ((DsOk.cons oA (DsOk.cons oN (DsOk.nil (w := 0)))).list).mono (by omega) (by omega)
      have tX : ∀ a b : Bool, toD (LL a [nv b (upsL ds ds.length), .non]) = some (.list [dN (upsL ds ds.length), .none]) := fun a b => toD_LL (by simp only [toDs, toD_nv, toD])
      have shX : ∀ a, sh (LL a [nv true (upsL ds ds.length), .non]) = LL false [nv false (upsL ds ds.length), .non] := fun a => by simp only [sh_LL, shs_cons, shs_nil, sh_nv, sh_non]
      refine cl_ofI rfl ?_
      dsimp only [g_k22_law_right]
      walk_at "v0"
      walk_at "v"
      try rw [shX]
      refine of_repr (tK _ _ _) ⟨_, _, _, rfl⟩ oK (by omega) (by omega) ?_
      walk_at "v"
      refine law_ups_v ok.dn (by omega) (fun _ => ?_) (fun h => absurd hN h)
      walk_at "v"
      refine law_downs_v ok.up (by omega) (fun h => absurd h hU) (fun _ => ?_)
      walk_at "v"
      refine up_for_v (by omega) ok.dn (fun _ => ?_) (fun h => absurd hN h)
      walk_at "v"
      refine down_for_v (by omega) ok.up (fun h => absurd h hU) (fun _ => ?_)
      walk_at "v"
      try rw [shX]
      refine of_repr (tX _ _) ⟨_, _, _, rfl⟩ oX (by omega) (by omega) ?_
      walk_at "v"
      try rw [shX]
      refine of_repr (tX _ _) ⟨_, _, _, rfl⟩ oX (by omega) (by omega) ?_
      walk_at "v"
      rw [decide_eq_true rfl]
      walk_at "v"
      refine v_callKI ?_
      walk_at "v"
      refine cl_sh (ys := [nv false ds]) (by show shs [nv false ds] = _; simp only [shs_cons, shs_nil, sh_nv]) ?_
      refine up_for_v (by omega) ok.dn (fun _ => ?_) (fun h => absurd hN h)
      walk_at "v"
      refine v_callKI ?_
      walk_at "v"
      refine cl_sh (ys := [nv false us]) (by show shs [nv false us] = _; simp only [shs_cons, shs_nil, sh_nv]) ?_
      refine down_for_v (by omega) ok.up (fun h => absurd h hU) (fun _ => ?_)
      walk_at "v"
      try rw [shX]
      refine of_repr (tX _ _) ⟨_, _, _, rfl⟩ oX (by omega) (by omega) ?_
      walk_at "v"
      try rw [shX]
      refine of_repr (tX _ _) ⟨_, _, _, rfl⟩ oX (by omega) (by omega) ?_
      walk_at "v"
      rw [decide_eq_true rfl]
      walk_at "v"
      try rw [shX]
      refine oi_L (z := nv false (upsL ds ds.length)) rfl ?_
      walk_at "v"
      refine oc_eqN sA sU ?_
      walk_at "v"
      try rw [shX]
      refine of_repr (tK _ _ _) ⟨_, _, _, rfl⟩ oK (by omega) (by omega) ?_
      walk_at "v"
      rw [decide_eq_true rfl]
      walk_at "v"
      refine is_right_any_v ok (by omega) fun b rb => ?_
      have eb : b = decide ((upsL ds ds.length) = us) := by
        rw [Bool.eq_iff_iff, rb, ← right_iff ok, decide_eq_true_iff]
        exact ⟨fun h => h.2.symm, fun h => ⟨hN, h.symm⟩⟩
      subst eb
      walk_at "v"
      rw [decide_eq_true rfl]
      walk_at "v"
      try rw [shX]
      refine oi_L (z := .non) rfl ?_
      walk_at "v"
      refine oc_eqNonL sD ?_
      walk_at "v"
      have ef : decide (false = decide ((upsL ds ds.length) = us)) = true := by
        rw [decide_eq_true_iff, eq_comm, decide_eq_false_iff_not]
        exact fun h => hU ((right_iffU ok).mpr ((right_iff ok).mp ⟨hN, h.symm⟩)).1
      rw [ef]
      walk_at "v"
      try rw [shX]
      refine oi_L (z := nv false (upsL ds ds.length)) rfl ?_
      walk_at "v"
      refine oc_notN (b := true) rfl ?_
      walk_at "v"
      try rw [shX]
      refine oi_L (z := nv false (upsL ds ds.length)) rfl ?_
      walk_at "v"
      show Cl T io fu (k + 4) "is_right" [prv false ds (upsL ds ds.length)] _
      refine is_right_any_v pA (by omega) fun b rb => ?_
      have eb : b = true := rb.mpr ((right_iff pA).mp ⟨hN, rfl⟩)
      subst eb
      walk_at "v"
      try rw [shX]
      refine oi_L (z := nv false (upsL ds ds.length)) rfl ?_
      walk_at "v"
      have hAU := (right_iffU pA).mpr ((right_iff pA).mp ⟨hN, rfl⟩)
      refine down_for_v (by rw [ups_len]; omega) pA.up (fun _ => ?_) (fun h => absurd hAU.1 h)
      rw [← hAU.2]
      walk_at "v"
      refine oc_neN sD sD ?_
      rw [decide_eq_true rfl]
      walk_at "v"
      try rw [shX]
      refine oi_L (z := .non) rfl ?_
      walk_at "v"
      refine oc_notN (b := false) rfl ?_
      walk_at "v"
      refine for_by (fun i σ => ∃ x4 x6, σ = [some (nv t ds), some (nv u us), some (.str (PyData.list [dN ds, dN us]).shown), some (LL true [nv true (upsL ds ds.length), .non]), x4, some (.bl (decide ((upsL ds ds.length) = us))), x6]) ⟨_, _, rfl⟩ ?_ ?_
      · rintro i itm σ hi0 ⟨x4, x6, rfl⟩
        obtain ⟨p, hp, rfl⟩ := at_items hi0
        refine ⟨_, rfl, ?_⟩
        have hp2 : p = nv true (upsL ds ds.length) ∨ p = .non := by
          rcases List.mem_cons.mp hp with z | z
          · exact .inl z
          · exact .inr (List.mem_singleton.mp z)
        rcases hp2 with rfl | rfl
        · walk_at "v"
          refine oc_notN (b := true) rfl ?_
          walk_at "v"
          refine x_append rfl rfl rfl ?_
          walk_at "v"
          refine ⟨_, rfl, by rw [List.length_map, ups_len]; omega, ?_⟩
          walk_at "v"
          exact ⟨_, _, rfl⟩
        · walk_at "v"
          refine oc_notN (b := false) rfl ?_
          walk_at "v"
          exact ⟨_, _, rfl⟩
      rintro σ ⟨x4, x6, rfl⟩
      walk_at "v"
      refine up_for_v (by omega) ok.dn (fun _ => ?_) (fun h => absurd hN h)
      walk_at "v"
      refine down_for_v (by omega) ok.up (fun h => absurd h hU) (fun _ => ?_)
      walk_at "v"
      try rw [shX]
      refine of_repr (tX _ _) ⟨_, _, _, rfl⟩ oX (by omega) (by omega) ?_
      walk_at "v"
      try rw [shX]
      refine of_repr (tX _ _) ⟨_, _, _, rfl⟩ oX (by omega) (by omega) ?_
      walk_at "v"
      rw [decide_eq_true rfl]
      walk_at "v"
      try rw [shX]
      refine of_repr (tK _ _ _) ⟨_, _, _, rfl⟩ oK (by omega) (by omega) ?_
      walk_at "v"
      rw [decide_eq_true rfl]
      walk_at "v"
      exact q
  · by_cases hU : NestU us
    · have oX : DOk (.list [.none, dN (downsL us us.length)]) 2 3000 := ((DsOk.cons oN (DsOk.cons oB (DsOk.nil (w := 0)))).list).mono (by omega) (by omega)
      have tX : ∀ a b : Bool, toD (LL a [.non, nv b (downsL us us.length)]) = some (.list [.none, dN (downsL us us.length)]) := fun a b => toD_LL (by simp only [toDs, toD_nv, toD])
      have shX : ∀ a, sh (LL a [.non, nv true (downsL us us.length)]) = LL false [.non, nv false (downsL us us.length)] := fun a => by simp only [sh_LL, shs_cons, shs_nil, sh_nv, sh_non]
      refine cl_ofI rfl ?_
      dsimp only [g_k22_law_right]
      walk_at "v0"
      walk_at "v"
      try rw [shX]
      refine of_repr (tK _ _ _) ⟨_, _, _, rfl⟩ oK (by omega) (by omega) ?_
      walk_at "v"
      refine law_ups_v ok.dn (by omega) (fun h => absurd h hN) (fun _ => ?_)
      walk_at "v"
      refine law_downs_v ok.up (by omega) (fun _ => ?_) (fun h => absurd hU h)
      walk_at "v"
      refine up_for_v (by omega) ok.dn (fun h => absurd h hN) (fun _ => ?_)
      walk_at "v"
      refine down_for_v (by omega) ok.up (fun _ => ?_) (fun h => absurd hU h)
      walk_at "v"
      try rw [shX]
      refine of_repr (tX _ _) ⟨_, _, _, rfl⟩ oX (by omega) (by omega) ?_
      walk_at "v"
      try rw [shX]
      refine of_repr (tX _ _) ⟨_, _, _, rfl⟩ oX (by omega) (by omega) ?_
      walk_at "v"
      rw [decide_eq_true rfl]
      walk_at "v"
      refine v_callKI ?_
      walk_at "v"
      refine cl_sh (ys := [nv false ds]) (by show shs [nv false ds] = _; simp only [shs_cons, shs_nil, sh_nv]) ?_
      refine up_for_v (by omega) ok.dn (fun h => absurd h hN) (fun _ => ?_)
      walk_at "v"
      refine v_callKI ?_
      walk_at "v"
      refine cl_sh (ys := [nv false us]) (by show shs [nv false us] = _; simp only [shs_cons, shs_nil, sh_nv]) ?_
      refine down_for_v (by omega) ok.up (fun _ => ?_) (fun h => absurd hU h)
      walk_at "v"
      try rw [shX]
      refine of_repr (tX _ _) ⟨_, _, _, rfl⟩ oX (by omega) (by omega) ?_
      walk_at "v"
      try rw [shX]
      refine of_repr (tX _ _) ⟨_, _, _, rfl⟩ oX (by omega) (by omega) ?_
      walk_at "v"
      rw [decide_eq_true rfl]
      walk_at "v"
      try rw [shX]
      refine oi_L (z := .non) rfl ?_
      walk_at "v"
      refine oc_eqNonL sU ?_
      walk_at "v"
      try rw [shX]
      refine of_repr (tK _ _ _) ⟨_, _, _, rfl⟩ oK (by omega) (by omega) ?_
      walk_at "v"
      rw [decide_eq_true rfl]
      walk_at "v"
      refine is_right_any_v ok (by omega) fun b rb => ?_
      have eb : b = false := by
        rw [Bool.eq_false_iff, Ne, rb, ← right_iff ok]
        exact fun h => hN h.1
      subst eb
      walk_at "v"
      rw [decide_eq_true rfl]
      walk_at "v"
      try rw [shX]
      refine oi_L (z := nv false (downsL us us.length)) rfl ?_
      walk_at "v"
      refine oc_eqN sB sD ?_
      walk_at "v"
      have ef : decide (decide ((downsL us us.length) = ds) = false) = true := by
        rw [decide_eq_true_iff, decide_eq_false_iff_not]
        exact fun h => hN ((right_iff ok).mpr ((right_iffU ok).mp ⟨hU, h.symm⟩)).1
      rw [ef]
      walk_at "v"
      try rw [shX]
      refine oi_L (z := .non) rfl ?_
      walk_at "v"
      refine oc_notN (b := false) rfl ?_
      walk_at "v"
      try rw [shX]
      refine oi_L (z := nv false (downsL us us.length)) rfl ?_
      walk_at "v"
      refine oc_notN (b := true) rfl ?_
      walk_at "v"
      try rw [shX]
      refine oi_L (z := nv false (downsL us us.length)) rfl ?_
      walk_at "v"
      show Cl T io fu (k + 4) "is_right" [prv false (downsL us us.length) us] _
      refine is_right_any_v pB (by omega) fun b rb => ?_
      have eb : b = true := rb.mpr ((right_iffU pB).mp ⟨hU, rfl⟩)
      subst eb
      walk_at "v"
      try rw [shX]
      refine oi_L (z := nv false (downsL us us.length)) rfl ?_
      walk_at "v"
      have hBU := (right_iff pB).mpr ((right_iffU pB).mp ⟨hU, rfl⟩)
      refine up_for_v (by rw [downs_len]; omega) pB.dn (fun _ => ?_) (fun h => absurd hBU.1 h)
      rw [← hBU.2]
      walk_at "v"
      refine oc_neN sU sU ?_
      rw [decide_eq_true rfl]
      walk_at "v"
      refine for_by (fun i σ => ∃ x4 x6, σ = [some (nv t ds), some (nv u us), some (.str (PyData.list [dN ds, dN us]).shown), some (LL true [.non, nv true (downsL us us.length)]), x4, some (.bl (false)), x6]) ⟨_, _, rfl⟩ ?_ ?_
      · rintro i itm σ hi0 ⟨x4, x6, rfl⟩
        obtain ⟨p, hp, rfl⟩ := at_items hi0
        refine ⟨_, rfl, ?_⟩
        have hp2 : p = .non ∨ p = nv true (downsL us us.length) := by
          rcases List.mem_cons.mp hp with z | z
          · exact .inl z
          · exact .inr (List.mem_singleton.mp z)
        rcases hp2 with rfl | rfl
        · walk_at "v"
          refine oc_notN (b := false) rfl ?_
          walk_at "v"
          exact ⟨_, _, rfl⟩
        · walk_at "v"
          refine oc_notN (b := true) rfl ?_
          walk_at "v"
          refine x_append rfl rfl rfl ?_
          walk_at "v"
          refine ⟨_, rfl, by rw [List.length_map, downs_len]; omega, ?_⟩
          walk_at "v"
          exact ⟨_, _, rfl⟩
      rintro σ ⟨x4, x6, rfl⟩
      walk_at "v"
      refine up_for_v (by omega) ok.dn (fun h => absurd h hN) (fun _ => ?_)
      walk_at "v"
      refine down_for_v (by omega) ok.up (fun _ => ?_) (fun h => absurd hU h)
      walk_at "v"
      try rw [shX]
      refine of_repr (tX _ _) ⟨_, _, _, rfl⟩ oX (by omega) (by omega) ?_
      walk_at "v"
      try rw [shX]
      refine of_repr (tX _ _) ⟨_, _, _, rfl⟩ oX (by omega) (by omega) ?_
      walk_at "v"
      rw [decide_eq_true rfl]
      walk_at "v"
      try rw [shX]
      refine of_repr (tK _ _ _) ⟨_, _, _, rfl⟩ oK (by omega) (by omega) ?_
      walk_at "v"
      rw [decide_eq_true rfl]
      walk_at "v"
      exact q
    · have oX : DOk (.list [.none, .none]) 2 3000 := ((DsOk.cons oN (DsOk.cons oN (DsOk.nil (w := 0)))).list).mono (by omega) (by omega)
      have tX : ∀ a b : Bool, toD (LL a [.non, .non]) = some (.list [.none, .none]) := fun a b => toD_LL (by simp only [toDs, toD_nv, toD])
      have shX : ∀ a, sh (LL a [.non, .non]) = LL false [.non, .non] := fun a => by simp only [sh_LL, shs_cons, shs_nil, sh_nv, sh_non]
      refine cl_ofI rfl ?_
      dsimp only [g_k22_law_right]
      walk_at "v0"
      walk_at "v"
      try rw [shX]
      refine of_repr (tK _ _ _) ⟨_, _, _, rfl⟩ oK (by omega) (by omega) ?_
      walk_at "v"
      refine law_ups_v ok.dn (by omega) (fun h => absurd h hN) (fun _ => ?_)
      walk_at "v"
      refine law_downs_v ok.up (by omega) (fun h => absurd h hU) (fun _ => ?_)
      walk_at "v"
      refine up_for_v (by omega) ok.dn (fun h => absurd h hN) (fun _ => ?_)
      walk_at "v"
      refine down_for_v (by omega) ok.up (fun h => absurd h hU) (fun _ => ?_)
      walk_at "v"
      try rw [shX]
      refine of_repr (tX _ true) ⟨_, _, _, rfl⟩ oX (by omega) (by omega) ?_
      walk_at "v"
      try rw [shX]
      refine of_repr (tX _ true) ⟨_, _, _, rfl⟩ oX (by omega) (by omega) ?_
      walk_at "v"
      rw [decide_eq_true rfl]
      walk_at "v"
      refine v_callKI ?_
      walk_at "v"
      refine cl_sh (ys := [nv false ds]) (by show shs [nv false ds] = _; simp only [shs_cons, shs_nil, sh_nv]) ?_
      refine up_for_v (by omega) ok.dn (fun h => absurd h hN) (fun _ => ?_)
      walk_at "v"
      refine v_callKI ?_
      walk_at "v"
      refine cl_sh (ys := [nv false us]) (by show shs [nv false us] = _; simp only [shs_cons, shs_nil, sh_nv]) ?_
      refine down_for_v (by omega) ok.up (fun h => absurd h hU) (fun _ => ?_)
      walk_at "v"
      try rw [shX]
      refine of_repr (tX _ true) ⟨_, _, _, rfl⟩ oX (by omega) (by omega) ?_
      walk_at "v"
      try rw [shX]
      refine of_repr (tX _ true) ⟨_, _, _, rfl⟩ oX (by omega) (by omega) ?_
      walk_at "v"
      rw [decide_eq_true rfl]
      walk_at "v"
      try rw [shX]
      refine oi_L (z := .non) rfl ?_
      walk_at "v"
      refine oc_eqNonL sU ?_
      walk_at "v"
      try rw [shX]
      refine of_repr (tK _ _ _) ⟨_, _, _, rfl⟩ oK (by omega) (by omega) ?_
      walk_at "v"
      rw [decide_eq_true rfl]
      walk_at "v"
      refine is_right_any_v ok (by omega) fun b rb => ?_
      have eb : b = false := by
        rw [Bool.eq_false_iff, Ne, rb, ← right_iff ok]
        exact fun h => hN h.1
      subst eb
      walk_at "v"
      rw [decide_eq_true rfl]
      walk_at "v"
      try rw [shX]
      refine oi_L (z := .non) rfl ?_
      walk_at "v"
      refine oc_eqNonL sD ?_
      walk_at "v"
      have ef : decide (false = false) = true := rfl
      rw [ef]
      walk_at "v"
      try rw [shX]
      refine oi_L (z := .non) rfl ?_
      walk_at "v"
      refine oc_notN (b := false) rfl ?_
      walk_at "v"
      try rw [shX]
      refine oi_L (z := .non) rfl ?_
      walk_at "v"
      refine oc_notN (b := false) rfl ?_
      walk_at "v"
      refine for_by (fun i σ => ∃ x4 x6, σ = [some (nv t ds), some (nv u us), some (.str (PyData.list [dN ds, dN us]).shown), some (LL true [.non, .non]), x4, some (.bl (false)), x6]) ⟨_, _, rfl⟩ ?_ ?_
      · rintro i itm σ hi0 ⟨x4, x6, rfl⟩
        obtain ⟨p, hp, rfl⟩ := at_items hi0
        refine ⟨_, rfl, ?_⟩
        have hp2 : p = .non ∨ p = .non := by
          rcases List.mem_cons.mp hp with z | z
          · exact .inl z
          · exact .inr (List.mem_singleton.mp z)
        rcases hp2 with rfl | rfl
        · walk_at "v"
          refine oc_notN (b := false) rfl ?_
          walk_at "v"
          exact ⟨_, _, rfl⟩
        · walk_at "v"
          refine oc_notN (b := false) rfl ?_
          walk_at "v"
          exact ⟨_, _, rfl⟩
      rintro σ ⟨x4, x6, rfl⟩
      walk_at "v"
      refine up_for_v (by omega) ok.dn (fun h => absurd h hN) (fun _ => ?_)
      walk_at "v"
      refine down_for_v (by omega) ok.up (fun h => absurd h hU) (fun _ => ?_)
      walk_at "v"
      try rw [shX]
      refine of_repr (tX _ true) ⟨_, _, _, rfl⟩ oX (by omega) (by omega) ?_
      walk_at "v"
      try rw [shX]
      refine of_repr (tX _ true) ⟨_, _, _, rfl⟩ oX (by omega) (by omega) ?_
      walk_at "v"
      rw [decide_eq_true rfl]
      walk_at "v"
      try rw [shX]
      refine of_repr (tK _ _ _) ⟨_, _, _, rfl⟩ oK (by omega) (by omega) ?_
      walk_at "v"
      rw [decide_eq_true rfl]
      walk_at "v"
      exact q
end
theorem ol_scr {o : Obj} {t : Bool} {ns : List Int} {hi : Option Int} {P : PV → Prop} (q : P (zv true (cutP ns none hi))) : Ol (sh (.nod (.scr o) t (ns.map .int))) none hi P := by
  refine ⟨_, ?_, q⟩
  show some (LL true (cutP (shs (ns.map PV.int)) none hi)) = _
  rw [shs_ints]
  congr 1
  unfold zv cutP
  simp [List.map_drop, List.map_take]
theorem ob_catZ {t u : Bool} {a b : List Int} {P : PV → Prop} (h : a.length + b.length ≤ 100000) (q : P (zv true (a ++ b))) : Ob .Add (zv t a) (zv u b) P := by
  refine ob_cat (by simpa using h) ?_
  rw [← List.map_append]; exact q
theorem cutL (ns : List Int) (m : Nat) : (cutP ns none (some (m : Int))).length ≤ m := by
  unfold cutP
  rw [HT.sIx_none, HT.sIx_nat]
  simp; omega
theorem pairs4 : okQ 4 576 (GG T io 500 29 "_law_all_pairs" [.int 4]) = true := by decide +kernel
def lws (b : Bool) (ls : List (List Nat)) : PV := LL b (ls.map (nv b))
theorem sh_lws {b : Bool} {ls : List (List Nat)} : sh (lws b ls) = lws false ls := by
  show PV.nod .lst false (shs _) = _
  rw [shs_eq, List.map_map]
  show PV.nod .lst false _ = PV.nod .lst false _
  congr 1
  exact List.map_congr_left fun _ _ => sh_nv
def decNb : PV → Option (List Nat)
  | .nod .lst true xs => decNs xs
  | _ => none
def decLs : List PV → Option (List (List Nat))
  | [] => some []
  | x :: xs => match decNb x, decLs xs with
    | some t, some ts => some (t :: ts)
    | _, _ => none
theorem decNb_ok {x : PV} {ns : List Nat} (h : decNb x = some ns) : x = nv true ns := by
  unfold decNb at h
  split at h
  · rw [decNs_ok h]; rfl
  · cases h
theorem decLs_ok : ∀ {xs : List PV} {ts : List (List Nat)}, decLs xs = some ts → xs = ts.map (nv true)
  | [], ts, h => by cases h; rfl
  | x :: xs, ts, h => by
    rw [decLs] at h
    split at h
    · rename_i t ts' h1 h2
      cases h
      rw [decNb_ok h1, decLs_ok h2]; rfl
    · cases h
def cntE : Ex := (.blt "len" (.cons (.comp (.var 5) (.name 5) (.seq (.var 2)) (.one (.cmp .IsNot (.call "up_for" (.cons (.var 5) .nil) [] .nil) (.con .none))) [("_law_falls", 5)]) .nil))
def chkD (n : Nat) (t : List Nat) : Bool := decide (t.length = n) && (List.range n).all fun i => decide (t.getD i 0 ≤ i)
def okLow : Option (Rx PV × List (Option PV)) → Bool
  | some (.ok (.nod .lst true xs), []) => match decLs xs with
    | some ts => decide (ts.length = 120) && ts.all (chkD 5) && isI 42 (evP (pcn T io 500 29) cntE [none, none, some (lws true ts), none, none, none, none, none, none, none]) && isI 42 (evP (pcn T io 500 29) cntE [none, none, some (lws false ts), none, none, none, none, none, none, none])
    | none => false
  | _ => false
theorem okLow_ok {r : Option (Rx PV × List (Option PV))} (h : okLow r = true) : ∃ ts : List (List Nat), r = some (.ok (lws true ts), []) ∧ ts.length = 120 ∧ (∀ t, t ∈ ts → DnOk t ∧ t.length = 5) ∧ ∀ b, evP (pcn T io 500 29) cntE [none, none, some (lws b ts), none, none, none, none, none, none, none] = some (.ok (.int 42)) := by
  unfold okLow at h
  split at h
  · split at h
    · rename_i ts e
      simp only [Bool.and_eq_true, decide_eq_true_eq] at h
      obtain ⟨⟨⟨h1, h2⟩, h3⟩, h4⟩ := h
      refine ⟨ts, by rw [decLs_ok e]; rfl, h1, fun t ht => ?_, fun b => ?_⟩
      · have := (List.all_eq_true.mp h2) t ht
        simp only [chkD, Bool.and_eq_true, decide_eq_true_eq] at this
        obtain ⟨g1, g2⟩ := this
        exact ⟨fun i hi => of_decide_eq_true ((List.all_eq_true.mp g2) i (List.mem_range.mpr (by omega))), g1⟩
      · cases b
        · exact isI_ok h4
        · exact isI_ok h3
    · cases h
  · cases h
theorem lows5 : okLow (GG T io 500 29 "_law_lists" [nv false [1, 2, 3, 4, 5]]) = true := by decide +kernel
theorem six {n : Nat} (h : n ≤ 5) : ((6 : Int) - (n : Int)) = ((6 - n : Nat) : Int) := by omega
theorem law_v {o : Obj} {ns : List Int} {P : PV → List (Option PV) → Prop} (hl : ns.length ≤ 63) (q : P (.bl true) []) : Cl T io 500 30 "law" [.nod (.scr o) false (ns.map .int)] P := by
  obtain ⟨ts, et, lt, ht⟩ := okQ_ok (by decide) pairs4
  obtain ⟨ls, el, ll, hls, cnt⟩ := okLow_ok lows5
  have hf : 20 ≤ 500 := by decide
  refine cl_ofI (k := 29) rfl ?_
  dsimp only [g_k22_law]
  walk_at "v0"
  walk_at "v"
  refine ⟨_, [], et, ?_⟩
  rw [show LL true (ts.map fun t => prv false t.1 t.2) = pvs true ts from rfl]
  refine ⟨[some (PV.nod (Kd.scr o) false (List.map PV.int ns)), none, none, none, none, none, none, none, none, none], ?_, ?_⟩
  · by_cases hc : cln (pvs true ts) = true
    · exact cm_cl hc
    · exact cm_dm (by simpa using hc) rfl
  walk_at "v"
  refine ⟨_, [], el, ?_⟩
  refine ⟨[some (PV.nod (Kd.scr o) false (List.map PV.int ns)), some (pvs true ts), none, none, none, none, none, none, none, none], ?_, ?_⟩
  · by_cases hc : cln (lws true ls) = true
    · exact cm_cl hc
    · exact cm_dm (by simpa using hc) rfl
  walk_at "v"
  refine ol_scr ?_
  walk_at "v"
  have hc : (cutP ns none (some 6)).length ≤ 6 := cutL ns 6
  refine ob_catZ (b := [0]) (by simp; omega) ?_
  walk_at "v"
  obtain ⟨ps, e1, e2, e3⟩ := compP_ex (f := cmF (pcn T io 500 29) (Ex.call "_law_draws" (Exs.cons (Ex.var 6) Exs.nil) [] Exs.nil) (Tg.name 6) Cd.no (wipeP (keepF [0] 0 [some (PV.nod (Kd.scr o) false (List.map PV.int ns)), some (pvs true ts), some (lws true ls), none, none, none, none, none, none, none]) (List.map (fun x => x.snd) [(("_law_cell" : Str), 6)]))) (xs := cutP ns none (some 6) ++ [0]) (w := PV.int) (R := fun p => ∃ a b c, p = dv true a b c ∧ DrOk a b 0) (fun n _ => cm_ex rfl (by
    walk_at "v"
    exact law_draws_v (k := 28) fun a b c h => ⟨_, _, _, rfl, h⟩))
  refine ⟨decide_eq_true (by simp; omega), ps, e1, ?_⟩
  refine ⟨_, cm_cl (cln_all fun p hp => by obtain ⟨a, b, c, rfl, _⟩ := e2 p hp; rfl), ?_⟩
  walk_at "v"
  refine for_by (fun i σ => ∃ t t2 x0 x3 x4 x5 x6 x7 x8 x9, σ = [x0, some (pvs t ts), some (lws t2 ls), x3, x4, x5, x6, x7, x8, x9]) ⟨_, _, _, _, _, _, _, _, _, _, rfl⟩ ?_ ?_
  · rintro i itm σ hi0 ⟨t, t2, x0, x3, x4, x5, x6, x7, x8, x9, rfl⟩
    obtain ⟨p, hp, rfl⟩ := at_items hi0
    obtain ⟨a, b, c, rfl, h⟩ := e2 p hp
    refine ⟨_, rfl, ?_⟩
    walk_at "v"
    refine ⟨_, rng1N (b := 3) (by omega) (by omega), ?_⟩
    refine for_by (fun i σ => ∃ a b x4 x5 x7, σ = [x0, some (pvs t ts), some (lws t2 ls), some (dv true a b c), x4, x5, x6, x7, x8, x9] ∧ DrOk a b (40 * i)) ⟨_, _, _, _, _, rfl, h⟩ ?_ ?_
    · rintro i itm σ hi0 ⟨a, b, x4, x5, x7, rfl, h⟩
      obtain ⟨hi, rfl⟩ := at_rng hi0
      refine ⟨_, rfl, ?_⟩
      walk_at "v"
      refine law_any_v (k := 26) (m := 16) hf h (by omega) (by omega) fun ds us a b ok h => ?_
      walk_at "v"
      refine law_right_v (k := 24) hf ok ?_
      walk_at "v"
      exact ⟨_, _, _, _, _, rfl, h.mono (by omega)⟩
    · rintro σ ⟨a, b, x4, x5, x7, rfl, h⟩
      rw [len_rng] at h
      walk_at "v"
      refine x_stp ?_
      walk_at "v"
      refine law_next_v (k := 28) h (by omega) fun v a b h => ?_
      walk_at "v"
      rw [sh_pvs]
      refine ⟨_, rfl, sq_LL ?_⟩
      have pl : (pickA (ts.map fun t => prv false t.1 t.2) (some ((v : Int) % 9)) none (some 9)).length ≤ 576 := Nat.le_trans (pick_len _ _ _ (by decide)) (by simp; omega)
      refine ⟨by rw [show fitB _ = true from decide_eq_true (by simp; omega)]; rfl, ?_⟩
      refine compX_none (fun σ => ∃ x8, σ = [x0, some (pvs false ts), some (lws t2 ls), some (dv true a b c), x4, x5, x6, x7, x8, x9]) ⟨_, rfl⟩ ?_ ?_
      · rintro itm hi σ ⟨x8, rfl⟩
        obtain ⟨y, hy, rfl⟩ := List.mem_map.mp hi
        obtain ⟨t, ht', rfl⟩ := List.mem_map.mp (pick_mem hy)
        refine cmX_no rfl ?_
        walk_at "v"
        refine law_right_v (k := 24) hf (ht t ht').1 ?_
        walk_at "v"
        exact ⟨rfl, _, rfl⟩
      · rintro σ ⟨y8, rfl⟩
        walk_at "v"
        refine oc_neNil ?_
        walk_at "v"
        refine x_stp ?_
        walk_at "v"
        refine law_next_v (k := 28) h (by omega) fun v2 a b h => ?_
        walk_at "v"
        rw [sh_lws]
        refine ⟨_, rfl, sq_LL ?_⟩
        refine for_by (fun i σ => ∃ x0 x3 x4 x5 x6 x7 x8 x9, σ = [x0, some (pvs false ts), some (lws false ls), x3, x4, x5, x6, x7, x8, x9]) ⟨_, _, _, _, _, _, _, _, congrArg (fun z => [x0, some (pvs false ts), some z, some (dv true a b c), x4, x5, x6, x7, x8, x9]) sh_lws⟩ ?_ ?_
        · rintro i itm σ hi0 ⟨x0, x3, x4, x5, x6, x7, x8, x9, rfl⟩
          obtain ⟨p, hp, rfl⟩ := at_items hi0
          obtain ⟨ds, hd, rfl⟩ := List.mem_map.mp (pick_mem hp)
          obtain ⟨od, l5⟩ := hls ds hd
          have ok : PrOk 16 ds (tnd ds) := ⟨by omega, by omega, tnd_len ds, od, tnd_up od⟩
          refine ⟨_, rfl, ?_⟩
          walk_at "v"
          refine v_rev ?_
          walk_at "v"
          rw [← List.map_reverse, shs_nats]
          refine ⟨fit_one (by rw [List.length_reverse]; omega), _, compP_each (fun n => .int ((6 - n : Nat) : Int)) (fun n hn => cm_of rfl ?_ ?_), ?_⟩
          · walk_at "v"
          · have hn2 : n ≤ 5 := by
              obtain ⟨i, hi, e⟩ := List.getElem_of_mem (List.mem_reverse.mp hn)
              have := od i hi
              rw [List.getD_eq_getElem?_getD, List.getElem?_eq_getElem hi, Option.getD_some, e] at this
              omega
            walk_at "v"
            exact congrArg PV.int (six hn2)
          rw [nv_map (f := fun n => 6 - n), show ds.reverse.map (fun n => 6 - n) = tnd ds by unfold tnd; rw [l5]]
          walk_at "v"
          refine law_right_v (k := 24) hf ok ?_
          walk_at "v"
          exact ⟨_, _, _, _, _, _, _, _, rfl⟩
        · rintro σ ⟨x0, x3, x4, x5, x6, x7, x8, x9, rfl⟩
          walk_at "v"
          exact ⟨_, _, _, _, _, _, _, _, _, _, rfl⟩
  · rintro σ ⟨t, t2, x0, x3, x4, x5, x6, x7, x8, x9, rfl⟩
    refine th_nx (z_cons (y_ret (x_us (v_cmp ⟨_, cnt t2, ?_⟩))))
    walk_at "v"
    exact q
theorem law_true (o : Obj) (ns : List Int) (hl : ns.length ≤ 63) : ∃ fin, GG T io 500 30 "law" [.nod (.scr o) false (ns.map .int)] = some (.ok (.bl true), fin) := by
  obtain ⟨p, fin, h1, h2⟩ := law_v (o := o) (ns := ns) (P := fun p _ => p = .bl true) hl rfl
  subst h2
  exact ⟨fin, h1⟩

end VC

namespace VC
open PySem PySem.Spec PyProof.Rows L2
def tp (i : Nat) : Stmt := PySem.Challenge.pw_linksums_k22_whole_one_table_tells_the_o.main.body.getD i (.Pass ⟨0, 0, 0, 0⟩)
def dd : List He.DefD := [⟨("is_whole", none), "is_whole", "is_whole", defArgs (tp 4), defBody (tp 4), defScope (tp 4), [], []⟩, ⟨("check_down", none), "check_down", "check_down", defArgs (tp 5), defBody (tp 5), defScope (tp 5), [], []⟩, ⟨("check_up", none), "check_up", "check_up", defArgs (tp 6), defBody (tp 6), defScope (tp 6), [], []⟩, ⟨("check_pair", none), "check_pair", "check_pair", defArgs (tp 7), defBody (tp 7), defScope (tp 7), [], []⟩, ⟨("ups_of", none), "ups_of", "ups_of", defArgs (tp 9), defBody (tp 9), defScope (tp 9), [], []⟩, ⟨("downs_of", none), "downs_of", "downs_of", defArgs (tp 10), defBody (tp 10), defScope (tp 10), [], []⟩, ⟨("is_right_pair", none), "is_right_pair", "is_right_pair", defArgs (tp 11), defBody (tp 11), defScope (tp 11), [], []⟩, ⟨("is_right", none), "is_right", "is_right", defArgs (tp 12), defBody (tp 12), defScope (tp 12), [], []⟩, ⟨("up_for", none), "up_for", "up_for", defArgs (tp 13), defBody (tp 13), defScope (tp 13), [], []⟩, ⟨("down_for", none), "down_for", "down_for", defArgs (tp 14), defBody (tp 14), defScope (tp 14), [], []⟩, ⟨("_law_draws", none), "_law_draws", "_law_draws", defArgs (tp 16), defBody (tp 16), defScope (tp 16), [], []⟩, ⟨("_law_next", none), "_law_next", "_law_next", defArgs (tp 17), defBody (tp 17), defScope (tp 17), [], []⟩, ⟨("_law_pair", none), "_law_pair", "_law_pair", defArgs (tp 18), defBody (tp 18), defScope (tp 18), [], []⟩, ⟨("_law_tree", none), "_law_tree", "_law_tree", defArgs (tp 19), defBody (tp 19), defScope (tp 19), [], []⟩, ⟨("_law_bent", none), "_law_bent", "_law_bent", defArgs (tp 20), defBody (tp 20), defScope (tp 20), [], []⟩, ⟨("_law_any", none), "_law_any", "_law_any", defArgs (tp 21), defBody (tp 21), defScope (tp 21), [], []⟩, ⟨("_law_lists", none), "_law_lists", "_law_lists", defArgs (tp 22), defBody (tp 22), defScope (tp 22), [], []⟩, ⟨("_law_all_pairs", none), "_law_all_pairs", "_law_all_pairs", defArgs (tp 23), defBody (tp 23), defScope (tp 23), [], []⟩, ⟨("_law_ups", none), "_law_ups", "_law_ups", defArgs (tp 24), defBody (tp 24), defScope (tp 24), [], []⟩, ⟨("_law_downs", none), "_law_downs", "_law_downs", defArgs (tp 25), defBody (tp 25), defScope (tp 25), [], []⟩, ⟨("_law_right", none), "_law_right", "_law_right", defArgs (tp 26), defBody (tp 26), defScope (tp 26), [], []⟩, ⟨("law", none), "law", "law", defArgs (tp 27), defBody (tp 27), defScope (tp 27), [], []⟩]
def fa : List He.Fa := [.glo "is_whole", .glo "check_down", .glo "check_up", .glo "check_pair", .glo "ups_of", .glo "downs_of", .glo "is_right_pair", .glo "is_right", .glo "up_for", .glo "down_for", .glo "_law_draws", .glo "_law_next", .glo "_law_pair", .glo "_law_tree", .glo "_law_bent", .glo "_law_any", .glo "_law_lists", .glo "_law_all_pairs", .glo "_law_ups", .glo "_law_downs", .glo "_law_right", .glo "law", .free "len", .free "int", .free "repr", .free "list", .free "sum", .free "max", .free "min", .free "all", .free "sorted", .free "range", .free "enumerate", .free "zip", .free "isinstance", .free "bool", .free "tuple", .free "str", .free "dict", .int "MOST_PLACES" 16]
abbrev R : PySem.W.OpenRow := PySem.W.OpenLaw.row PySem.Challenge.rw_linksums_k22_whole_one_table_tells_the_o
abbrev hk : PySem.W.Hook := He.hookD 4 fa dd
def ob (s : PySem.W.SharedT) : He.AlD := He.obsDG 4 fa dd (HandSHeadRun.getT s)
theorem ob_eq (s : PySem.W.SharedT) : ob s = hk.obs s.abs := He.obsDG_eq (HandSHeadRun.getT_eq s)
def loose0 : List Str := ["InvalidPair", "is_whole", "check_down", "check_up", "check_pair", "ups_of", "downs_of", "is_right_pair", "is_right", "up_for", "down_for", "_law_draws", "_law_next", "_law_pair", "_law_tree", "_law_bent", "_law_any", "_law_lists", "_law_all_pairs", "_law_ups", "_law_downs", "_law_right", "MOST_PLACES"]
def loose : List Str := loose0
theorem run (w : World) : HandSHeadRun.RunEq R (PySem.W.view R.prog [27]) hk ob 2000 loose w := by
  intro os
  kernel_rfl
theorem bn_g_is_whole : bindsB "is_whole" "is_whole" (defArgs (tp 4)) (defBody (tp 4)) (defScope (tp 4)) (g_is_whole).ps 1 [] := fun _ _ _ _ _ _ us ws hu hw => match us, hu, ws, hw with
  | [_], _, [], _ => rfl
theorem bn_g_check_down : bindsB "check_down" "check_down" (defArgs (tp 5)) (defBody (tp 5)) (defScope (tp 5)) (g_check_down).ps 1 [] := fun _ _ _ _ _ _ us ws hu hw => match us, hu, ws, hw with
  | [_], _, [], _ => rfl
theorem bn_g_check_up : bindsB "check_up" "check_up" (defArgs (tp 6)) (defBody (tp 6)) (defScope (tp 6)) (g_check_up).ps 1 [] := fun _ _ _ _ _ _ us ws hu hw => match us, hu, ws, hw with
  | [_], _, [], _ => rfl
theorem bn_g_check_pair : bindsB "check_pair" "check_pair" (defArgs (tp 7)) (defBody (tp 7)) (defScope (tp 7)) (g_check_pair).ps 1 [] := fun _ _ _ _ _ _ us ws hu hw => match us, hu, ws, hw with
  | [_], _, [], _ => rfl
theorem bn_g_ups_of : bindsB "ups_of" "ups_of" (defArgs (tp 9)) (defBody (tp 9)) (defScope (tp 9)) (g_ups_of).ps 1 [] := fun _ _ _ _ _ _ us ws hu hw => match us, hu, ws, hw with
  | [_], _, [], _ => rfl
theorem bn_g_downs_of : bindsB "downs_of" "downs_of" (defArgs (tp 10)) (defBody (tp 10)) (defScope (tp 10)) (g_downs_of).ps 1 [] := fun _ _ _ _ _ _ us ws hu hw => match us, hu, ws, hw with
  | [_], _, [], _ => rfl
theorem bn_g_is_right_pair : bindsB "is_right_pair" "is_right_pair" (defArgs (tp 11)) (defBody (tp 11)) (defScope (tp 11)) (g_is_right_pair).ps 1 [] := fun _ _ _ _ _ _ us ws hu hw => match us, hu, ws, hw with
  | [_], _, [], _ => rfl
theorem bn_g_is_right : bindsB "is_right" "is_right" (defArgs (tp 12)) (defBody (tp 12)) (defScope (tp 12)) (g_is_right).ps 1 [] := fun _ _ _ _ _ _ us ws hu hw => match us, hu, ws, hw with
  | [_], _, [], _ => rfl
theorem bn_g_up_for : bindsB "up_for" "up_for" (defArgs (tp 13)) (defBody (tp 13)) (defScope (tp 13)) (g_up_for).ps 1 [] := fun _ _ _ _ _ _ us ws hu hw => match us, hu, ws, hw with
  | [_], _, [], _ => rfl
theorem bk0_g_up_for : bindsB "up_for" "up_for" (defArgs (tp 13)) (defBody (tp 13)) (defScope (tp 13)) (g_up_for).ps 0 ["down"] := fun _ _ _ _ _ _ us ws hu hw => match us, hu, ws, hw with
  | [], _, [_], _ => rfl
theorem bn_g_down_for : bindsB "down_for" "down_for" (defArgs (tp 14)) (defBody (tp 14)) (defScope (tp 14)) (g_down_for).ps 1 [] := fun _ _ _ _ _ _ us ws hu hw => match us, hu, ws, hw with
  | [_], _, [], _ => rfl
theorem bk0_g_down_for : bindsB "down_for" "down_for" (defArgs (tp 14)) (defBody (tp 14)) (defScope (tp 14)) (g_down_for).ps 0 ["up"] := fun _ _ _ _ _ _ us ws hu hw => match us, hu, ws, hw with
  | [], _, [_], _ => rfl
theorem bn_g_law_draws : bindsB "_law_draws" "_law_draws" (defArgs (tp 16)) (defBody (tp 16)) (defScope (tp 16)) (g_law_draws).ps 1 [] := fun _ _ _ _ _ _ us ws hu hw => match us, hu, ws, hw with
  | [_], _, [], _ => rfl
theorem bn_g_law_next : bindsB "_law_next" "_law_next" (defArgs (tp 17)) (defBody (tp 17)) (defScope (tp 17)) (g_law_next).ps 1 [] := fun _ _ _ _ _ _ us ws hu hw => match us, hu, ws, hw with
  | [_], _, [], _ => rfl
theorem bn_g_law_pair : bindsB "_law_pair" "_law_pair" (defArgs (tp 18)) (defBody (tp 18)) (defScope (tp 18)) (g_law_pair).ps 2 [] := fun _ _ _ _ _ _ us ws hu hw => match us, hu, ws, hw with
  | [_, _], _, [], _ => rfl
theorem bn_g_law_tree : bindsB "_law_tree" "_law_tree" (defArgs (tp 19)) (defBody (tp 19)) (defScope (tp 19)) (g_law_tree).ps 2 [] := fun _ _ _ _ _ _ us ws hu hw => match us, hu, ws, hw with
  | [_, _], _, [], _ => rfl
theorem bn_g_law_bent : bindsB "_law_bent" "_law_bent" (defArgs (tp 20)) (defBody (tp 20)) (defScope (tp 20)) (g_law_bent).ps 2 [] := fun _ _ _ _ _ _ us ws hu hw => match us, hu, ws, hw with
  | [_, _], _, [], _ => rfl
theorem bn_g_law_any : bindsB "_law_any" "_law_any" (defArgs (tp 21)) (defBody (tp 21)) (defScope (tp 21)) (g_law_any).ps 2 [] := fun _ _ _ _ _ _ us ws hu hw => match us, hu, ws, hw with
  | [_, _], _, [], _ => rfl
theorem bn_g_law_lists : bindsB "_law_lists" "_law_lists" (defArgs (tp 22)) (defBody (tp 22)) (defScope (tp 22)) (g_law_lists).ps 1 [] := fun _ _ _ _ _ _ us ws hu hw => match us, hu, ws, hw with
  | [_], _, [], _ => rfl
theorem bn_g_law_all_pairs : bindsB "_law_all_pairs" "_law_all_pairs" (defArgs (tp 23)) (defBody (tp 23)) (defScope (tp 23)) (g_law_all_pairs).ps 1 [] := fun _ _ _ _ _ _ us ws hu hw => match us, hu, ws, hw with
  | [_], _, [], _ => rfl
theorem bn_g_k22_law_ups : bindsB "_law_ups" "_law_ups" (defArgs (tp 24)) (defBody (tp 24)) (defScope (tp 24)) (g_k22_law_ups).ps 1 [] := fun _ _ _ _ _ _ us ws hu hw => match us, hu, ws, hw with
  | [_], _, [], _ => rfl
theorem bn_g_k22_law_downs : bindsB "_law_downs" "_law_downs" (defArgs (tp 25)) (defBody (tp 25)) (defScope (tp 25)) (g_k22_law_downs).ps 1 [] := fun _ _ _ _ _ _ us ws hu hw => match us, hu, ws, hw with
  | [_], _, [], _ => rfl
theorem bn_g_k22_law_right : bindsB "_law_right" "_law_right" (defArgs (tp 26)) (defBody (tp 26)) (defScope (tp 26)) (g_k22_law_right).ps 2 [] := fun _ _ _ _ _ _ us ws hu hw => match us, hu, ws, hw with
  | [_, _], _, [], _ => rfl
theorem bn_g_k22_law : bindsB "law" "law" (defArgs (tp 27)) (defBody (tp 27)) (defScope (tp 27)) (g_k22_law).ps 1 [] := fun _ _ _ _ _ _ us ws hu hw => match us, hu, ws, hw with
  | [_], _, [], _ => rfl
section
variable {K K' : PySem.W.Frag} {h : Heap} {mg : Str → Option Value}
theorem nk_g_is_whole : ∀ n ks, (("is_whole" : Str), n, ks) ∈ T.kp → bindsB "is_whole" "is_whole" (defArgs (tp 4)) (defBody (tp 4)) (defScope (tp 4)) (g_is_whole).ps n ks := by
  intro n ks hp
  have z : (("is_whole" : Str)) ∈ T.kp.map (·.1) := List.mem_map_of_mem (f := (·.1)) hp
  exact absurd z (by decide +kernel)
theorem df_g_is_whole (X : K.In h) (G : h.Ns mainGlobals mg) (c : He.SaysD fa dd K) (hs : SubK K K') : DefF T K' mg "is_whole" g_is_whole := by
  obtain ⟨fd, D⟩ := c.def_ 0 (d := ⟨("is_whole", none), "is_whole", "is_whole", defArgs (tp 4), defBody (tp 4), defScope (tp 4), [], []⟩) rfl
  exact defF_of rfl (He.glo_ok X G (c.fact 0 (f := .glo "is_whole") rfl)) (FunD.sub hs D) (by decide +kernel) (by decide +kernel) bn_g_is_whole (fun n ks hp => nk_g_is_whole n ks hp)
theorem nk_g_check_down : ∀ n ks, (("check_down" : Str), n, ks) ∈ T.kp → bindsB "check_down" "check_down" (defArgs (tp 5)) (defBody (tp 5)) (defScope (tp 5)) (g_check_down).ps n ks := by
  intro n ks hp
  have z : (("check_down" : Str)) ∈ T.kp.map (·.1) := List.mem_map_of_mem (f := (·.1)) hp
  exact absurd z (by decide +kernel)
theorem df_g_check_down (X : K.In h) (G : h.Ns mainGlobals mg) (c : He.SaysD fa dd K) (hs : SubK K K') : DefF T K' mg "check_down" g_check_down := by
  obtain ⟨fd, D⟩ := c.def_ 1 (d := ⟨("check_down", none), "check_down", "check_down", defArgs (tp 5), defBody (tp 5), defScope (tp 5), [], []⟩) rfl
  exact defF_of rfl (He.glo_ok X G (c.fact 1 (f := .glo "check_down") rfl)) (FunD.sub hs D) (by decide +kernel) (by decide +kernel) bn_g_check_down (fun n ks hp => nk_g_check_down n ks hp)
theorem nk_g_check_up : ∀ n ks, (("check_up" : Str), n, ks) ∈ T.kp → bindsB "check_up" "check_up" (defArgs (tp 6)) (defBody (tp 6)) (defScope (tp 6)) (g_check_up).ps n ks := by
  intro n ks hp
  have z : (("check_up" : Str)) ∈ T.kp.map (·.1) := List.mem_map_of_mem (f := (·.1)) hp
  exact absurd z (by decide +kernel)
theorem df_g_check_up (X : K.In h) (G : h.Ns mainGlobals mg) (c : He.SaysD fa dd K) (hs : SubK K K') : DefF T K' mg "check_up" g_check_up := by
  obtain ⟨fd, D⟩ := c.def_ 2 (d := ⟨("check_up", none), "check_up", "check_up", defArgs (tp 6), defBody (tp 6), defScope (tp 6), [], []⟩) rfl
  exact defF_of rfl (He.glo_ok X G (c.fact 2 (f := .glo "check_up") rfl)) (FunD.sub hs D) (by decide +kernel) (by decide +kernel) bn_g_check_up (fun n ks hp => nk_g_check_up n ks hp)
theorem nk_g_check_pair : ∀ n ks, (("check_pair" : Str), n, ks) ∈ T.kp → bindsB "check_pair" "check_pair" (defArgs (tp 7)) (defBody (tp 7)) (defScope (tp 7)) (g_check_pair).ps n ks := by
  intro n ks hp
  have z : (("check_pair" : Str)) ∈ T.kp.map (·.1) := List.mem_map_of_mem (f := (·.1)) hp
  exact absurd z (by decide +kernel)
theorem df_g_check_pair (X : K.In h) (G : h.Ns mainGlobals mg) (c : He.SaysD fa dd K) (hs : SubK K K') : DefF T K' mg "check_pair" g_check_pair := by
  obtain ⟨fd, D⟩ := c.def_ 3 (d := ⟨("check_pair", none), "check_pair", "check_pair", defArgs (tp 7), defBody (tp 7), defScope (tp 7), [], []⟩) rfl
  exact defF_of rfl (He.glo_ok X G (c.fact 3 (f := .glo "check_pair") rfl)) (FunD.sub hs D) (by decide +kernel) (by decide +kernel) bn_g_check_pair (fun n ks hp => nk_g_check_pair n ks hp)
theorem nk_g_ups_of : ∀ n ks, (("ups_of" : Str), n, ks) ∈ T.kp → bindsB "ups_of" "ups_of" (defArgs (tp 9)) (defBody (tp 9)) (defScope (tp 9)) (g_ups_of).ps n ks := by
  intro n ks hp
  have z : (("ups_of" : Str)) ∈ T.kp.map (·.1) := List.mem_map_of_mem (f := (·.1)) hp
  exact absurd z (by decide +kernel)
theorem df_g_ups_of (X : K.In h) (G : h.Ns mainGlobals mg) (c : He.SaysD fa dd K) (hs : SubK K K') : DefF T K' mg "ups_of" g_ups_of := by
  obtain ⟨fd, D⟩ := c.def_ 4 (d := ⟨("ups_of", none), "ups_of", "ups_of", defArgs (tp 9), defBody (tp 9), defScope (tp 9), [], []⟩) rfl
  exact defF_of rfl (He.glo_ok X G (c.fact 4 (f := .glo "ups_of") rfl)) (FunD.sub hs D) (by decide +kernel) (by decide +kernel) bn_g_ups_of (fun n ks hp => nk_g_ups_of n ks hp)
theorem nk_g_downs_of : ∀ n ks, (("downs_of" : Str), n, ks) ∈ T.kp → bindsB "downs_of" "downs_of" (defArgs (tp 10)) (defBody (tp 10)) (defScope (tp 10)) (g_downs_of).ps n ks := by
  intro n ks hp
  have z : (("downs_of" : Str)) ∈ T.kp.map (·.1) := List.mem_map_of_mem (f := (·.1)) hp
  exact absurd z (by decide +kernel)
theorem df_g_downs_of (X : K.In h) (G : h.Ns mainGlobals mg) (c : He.SaysD fa dd K) (hs : SubK K K') : DefF T K' mg "downs_of" g_downs_of := by
  obtain ⟨fd, D⟩ := c.def_ 5 (d := ⟨("downs_of", none), "downs_of", "downs_of", defArgs (tp 10), defBody (tp 10), defScope (tp 10), [], []⟩) rfl
  exact defF_of rfl (He.glo_ok X G (c.fact 5 (f := .glo "downs_of") rfl)) (FunD.sub hs D) (by decide +kernel) (by decide +kernel) bn_g_downs_of (fun n ks hp => nk_g_downs_of n ks hp)
theorem nk_g_is_right_pair : ∀ n ks, (("is_right_pair" : Str), n, ks) ∈ T.kp → bindsB "is_right_pair" "is_right_pair" (defArgs (tp 11)) (defBody (tp 11)) (defScope (tp 11)) (g_is_right_pair).ps n ks := by
  intro n ks hp
  have z : (("is_right_pair" : Str)) ∈ T.kp.map (·.1) := List.mem_map_of_mem (f := (·.1)) hp
  exact absurd z (by decide +kernel)
theorem df_g_is_right_pair (X : K.In h) (G : h.Ns mainGlobals mg) (c : He.SaysD fa dd K) (hs : SubK K K') : DefF T K' mg "is_right_pair" g_is_right_pair := by
  obtain ⟨fd, D⟩ := c.def_ 6 (d := ⟨("is_right_pair", none), "is_right_pair", "is_right_pair", defArgs (tp 11), defBody (tp 11), defScope (tp 11), [], []⟩) rfl
  exact defF_of rfl (He.glo_ok X G (c.fact 6 (f := .glo "is_right_pair") rfl)) (FunD.sub hs D) (by decide +kernel) (by decide +kernel) bn_g_is_right_pair (fun n ks hp => nk_g_is_right_pair n ks hp)
theorem nk_g_is_right : ∀ n ks, (("is_right" : Str), n, ks) ∈ T.kp → bindsB "is_right" "is_right" (defArgs (tp 12)) (defBody (tp 12)) (defScope (tp 12)) (g_is_right).ps n ks := by
  intro n ks hp
  have z : (("is_right" : Str)) ∈ T.kp.map (·.1) := List.mem_map_of_mem (f := (·.1)) hp
  exact absurd z (by decide +kernel)
theorem df_g_is_right (X : K.In h) (G : h.Ns mainGlobals mg) (c : He.SaysD fa dd K) (hs : SubK K K') : DefF T K' mg "is_right" g_is_right := by
  obtain ⟨fd, D⟩ := c.def_ 7 (d := ⟨("is_right", none), "is_right", "is_right", defArgs (tp 12), defBody (tp 12), defScope (tp 12), [], []⟩) rfl
  exact defF_of rfl (He.glo_ok X G (c.fact 7 (f := .glo "is_right") rfl)) (FunD.sub hs D) (by decide +kernel) (by decide +kernel) bn_g_is_right (fun n ks hp => nk_g_is_right n ks hp)
theorem kw_g_up_for : ∀ n ks, (("up_for" : Str), n, ks) ∈ T.kp → bindsB "up_for" "up_for" (defArgs (tp 13)) (defBody (tp 13)) (defScope (tp 13)) (g_up_for).ps n ks := by
  intro n ks hp
  simp only [T, List.mem_cons, List.not_mem_nil, or_false, Prod.mk.injEq] at hp
  rcases hp with ⟨e, rfl, rfl⟩ | ⟨e, rfl, rfl⟩
  · exact bk0_g_up_for
  · exact absurd e (by decide +kernel)
theorem df_g_up_for (X : K.In h) (G : h.Ns mainGlobals mg) (c : He.SaysD fa dd K) (hs : SubK K K') : DefF T K' mg "up_for" g_up_for := by
  obtain ⟨fd, D⟩ := c.def_ 8 (d := ⟨("up_for", none), "up_for", "up_for", defArgs (tp 13), defBody (tp 13), defScope (tp 13), [], []⟩) rfl
  exact defF_of rfl (He.glo_ok X G (c.fact 8 (f := .glo "up_for") rfl)) (FunD.sub hs D) (by decide +kernel) (by decide +kernel) bn_g_up_for (kw_g_up_for)
theorem kw_g_down_for : ∀ n ks, (("down_for" : Str), n, ks) ∈ T.kp → bindsB "down_for" "down_for" (defArgs (tp 14)) (defBody (tp 14)) (defScope (tp 14)) (g_down_for).ps n ks := by
  intro n ks hp
  simp only [T, List.mem_cons, List.not_mem_nil, or_false, Prod.mk.injEq] at hp
  rcases hp with ⟨e, rfl, rfl⟩ | ⟨e, rfl, rfl⟩
  · exact absurd e (by decide +kernel)
  · exact bk0_g_down_for
theorem df_g_down_for (X : K.In h) (G : h.Ns mainGlobals mg) (c : He.SaysD fa dd K) (hs : SubK K K') : DefF T K' mg "down_for" g_down_for := by
  obtain ⟨fd, D⟩ := c.def_ 9 (d := ⟨("down_for", none), "down_for", "down_for", defArgs (tp 14), defBody (tp 14), defScope (tp 14), [], []⟩) rfl
  exact defF_of rfl (He.glo_ok X G (c.fact 9 (f := .glo "down_for") rfl)) (FunD.sub hs D) (by decide +kernel) (by decide +kernel) bn_g_down_for (kw_g_down_for)
theorem nk_g_law_draws : ∀ n ks, (("_law_draws" : Str), n, ks) ∈ T.kp → bindsB "_law_draws" "_law_draws" (defArgs (tp 16)) (defBody (tp 16)) (defScope (tp 16)) (g_law_draws).ps n ks := by
  intro n ks hp
  have z : (("_law_draws" : Str)) ∈ T.kp.map (·.1) := List.mem_map_of_mem (f := (·.1)) hp
  exact absurd z (by decide +kernel)
theorem df_g_law_draws (X : K.In h) (G : h.Ns mainGlobals mg) (c : He.SaysD fa dd K) (hs : SubK K K') : DefF T K' mg "_law_draws" g_law_draws := by
  obtain ⟨fd, D⟩ := c.def_ 10 (d := ⟨("_law_draws", none), "_law_draws", "_law_draws", defArgs (tp 16), defBody (tp 16), defScope (tp 16), [], []⟩) rfl
  exact defF_of rfl (He.glo_ok X G (c.fact 10 (f := .glo "_law_draws") rfl)) (FunD.sub hs D) (by decide +kernel) (by decide +kernel) bn_g_law_draws (fun n ks hp => nk_g_law_draws n ks hp)
theorem nk_g_law_next : ∀ n ks, (("_law_next" : Str), n, ks) ∈ T.kp → bindsB "_law_next" "_law_next" (defArgs (tp 17)) (defBody (tp 17)) (defScope (tp 17)) (g_law_next).ps n ks := by
  intro n ks hp
  have z : (("_law_next" : Str)) ∈ T.kp.map (·.1) := List.mem_map_of_mem (f := (·.1)) hp
  exact absurd z (by decide +kernel)
theorem df_g_law_next (X : K.In h) (G : h.Ns mainGlobals mg) (c : He.SaysD fa dd K) (hs : SubK K K') : DefF T K' mg "_law_next" g_law_next := by
  obtain ⟨fd, D⟩ := c.def_ 11 (d := ⟨("_law_next", none), "_law_next", "_law_next", defArgs (tp 17), defBody (tp 17), defScope (tp 17), [], []⟩) rfl
  exact defF_of rfl (He.glo_ok X G (c.fact 11 (f := .glo "_law_next") rfl)) (FunD.sub hs D) (by decide +kernel) (by decide +kernel) bn_g_law_next (fun n ks hp => nk_g_law_next n ks hp)
theorem nk_g_law_pair : ∀ n ks, (("_law_pair" : Str), n, ks) ∈ T.kp → bindsB "_law_pair" "_law_pair" (defArgs (tp 18)) (defBody (tp 18)) (defScope (tp 18)) (g_law_pair).ps n ks := by
  intro n ks hp
  have z : (("_law_pair" : Str)) ∈ T.kp.map (·.1) := List.mem_map_of_mem (f := (·.1)) hp
  exact absurd z (by decide +kernel)
theorem df_g_law_pair (X : K.In h) (G : h.Ns mainGlobals mg) (c : He.SaysD fa dd K) (hs : SubK K K') : DefF T K' mg "_law_pair" g_law_pair := by
  obtain ⟨fd, D⟩ := c.def_ 12 (d := ⟨("_law_pair", none), "_law_pair", "_law_pair", defArgs (tp 18), defBody (tp 18), defScope (tp 18), [], []⟩) rfl
  exact defF_of rfl (He.glo_ok X G (c.fact 12 (f := .glo "_law_pair") rfl)) (FunD.sub hs D) (by decide +kernel) (by decide +kernel) bn_g_law_pair (fun n ks hp => nk_g_law_pair n ks hp)
theorem nk_g_law_tree : ∀ n ks, (("_law_tree" : Str), n, ks) ∈ T.kp → bindsB "_law_tree" "_law_tree" (defArgs (tp 19)) (defBody (tp 19)) (defScope (tp 19)) (g_law_tree).ps n ks := by
  intro n ks hp
  have z : (("_law_tree" : Str)) ∈ T.kp.map (·.1) := List.mem_map_of_mem (f := (·.1)) hp
  exact absurd z (by decide +kernel)
theorem df_g_law_tree (X : K.In h) (G : h.Ns mainGlobals mg) (c : He.SaysD fa dd K) (hs : SubK K K') : DefF T K' mg "_law_tree" g_law_tree := by
  obtain ⟨fd, D⟩ := c.def_ 13 (d := ⟨("_law_tree", none), "_law_tree", "_law_tree", defArgs (tp 19), defBody (tp 19), defScope (tp 19), [], []⟩) rfl
  exact defF_of rfl (He.glo_ok X G (c.fact 13 (f := .glo "_law_tree") rfl)) (FunD.sub hs D) (by decide +kernel) (by decide +kernel) bn_g_law_tree (fun n ks hp => nk_g_law_tree n ks hp)
theorem nk_g_law_bent : ∀ n ks, (("_law_bent" : Str), n, ks) ∈ T.kp → bindsB "_law_bent" "_law_bent" (defArgs (tp 20)) (defBody (tp 20)) (defScope (tp 20)) (g_law_bent).ps n ks := by
  intro n ks hp
  have z : (("_law_bent" : Str)) ∈ T.kp.map (·.1) := List.mem_map_of_mem (f := (·.1)) hp
  exact absurd z (by decide +kernel)
theorem df_g_law_bent (X : K.In h) (G : h.Ns mainGlobals mg) (c : He.SaysD fa dd K) (hs : SubK K K') : DefF T K' mg "_law_bent" g_law_bent := by
  obtain ⟨fd, D⟩ := c.def_ 14 (d := ⟨("_law_bent", none), "_law_bent", "_law_bent", defArgs (tp 20), defBody (tp 20), defScope (tp 20), [], []⟩) rfl
  exact defF_of rfl (He.glo_ok X G (c.fact 14 (f := .glo "_law_bent") rfl)) (FunD.sub hs D) (by decide +kernel) (by decide +kernel) bn_g_law_bent (fun n ks hp => nk_g_law_bent n ks hp)
theorem nk_g_law_any : ∀ n ks, (("_law_any" : Str), n, ks) ∈ T.kp → bindsB "_law_any" "_law_any" (defArgs (tp 21)) (defBody (tp 21)) (defScope (tp 21)) (g_law_any).ps n ks := by
  intro n ks hp
  have z : (("_law_any" : Str)) ∈ T.kp.map (·.1) := List.mem_map_of_mem (f := (·.1)) hp
  exact absurd z (by decide +kernel)
theorem df_g_law_any (X : K.In h) (G : h.Ns mainGlobals mg) (c : He.SaysD fa dd K) (hs : SubK K K') : DefF T K' mg "_law_any" g_law_any := by
  obtain ⟨fd, D⟩ := c.def_ 15 (d := ⟨("_law_any", none), "_law_any", "_law_any", defArgs (tp 21), defBody (tp 21), defScope (tp 21), [], []⟩) rfl
  exact defF_of rfl (He.glo_ok X G (c.fact 15 (f := .glo "_law_any") rfl)) (FunD.sub hs D) (by decide +kernel) (by decide +kernel) bn_g_law_any (fun n ks hp => nk_g_law_any n ks hp)
theorem nk_g_law_lists : ∀ n ks, (("_law_lists" : Str), n, ks) ∈ T.kp → bindsB "_law_lists" "_law_lists" (defArgs (tp 22)) (defBody (tp 22)) (defScope (tp 22)) (g_law_lists).ps n ks := by
  intro n ks hp
  have z : (("_law_lists" : Str)) ∈ T.kp.map (·.1) := List.mem_map_of_mem (f := (·.1)) hp
  exact absurd z (by decide +kernel)
theorem df_g_law_lists (X : K.In h) (G : h.Ns mainGlobals mg) (c : He.SaysD fa dd K) (hs : SubK K K') : DefF T K' mg "_law_lists" g_law_lists := by
  obtain ⟨fd, D⟩ := c.def_ 16 (d := ⟨("_law_lists", none), "_law_lists", "_law_lists", defArgs (tp 22), defBody (tp 22), defScope (tp 22), [], []⟩) rfl
  exact defF_of rfl (He.glo_ok X G (c.fact 16 (f := .glo "_law_lists") rfl)) (FunD.sub hs D) (by decide +kernel) (by decide +kernel) bn_g_law_lists (fun n ks hp => nk_g_law_lists n ks hp)
theorem nk_g_law_all_pairs : ∀ n ks, (("_law_all_pairs" : Str), n, ks) ∈ T.kp → bindsB "_law_all_pairs" "_law_all_pairs" (defArgs (tp 23)) (defBody (tp 23)) (defScope (tp 23)) (g_law_all_pairs).ps n ks := by
  intro n ks hp
  have z : (("_law_all_pairs" : Str)) ∈ T.kp.map (·.1) := List.mem_map_of_mem (f := (·.1)) hp
  exact absurd z (by decide +kernel)
theorem df_g_law_all_pairs (X : K.In h) (G : h.Ns mainGlobals mg) (c : He.SaysD fa dd K) (hs : SubK K K') : DefF T K' mg "_law_all_pairs" g_law_all_pairs := by
  obtain ⟨fd, D⟩ := c.def_ 17 (d := ⟨("_law_all_pairs", none), "_law_all_pairs", "_law_all_pairs", defArgs (tp 23), defBody (tp 23), defScope (tp 23), [], []⟩) rfl
  exact defF_of rfl (He.glo_ok X G (c.fact 17 (f := .glo "_law_all_pairs") rfl)) (FunD.sub hs D) (by decide +kernel) (by decide +kernel) bn_g_law_all_pairs (fun n ks hp => nk_g_law_all_pairs n ks hp)
theorem nk_g_k22_law_ups : ∀ n ks, (("_law_ups" : Str), n, ks) ∈ T.kp → bindsB "_law_ups" "_law_ups" (defArgs (tp 24)) (defBody (tp 24)) (defScope (tp 24)) (g_k22_law_ups).ps n ks := by
  intro n ks hp
  have z : (("_law_ups" : Str)) ∈ T.kp.map (·.1) := List.mem_map_of_mem (f := (·.1)) hp
  exact absurd z (by decide +kernel)
theorem df_g_k22_law_ups (X : K.In h) (G : h.Ns mainGlobals mg) (c : He.SaysD fa dd K) (hs : SubK K K') : DefF T K' mg "_law_ups" g_k22_law_ups := by
  obtain ⟨fd, D⟩ := c.def_ 18 (d := ⟨("_law_ups", none), "_law_ups", "_law_ups", defArgs (tp 24), defBody (tp 24), defScope (tp 24), [], []⟩) rfl
  exact defF_of rfl (He.glo_ok X G (c.fact 18 (f := .glo "_law_ups") rfl)) (FunD.sub hs D) (by decide +kernel) (by decide +kernel) bn_g_k22_law_ups (fun n ks hp => nk_g_k22_law_ups n ks hp)
theorem nk_g_k22_law_downs : ∀ n ks, (("_law_downs" : Str), n, ks) ∈ T.kp → bindsB "_law_downs" "_law_downs" (defArgs (tp 25)) (defBody (tp 25)) (defScope (tp 25)) (g_k22_law_downs).ps n ks := by
  intro n ks hp
  have z : (("_law_downs" : Str)) ∈ T.kp.map (·.1) := List.mem_map_of_mem (f := (·.1)) hp
  exact absurd z (by decide +kernel)
theorem df_g_k22_law_downs (X : K.In h) (G : h.Ns mainGlobals mg) (c : He.SaysD fa dd K) (hs : SubK K K') : DefF T K' mg "_law_downs" g_k22_law_downs := by
  obtain ⟨fd, D⟩ := c.def_ 19 (d := ⟨("_law_downs", none), "_law_downs", "_law_downs", defArgs (tp 25), defBody (tp 25), defScope (tp 25), [], []⟩) rfl
  exact defF_of rfl (He.glo_ok X G (c.fact 19 (f := .glo "_law_downs") rfl)) (FunD.sub hs D) (by decide +kernel) (by decide +kernel) bn_g_k22_law_downs (fun n ks hp => nk_g_k22_law_downs n ks hp)
theorem nk_g_k22_law_right : ∀ n ks, (("_law_right" : Str), n, ks) ∈ T.kp → bindsB "_law_right" "_law_right" (defArgs (tp 26)) (defBody (tp 26)) (defScope (tp 26)) (g_k22_law_right).ps n ks := by
  intro n ks hp
  have z : (("_law_right" : Str)) ∈ T.kp.map (·.1) := List.mem_map_of_mem (f := (·.1)) hp
  exact absurd z (by decide +kernel)
theorem df_g_k22_law_right (X : K.In h) (G : h.Ns mainGlobals mg) (c : He.SaysD fa dd K) (hs : SubK K K') : DefF T K' mg "_law_right" g_k22_law_right := by
  obtain ⟨fd, D⟩ := c.def_ 20 (d := ⟨("_law_right", none), "_law_right", "_law_right", defArgs (tp 26), defBody (tp 26), defScope (tp 26), [], []⟩) rfl
  exact defF_of rfl (He.glo_ok X G (c.fact 20 (f := .glo "_law_right") rfl)) (FunD.sub hs D) (by decide +kernel) (by decide +kernel) bn_g_k22_law_right (fun n ks hp => nk_g_k22_law_right n ks hp)
theorem nk_g_k22_law : ∀ n ks, (("law" : Str), n, ks) ∈ T.kp → bindsB "law" "law" (defArgs (tp 27)) (defBody (tp 27)) (defScope (tp 27)) (g_k22_law).ps n ks := by
  intro n ks hp
  have z : (("law" : Str)) ∈ T.kp.map (·.1) := List.mem_map_of_mem (f := (·.1)) hp
  exact absurd z (by decide +kernel)
theorem df_g_k22_law (X : K.In h) (G : h.Ns mainGlobals mg) (c : He.SaysD fa dd K) (hs : SubK K K') : DefF T K' mg "law" g_k22_law := by
  obtain ⟨fd, D⟩ := c.def_ 21 (d := ⟨("law", none), "law", "law", defArgs (tp 27), defBody (tp 27), defScope (tp 27), [], []⟩) rfl
  exact defF_of rfl (He.glo_ok X G (c.fact 21 (f := .glo "law") rfl)) (FunD.sub hs D) (by decide +kernel) (by decide +kernel) bn_g_k22_law (fun n ks hp => nk_g_k22_law n ks hp)
theorem defs (X : K.In h) (G : h.Ns mainGlobals mg) (c : He.SaysD fa dd K) (hs : SubK K K') : ∀ x F, T.fns.lookup x = some F → DefF T K' mg x F := by
  intro x F hx
  have hm := lookup_mem' hx
  simp only [T, List.mem_cons, List.not_mem_nil, or_false, Prod.mk.injEq] at hm
  rcases hm with ⟨rfl, rfl⟩ | ⟨rfl, rfl⟩ | ⟨rfl, rfl⟩ | ⟨rfl, rfl⟩ | ⟨rfl, rfl⟩ | ⟨rfl, rfl⟩ | ⟨rfl, rfl⟩ | ⟨rfl, rfl⟩ | ⟨rfl, rfl⟩ | ⟨rfl, rfl⟩ | ⟨rfl, rfl⟩ | ⟨rfl, rfl⟩ | ⟨rfl, rfl⟩ | ⟨rfl, rfl⟩ | ⟨rfl, rfl⟩ | ⟨rfl, rfl⟩ | ⟨rfl, rfl⟩ | ⟨rfl, rfl⟩ | ⟨rfl, rfl⟩ | ⟨rfl, rfl⟩ | ⟨rfl, rfl⟩ | ⟨rfl, rfl⟩
  · exact df_g_is_whole X G c hs
  · exact df_g_check_down X G c hs
  · exact df_g_check_up X G c hs
  · exact df_g_check_pair X G c hs
  · exact df_g_ups_of X G c hs
  · exact df_g_downs_of X G c hs
  · exact df_g_is_right_pair X G c hs
  · exact df_g_is_right X G c hs
  · exact df_g_up_for X G c hs
  · exact df_g_down_for X G c hs
  · exact df_g_law_draws X G c hs
  · exact df_g_law_next X G c hs
  · exact df_g_law_pair X G c hs
  · exact df_g_law_tree X G c hs
  · exact df_g_law_bent X G c hs
  · exact df_g_law_any X G c hs
  · exact df_g_law_lists X G c hs
  · exact df_g_law_all_pairs X G c hs
  · exact df_g_k22_law_ups X G c hs
  · exact df_g_k22_law_downs X G c hs
  · exact df_g_k22_law_right X G c hs
  · exact df_g_k22_law X G c hs
theorem blts (X : K.In h) (G : h.Ns mainGlobals mg) (c : He.SaysD fa dd K) : ∀ x ∈ bltNames, mg x = none := by
  intro x hx
  simp only [bltNames, List.mem_cons, List.not_mem_nil, or_false] at hx
  rcases hx with rfl | rfl | rfl | rfl | rfl | rfl | rfl | rfl | rfl | rfl | rfl | rfl | rfl | rfl | rfl | rfl | rfl
  · exact He.free_ok X G (c.fact 22 (f := .free "len") rfl)
  · exact He.free_ok X G (c.fact 23 (f := .free "int") rfl)
  · exact He.free_ok X G (c.fact 24 (f := .free "repr") rfl)
  · exact He.free_ok X G (c.fact 25 (f := .free "list") rfl)
  · exact He.free_ok X G (c.fact 26 (f := .free "sum") rfl)
  · exact He.free_ok X G (c.fact 27 (f := .free "max") rfl)
  · exact He.free_ok X G (c.fact 28 (f := .free "min") rfl)
  · exact He.free_ok X G (c.fact 29 (f := .free "all") rfl)
  · exact He.free_ok X G (c.fact 30 (f := .free "sorted") rfl)
  · exact He.free_ok X G (c.fact 31 (f := .free "range") rfl)
  · exact He.free_ok X G (c.fact 32 (f := .free "enumerate") rfl)
  · exact He.free_ok X G (c.fact 33 (f := .free "zip") rfl)
  · exact He.free_ok X G (c.fact 34 (f := .free "isinstance") rfl)
  · exact He.free_ok X G (c.fact 35 (f := .free "bool") rfl)
  · exact He.free_ok X G (c.fact 36 (f := .free "tuple") rfl)
  · exact He.free_ok X G (c.fact 37 (f := .free "str") rfl)
  · exact He.free_ok X G (c.fact 38 (f := .free "dict") rfl)
theorem cons_ (X : K.In h) (G : h.Ns mainGlobals mg) (c : He.SaysD fa dd K) : ∀ x v, T.cons.lookup x = some v → ∃ u, mg x = some u ∧ RelV v u := by
  intro x v hx
  have hm := lookup_mem' hx
  simp only [T, List.mem_cons, List.not_mem_nil, or_false, Prod.mk.injEq] at hm
  rcases hm with ⟨rfl, rfl⟩
  · obtain ⟨t, e⟩ := He.int_ok X G (c.fact 39 rfl)
    exact ⟨_, e, _, rfl⟩
end
theorem law_F {P : Program} {w : World} {K : PySem.W.Frag} {h : Heap} {mg : Str → Option Value} {fa0 a : Addr} {vs : List Value} (X : K.In h) (G : h.Ns mainGlobals mg) (c : He.SaysD fa dd K) (hm : mg "law" = some (.ref fa0)) (ha : h.get? a = some { cls := .type "list", data := .seq vs.toArray }) :
    ∃ (K' : PySem.W.Frag) (fd : FuncData) (sp : Sp), K'.In h ∧ K'.lookup a = none ∧ (∀ (s : Shared) (u : Value), BindsTo s fd ⟨[u], []⟩ [("_law_script", u)]) ∧
      (∀ (H : Hp) (o : Obj) (ns : List Int), ns.length ≤ 63 → H a = some (.frz o (.lst (ns.map V.int))) → sp [.ref a] H (fun v _ => v = .bl true) fun _ _ _ => False) ∧
      ∀ base : Heap, K'.In base → base.Ns mainGlobals mg → FnG P w K' mg base 30 fa0 fd ["_law_script"] sp := by
  obtain ⟨fd, D⟩ := c.def_ 21 (d := ⟨("law", none), "law", "law", defArgs (tp 27), defBody (tp 27), defScope (tp 27), [], []⟩) rfl
  have e := hm.symm.trans (He.glo_ok X G (c.fact 21 (f := .glo "law") rfl))
  cases e
  have hs := delK_sub X ha
  have b := FunD.bindsA (ps := ["_law_script"]) D fun _ _ _ _ _ _ us hl => match us, hl with | [_], _ => rfl
  refine ⟨delK K a, fd, SPn T (delK K a) 30 "law", delK_in X, delK_self, fun s u => b s [u] rfl, fun H o ns hl hH => ?_, fun base kb gb => ?_⟩
  · obtain ⟨fin, hv⟩ := law_true o ns hl
    exact law_val (io := io) hv hH
  · exact fnG_tab (facts_of (T := T) (P := P) (w := w) (base := base) (defs X G c hs) (cons_ X G c) (blts X G c) 29) (F := g_k22_law) rfl (FunD.sub hs D) (fscB_ok (by decide +kernel)) (by decide +kernel)

end VC

open PySem PySem.W PySem.Calls PyProof.Rows
set_option maxHeartbeats 0 in
theorem PySem.Challenge.cw_linksums_k22_whole_one_table_tells_the_o_holds : PySem.Challenge.rw_linksums_k22_whole_one_table_tells_the_o.Holds := by
  w_on; o_law
  refine HandSHeadRun.head_any (r := OpenLaw.row PySem.Challenge.rw_linksums_k22_whole_one_table_tells_the_o) (q := view (OpenLaw.row PySem.Challenge.rw_linksums_k22_whole_one_table_tells_the_o).prog [27]) (H := VC.hk) (ob := VC.ob) (M := 2000) (loose := VC.loose) (d := HandSHeadRun.topDef (OpenLaw.row PySem.Challenge.rw_linksums_k22_whole_one_table_tells_the_o).prog 27) (kwd := []) VC.ob_eq
    (by kernel_rfl) (fun s => by kernel_rfl) VC.run (by kernel_rfl) (by kernel_rfl) (by kernel_rfl) (by rfl) (by first | assumption | decide +kernel) (by decide +kernel) ⟨rfl, rfl, rfl, rfl, rfl, by decide +kernel⟩ ?hw ?hc
  case hw => w_witness2
  case hc =>
    refine VC.law_endH (l := PySem.Challenge.rw_linksums_k22_whole_one_table_tells_the_o) (n := 63) (k := 30) (x := "_law_script") rfl (by decide) (by kernel_rfl) ⟨rfl, by decide, by decide⟩ ?F
    intro w mg fa h a vs Y G hmg0 ha
    obtain ⟨K, KX, c⟩ := Y
    have hmg : mg ("law" : PySem.Str) = some (.ref fa) := by
      have e : (HandSHeadRun.topDef (OpenLaw.row PySem.Challenge.rw_linksums_k22_whole_one_table_tells_the_o).prog 27).name = ("law" : PySem.Str) := by kernel_rfl
      rw [← e]
      exact hmg0
    exact VC.law_F KX G c hmg ha
