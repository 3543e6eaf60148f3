import PyProof.Rows.All
import Wide.All
import OpenK.AllK
import Wide.FinOn
import HandS.ForMost
import HandS.ForExc
import HandS.WideBits
import HandS.EndBits
import HandS.Defaults
import HandS.FStrTup
import HandS.IsInst
import HandS.More
import HandS.Style
import HandS.Steps
import HandS.MakeKwOnly
import PySem.Challenge.RW_forkthrift_k14_whole_copies_by_cells
set_option Elab.async false
set_option linter.all false
set_option maxRecDepth 100000
set_option maxHeartbeats 4000000
namespace G
open PySem PySem.Spec PyProof.Rows L2

/-! the call layer once more, with the guards known -/
structure RoomG (k : Nat) (A : Around) : Prop where
  r : Room k A
  g : A.guards = some []
theorem RoomG.mono {j k : Nat} {A : Around} (z : RoomG k A) (h : j ≤ k) : RoomG j A :=
  ⟨z.r.mono h, z.g⟩
theorem RoomG.deeper {k : Nat} {A : Around} (z : RoomG (k + 1) A) (env : Env) :
    RoomG k (A.deeper env) := ⟨z.r.deeper env, z.g⟩
theorem make_guards {A : Around} {C : Addr} {us : List Value} {kw : List (Str × Value)} :
    (A.under (.builtin "type.__call__" ⟨.ref C :: us, kw⟩)).guards = A.guards := by
  first
    | rfl
    | (simp only [Around.under]
       rw [pushGuards_eq]
       have e : Code.guards (.builtin "type.__call__" ⟨.ref C :: us, kw⟩) = [] := by
         simp [Code.guards, Code.isGuard, guardIds]
       rw [e]
       cases A.guards <;> rfl)
theorem RoomG.make {k : Nat} {A : Around} (z : RoomG (k + 1) A) (C : Addr) (us : List Value)
    (kw : List (Str × Value)) : RoomG k (A.under (.builtin "type.__call__" ⟨.ref C :: us, kw⟩)) :=
  ⟨z.r.make C us kw, make_guards.trans z.g⟩

structure FnG (P : Program) (w : World) (K : PySem.W.Frag) (mg : Str → Option Value) (base : Heap)
    (k : Nat) (f : Addr) (fd : FuncData) (ps : List Str) (sp : Sp) : Prop where
  len : ∀ vs H Q E, sp vs H Q E → vs.length = ps.length
  run : ∀ (A : Around) (outer : List Env) (s : Shared) (H : Hp) (args : Args) (us : List Value)
    (vs : List V) (Q : VK) (E : XK), RoomG k A → Env0 P w K mg base A outer s H →
    BindsTo s fd args (ps.zip us) → Vals vs us → sp vs H Q E →
    codeAny (model P w) A (.call (.ref f) args) (CR (L2.CX P w) outer P w H s Q E) s
section
variable {P : Program} {w : World} {K : PySem.W.Frag} {mg : Str → Option Value} {base : Heap}
theorem FnG.mono {j k : Nat} {f : Addr} {fd : FuncData} {ps : List Str} {sp : Sp}
    (F : FnG P w K mg base j f fd ps sp) (h : j ≤ k) : FnG P w K mg base k f fd ps sp :=
  ⟨F.len, fun A o s H args us vs Q E z => F.run A o s H args us vs Q E (z.mono h)⟩
theorem FnG.of {k : Nat} {f : Addr} {fd : FuncData} {ps : List Str} {sp : Sp}
    (F : FnOk P w K mg base (L2.CX P w) k f fd ps sp) : FnG P w K mg base k f fd ps sp :=
  ⟨F.len, fun A o s H args us vs Q E z => F.run A o s H args us vs Q E z.r⟩

/-- a def by its body -/
theorem FnG.body {k : Nat} {f : Addr} {name qual : Str} {params : Arguments} {body : List Stmt}
    {sc : Scope} {dV kV doc pm cdv ct oc : Value} {an od : Option Addr} {osl : Array (Option Value)}
    {N ps : List Str} {sp : Sp}
    (lk : K.lookup f = some ⟨oc, od, .func (PySem.W.fnOf name qual params body sc dV kV doc pm an cdv ct), osl⟩)
    (hcd : PySem.W.codeIn K cdv qual = true) (S : FnScope N ps sc)
    (len : ∀ vs H Q E, sp vs H Q E → vs.length = ps.length)
    (hb : ∀ (A : Around) (outer : List Env) (s : Shared) (H : Hp) (vs : List V) (Q : VK) (E : XK),
      RoomG k (A.deeper (envOfC qual sc s.heap.objs.size f cdv)) → sp vs H Q E →
      ∃ t, PSs (cxOf (L2.CX P w) P w K mg base N qual sc f cdv A outer s H E) body t ∧
        t { nx := fun _ H' => Q .non H', rt := Q } (start N vs) H) :
    FnG P w K mg base (k + 1) f
      (PySem.W.fnOf name qual params body sc dV kV doc pm an cdv ct) ps sp := by
  refine ⟨len, ?_⟩
  intro A outer s H args us vs Q E z e0 bd rv hsp
  have n0 := len _ _ _ _ hsp
  have kin : K.In s.heap :=
    e0.mod.kin.keeps (fun b o e => (e0.bs b o e).1)
  have lim : s.heap.NoLimit :=
    e0.mod.nolimit.keeps (fun b o e => (e0.bs b o e).1)
  have kinds : ∀ y ∈ ps.zip us, sc.names.lookup y.1 = some .local ∨
      (sc.names.lookup y.1 = some .cell ∧
        ((cellsFrom (s.heap.objs.size + 1) sc.names []).lookup y.1).isSome = true) := by
    intro y hy
    obtain ⟨m, v⟩ := y
    cases S.par m (List.of_mem_zip hy).1 with
    | inl q => exact Or.inl q
    | inr q => exact Or.inr ⟨q, PySem.W.cellsFrom_some _ _ _ (Or.inl q)⟩
  refine codeAny_call_function z.r.depth (kin _ _ lk) rfl S.co S.gen rfl
    (PySem.W.codeRec_of kin hcd) (bd _ _ _ _ ?_)
  refine wpAny_newFunctionEnv_cells S.kind kinds ?_
  intro env he s1 x
  subst he
  refine ⟨lim.keeps x.toInCall.keep, ?_⟩
  refine codeAny_func ?_
  obtain ⟨t, ht, hq⟩ := hb A outer s H vs Q E (z.deeper _) hsp
  have I := inv_start (CX := L2.CX P w) (K := K) (mg := mg) (base := base) (E := E)
    S z.r.hd e0 n0 rv x
  refine wpAny_mono (ht.run [] s1 (start N vs) H _ I hq) ?_ (fun e s' hs => hs)
  intro fl s' hs
  have fin : ∀ {τ : L2.St} {G : Hp} {v : V} {u : Value},
      Inv (cxOf (L2.CX P w) P w K mg base N qual sc f cdv A outer s H E) [] τ G s' →
      RelV v u → Q v G → CE outer P w H s Q u s' := by
    intro τ G v u J r q
    exact ⟨v, G, J.os, J.bare, J.base, J.hok, r, q⟩
  match fl, hs with
  | .ret u, ⟨v, τ, G, J, r, q⟩ => exact fin J r q
  | .next, ⟨τ, G, J, q⟩ => exact fin (v := .non) (u := Value.none) J rfl q
  | .brk, ⟨_, _, _, q⟩ => exact False.elim q
  | .cont, ⟨_, _, _, q⟩ => exact False.elim q
end
end G
namespace G
open PySem PySem.Spec PyProof.Rows L2
section
variable {X : Cx} {k n : Nat} {f C : Addr} {fd : FuncData} {ps ks : List Str} {sp : Sp}
variable {dvs : List V} {ds : List Value} {E : XK} {x m : Str} {p pos apos : Pos} {e o : Expr}
variable {es : List Expr} {ta : TE} {t tk : TA} {pins : List (Addr × Obj)} {σ : L2.St} {H : Hp}
variable {s s' : Shared} {Q : VK}
abbrev Fg (X : Cx) (k : Nat) (f : Addr) (fd : FuncData) (ps : List Str) (sp : Sp) : Prop :=
  FnG X.prog X.w X.K X.mg X.base k f fd ps sp
abbrev Ps (X : Cx) (E : XK) : Prop := Passes (L2.CX X.prog X.w) X E

def Got (X : Cx) (R : Value → Shared → Prop) : Result → Shared → Prop
  | .ok (.ret u), s' => R u s'
  | .ok _, _ => False
  | .error e, s' => X.xe e s'
theorem ended (I : Inv X pins σ H s) (hx : Ps X E) {R : Value → Shared → Prop}
    (hR : ∀ u s', CE X.stack X.prog X.w H s Q u s' → R u s') {r : Result}
    (q : CR (L2.CX X.prog X.w) X.stack X.prog X.w H s Q E r s') : Got X R r s' := by
  match r, q with
  | .error e, q => exact hx pins σ H s e s' I q
  | .ok (.ret u), q => exact hR u s' q
  | .ok .next, q => exact False.elim q
  | .ok .brk, q => exact False.elim q
  | .ok .cont, q => exact False.elim q

theorem runG {args : Args} {us : List Value} {vs : List V} (F : Fg X k f fd ps sp)
    (z : RoomG k X.A) (hb : BindsTo s fd args (ps.zip us)) (hx : Ps X E) (I : Inv X pins σ H s)
    (rv : Vals vs us) (h : sp vs H Q E) :
    codeAny (model X.prog X.w) X.A (.call (.ref f) args) (Got X (EP X pins σ Q)) s := by
  refine codeAny_mono (F.run X.A X.stack s H args us vs Q E z I.env0 hb rv h) ?_
  intro r s' q
  exact ended I hx (fun u s' c => I.after c) q

theorem run1 {us : List Value} {vs : List V} (F : Fg X k f fd ps sp) (z : RoomG k X.A)
    (hb : Binds X.K fd ps ds) (hd : Vals dvs ds) (hx : Ps X E) (I : Inv X pins σ H s)
    (rv : Vals vs us) (h : sp (vs ++ dvs) H Q E) :
    wpAny (model X.prog X.w) X.A (call (.ref f) us) (EP X pins σ Q) X.xe s := by
  have r2 : Vals (vs ++ dvs) (us ++ ds) := rv.append hd
  have hl : (us ++ ds).length = ps.length := by
    rw [← r2.length]
    exact F.len _ _ _ _ h
  refine wpAny_call (codeAny_mono (runG F z (hb s us I.kIn hl) hx I r2 h) ?_)
  intro r s' q
  match r, q with
  | .error e, q => exact q
  | .ok (.ret u), q => exact q
  | .ok .next, q => exact q
  | .ok .brk, q => exact q
  | .ok .cont, q => exact q

theorem c1 (F : Fg X k f fd ps sp) (z : RoomG k X.A) (hg : Gl X x) (hm : X.mg x = some (.ref f))
    (hk : PySem.W.keepIn X.K (.ref f) = true) (hb : Binds X.K fd ps ds) (hd : Vals dvs ds)
    (hx : Ps X E) (ha : PA X (e :: es) t)
    (hdb : (x == ("__debug__" : Str)) = false := by decide)
    (he : starEach (e :: es) X.env = (false, eval e X.env) :: starEach es X.env := by rfl)
    (hpl : (backTo pos (starEach es X.env)).any (·.1) = false := by rfl) :
    PE X (.Call (.Name x p) (e :: es) [] pos) (tCall sp dvs E t) := by
  constructor
  intro pins s σ H Q I h
  refine wpAny_Call_Name_kw (ld_glob I hg hm ?_ hdb)
  refine PySem.W.callWith_K (h₀ := X.base) I.ok.mod.kin hk ?_ he hpl
  refine thn (ha.run pos pins s σ H _ I h) ?_
  intro us s1 y
  obtain ⟨vs, H1, I1, r, q⟩ := y
  exact ⟨I1.kIn, run1 F z hb hd hx I1 r q⟩

theorem c0 (F : Fg X k f fd ps sp) (z : RoomG k X.A) (hg : Gl X x) (hm : X.mg x = some (.ref f))
    (hk : PySem.W.keepIn X.K (.ref f) = true) (hb : Binds X.K fd ps ds) (hd : Vals dvs ds)
    (hx : Ps X E) (hdb : (x == ("__debug__" : Str)) = false := by decide) :
    PE X (.Call (.Name x p) [] [] pos) (tCall sp dvs E tNil) := by
  constructor
  intro pins s σ H Q I h
  refine wpAny_Call_Name_kw (ld_glob I hg hm ?_ hdb)
  exact PySem.W.callWith_K0 I.kIn hk (run1 (us := []) F z hb hd hx I .nil h)

/-- o.m(..) -/
theorem cm {pl : Sem Bool} (he : PE X o ta) (c : Cls X.K C) (hm : Meth X.K C m f)
    (F : Fg X k f fd ps sp) (z : RoomG k X.A) (hb : Binds X.K fd ps ds) (hd : Vals dvs ds)
    (hx : Ps X E) (ha : PA X (e :: es) t)
    (hst : starEach (e :: es) X.env = (false, eval e X.env) :: starEach es X.env := by rfl)
    (hpl : (backTo pos (starEach es X.env)).any (·.1) = false := by rfl)
    (ht : eval (.Call (.Attribute o m apos) (e :: es) [] pos) X.env = (do
      let y ← eval o X.env
      standAt apos.atName
      let (g, a) ← holding [y] (getMethod y m pl)
      callWith pos g a (backTo pos (starEach (e :: es) X.env))
        (backToKw pos (keywordEach [] X.env))) := by rfl) :
    PE X (.Call (.Attribute o m apos) (e :: es) [] pos) (tMeth C m sp dvs E ta t) := by
  constructor
  intro pins s σ H Q I h
  refine PySem.W.methodCall_KW (pl := pl) (thn (he.run pins s σ H _ I h) ?_) ht
  intro u s1 y
  obtain ⟨v, H1, I1, rx, a, dx, fs, ex, ea, l, q⟩ := y
  subst ex
  obtain rfl : u = Value.ref a := rx
  refine getmeth_ok I1 ea c hm l ?_
  refine PySem.W.callWith_K (first := [.ref a]) (h₀ := X.base) I.ok.mod.kin hm.kp ?_ hst hpl
  refine thn (ha.run pos pins s1 σ H1 _ I1 q) ?_
  intro us s2 y
  obtain ⟨vs, H2, I2, r, q2⟩ := y
  exact ⟨I2.kIn, run1 (us := .ref a :: us) (vs := .ref a :: vs) F z hb hd hx I2 (.cons rfl r) q2⟩
/-- o.m() -/
theorem cm0 {pl : Sem Bool} (he : PE X o ta) (c : Cls X.K C) (hm : Meth X.K C m f)
    (F : Fg X k f fd ps sp) (z : RoomG k X.A) (hb : Binds X.K fd ps ds) (hd : Vals dvs ds)
    (hx : Ps X E)
    (ht : eval (.Call (.Attribute o m apos) [] [] pos) X.env = (do
      let y ← eval o X.env
      standAt apos.atName
      let (g, a) ← holding [y] (getMethod y m pl)
      callWith pos g a (backTo pos (starEach [] X.env))
        (backToKw pos (keywordEach [] X.env))) := by rfl) :
    PE X (.Call (.Attribute o m apos) [] [] pos) (tMeth C m sp dvs E ta tNil) := by
  constructor
  intro pins s σ H Q I h
  refine PySem.W.methodCall_KW (pl := pl) (thn (he.run pins s σ H _ I h) ?_) ht
  intro u s1 y
  obtain ⟨v, H1, I1, rx, a, dx, fs, ex, ea, l, q⟩ := y
  subst ex
  obtain rfl : u = Value.ref a := rx
  refine getmeth_ok I1 ea c hm l ?_
  refine PySem.W.callWith_K0 (first := [.ref a]) I1.kIn hm.kp ?_
  exact run1 (us := [.ref a]) (vs := [.ref a]) F z hb hd hx I1 (.cons rfl .nil) q
end
end G
namespace G
open PySem PySem.Spec PyProof.Rows L2

/-- the heap at the law's entry: the script alone is tracked, or nothing -/
theorem lawG {P : Program} {w : World} {K : PySem.W.Frag} {mg mb : Str → Option Value} {k : Nat}
    {fa a : Addr} {fd : FuncData} {x : Str} {sp : Sp} {s0 : Shared} {vs : List Value}
    {ns : List Int} (kin : K.In s0.heap) (hns : s0.heap.Ns mainGlobals mg)
    (hb : s0.heap.Ns builtinsNs mb) (hbb : ∀ y : Str, y ≠ "__name__" → mb y = bootBuiltins y)
    (lim : s0.heap.NoLimit) (hg : s0.gens = #[])
    (ha : s0.heap.get? a = some { cls := .type "list", data := .seq vs.toArray })
    (hi : IntsAre vs ns) (hl : ns.length ≤ sizeLine) (z : RoomG k callerA)
    (F : ∀ base : Heap, K.In base → base.Ns mainGlobals mg → FnG P w K mg base k fa fd [x] sp)
    (bd : ∀ (s : Shared) (u : Value), BindsTo s fd ⟨[u], []⟩ [(x, u)])
    (hsp : ∀ H : Hp, Only H → SqL K H a (ns.map V.int) →
      sp [.ref a] H (fun v _ => v = .bl true) fun _ _ _ => False) :
    codeAny (model P w) callerA (.call (.ref fa) ⟨[.ref a], []⟩)
      (fun r s' => r = .ok (.ret (.bool true)) ∧ OldK s0.heap s'.heap ∧ s'.os = s0.os ∧
        AllBare s'.gens) s0 := by
  have rv := vals_ints hi
  have lv := hi.length
  have core : ∀ H : Hp, Only H → SqL K H a (ns.map V.int) → HOk P w H s0.heap →
      (∀ b, H b ≠ none → b = a) → (H a ≠ none → K.lookup a = none) →
      codeAny (model P w) callerA (.call (.ref fa) ⟨[.ref a], []⟩)
        (fun r s' => r = .ok (.ret (.bool true)) ∧ OldK s0.heap s'.heap ∧ s'.os = s0.os ∧
          AllBare s'.gens) s0 := by
    intro H only sq hok only_a notK
    have at_a : ∀ {b : Addr}, H b ≠ none → b = a := fun {b} q => only_a b q
    have seqs : ∀ {b : Addr} {o : Obj} {es : Array DictEntry} {ep : Nat},
        s0.heap.get? b = some o → o.data = .dict es ep → H b = none := by
      intro b o es ep e d
      cases q : H b with
      | none => rfl
      | some u =>
        obtain rfl := at_a (b := b) (by rw [q]; exact fun y => nomatch y)
        rw [ha] at e
        cases e
        have d' : Data.seq vs.toArray _ = Data.dict es ep := d
        cases d'
    have nsb : ∀ {b : Addr} {g : Str → Option Value}, s0.heap.Ns b g →
        (hidT s0.heap H).Ns b g := by
      intro b g y
      obtain ⟨o, es, ep, e, d, r⟩ := y
      exact ⟨o, es, ep, hidT_get e (seqs e d), d, r⟩
    have kb : K.In (hidT s0.heap H) := by
      intro b o e
      refine hidT_get (kin b o e) ?_
      cases q : H b with
      | none => rfl
      | some u =>
        obtain rfl := at_a (b := b) (by rw [q]; exact fun y => nomatch y)
        rw [notK (by rw [q]; exact fun y => nomatch y)] at e
        cases e
    have md : Mod K mg (hidT s0.heap H) := by
      obtain ⟨mc, l1, l2⟩ := lim
      exact ⟨kb, nsb hns, ⟨mb, nsb hb, hbb⟩, ⟨mc, nsb l1, l2⟩⟩
    have e0 : Env0 P w K mg (hidT s0.heap H) callerA [] s0 H :=
      ⟨rfl, md, fun b o e => of_hidT e, Nat.le_of_eq (hidT_size _ _), trivial,
        fun b q => absurd (show b ∈ ([] : List Addr) from q) List.not_mem_nil, hok, .of_eq hg⟩
    have run := (F _ kb (nsb hns)).run callerA [] s0 H ⟨[.ref a], []⟩ [.ref a] [.ref a] _ _
      z e0 (bd s0 (.ref a)) (.cons rfl .nil) (hsp H only sq)
    refine codeAny_mono run ?_
    intro r s' h
    match r, h with
    | .error e, h =>
      obtain ⟨_, _, _, _, _, _, _, _, _, _, _, _, y⟩ := h
      exact y.elim
    | .ok .next, h => exact False.elim h
    | .ok .brk, h => exact False.elim h
    | .ok .cont, h => exact False.elim h
    | .ok (.ret u), h =>
      obtain ⟨v, H', os, bare, un, hok', r', q⟩ := h
      have q' : v = .bl true := q
      subst q'
      obtain rfl : u = Value.bool true := r'
      refine ⟨rfl, OldK.of_keep ?_, os, bare⟩
      intro b o e
      cases q : H b with
      | none =>
        exact un.keep b o e q (fun y => absurd (show b ∈ ([] : List Addr) from y) List.not_mem_nil)
          List.not_mem_nil
      | some u =>
        rcases only b with y | ⟨ob, xs, y⟩
        · rw [q] at y
          cases y
        · obtain ⟨e1, _⟩ := hok b _ y
          obtain ⟨e2, _⟩ := hok' b _ (un.frzs b ob _ y)
          rw [e] at e1
          cases e1
          exact e2
  cases hk : K.lookup a with
  | some o =>
    have e := kin a o hk
    rw [ha] at e
    cases e
    refine core (fun _ => none) (fun _ => Or.inl rfl) (Or.inr ?_) ?_ (fun b y => absurd rfl y)
      (fun y => absurd rfl y)
    · refine ⟨_, vs.toArray, _, hk, rfl, rfl, rfl, ?_, ?_⟩
      · rw [List.size_toArray, lv]
        exact hl
      · simpa using rv
    · intro b u y
      have y' : (none : Option HO) = some u := y
      cases y'
  | none =>
    refine core (fun b => if b = a then
      some (.frz { cls := .type "list", data := .seq vs.toArray } (.lst (ns.map V.int)))
      else none) ?_ (Or.inl (Or.inr ⟨_, if_pos rfl⟩)) ?_ ?_ (fun _ => hk)
    · intro b
      by_cases q : b = a
      · exact Or.inr ⟨_, _, if_pos q⟩
      · exact Or.inl (if_neg q)
    · intro b u y
      by_cases q : b = a
      · have y' := (if_pos q).symm.trans y
        cases y'
        subst q
        refine ⟨ha, ?_, vs, _, rv, ha⟩
        rw [List.length_map]
        exact hl
      · have y' := (if_neg q).symm.trans y
        cases y'
    · intro b y
      by_cases q : b = a
      · exact q
      · exact absurd (if_neg q) y

/-- the end of a law row, the script's bits told -/
theorem walkG {l : PySem.W.OpenLaw} {n k : Nat} {q : Program} {loose : List Str}
    {XP : (Str → Option Value) → Heap → Prop} {YP : World → Heap → Prop} {d : DefRec}
    {K : Params → PySem.W.Frag} {sp : PySem.W.Frag → Sp} {x : Str} (hn : l.most = some n)
    (hn2 : n ≤ sizeLine) (hdf : d.params.defaults = []) (hr : Room k callerA)
    (hY : ∀ (w : World) (h : Heap), YP w h → (K w.params).In h)
    (F : ∀ (w : World) (mg : Str → Option Value) (fa : Addr) (h : Heap), (K w.params).In h →
      h.Ns mainGlobals mg → mg d.name = some (.ref fa) →
      ∃ fd : FuncData, (∀ (s : Shared) (u : Value), BindsTo s fd ⟨[u], []⟩ [(x, u)]) ∧
        ∀ base : Heap, (K w.params).In base → base.Ns mainGlobals mg →
          FnG l.prog w (K w.params) mg base k fa fd [x] (sp (K w.params)))
    (hsp : ∀ (K : PySem.W.Frag) (H : Hp) (a : Addr) (ns : List Int), ns.length ≤ n →
      (∀ z ∈ ns, Builtin.Int.intBits z ≤ 1048576) → Only H → SqL K H a (ns.map V.int) →
      sp K [.ref a] H (fun v _ => v = .bl true) fun _ _ _ => False) :
    PySem.W.WalkO q loose XP YP l.row.toRowW d [] (fun f vs => PySem.call f vs) := by
  refine Att.attach_callB hn hdf ?_
  intro w s0 s1 mg mb fa o pm cd doc a vs ns T Y ho hd hcd hmg hobj hints hlen hbits hg
  have kin := hY w _ Y
  obtain ⟨fd, hb, hF⟩ := F w mg fa _ kin T.T.g hmg
  exact lawG kin T.T.g T.T.b T.T.builtins T.T.nolimit hg hobj hints (Nat.le_trans hlen hn2)
    ⟨hr, rfl⟩ hF hb (fun H hO hS => hsp _ H a ns hlen hbits hO hS)
end G
namespace G
open PySem PySem.Spec PyProof.Rows L2

/-! ### repr of data -/

mutual
def cw : PyData → Nat
  | .none => 4
  | .bool _ => 5
  | .int _ => 1930
  | .str x => 10 * x.length + 4
  | .list xs => cws xs + 2
  | .tuple xs => cws xs + 2
  | .dict _ => 0
def cws : List PyData → Nat
  | [] => 0
  | x :: xs => cw x + 2 + cws xs
end
mutual
/-- it may be shown: ints of few bits, texts of plain signs, no dict -/
def shw : PyData → Bool
  | .none => true
  | .bool _ => true
  | .int i => decide (i.natAbs.log2 < 1920)
  | .str x => x.cps.toList.all fun c => decide (c < 16 ^ 8)
  | .list xs => shws xs
  | .tuple xs => shws xs
  | .dict _ => false
def shws : List PyData → Bool
  | [] => true
  | x :: xs => shw x && shws xs
end
theorem list_text (ts : List Str) : (listText ts).length ≤ piled ts + 2 := by
  unfold listText
  rw [strLen_append]
  have e1 : (("[" : Str)).length = 1 := by decide +kernel
  have e2 : (("]" : Str)).length = 1 := by decide +kernel
  cases ts with
  | nil =>
    show (("[" : Str)).length + (("]" : Str)).length ≤ _
    omega
  | cons t r =>
    have q := textFrom_length_pos r 1 (("[" : Str) ++ (if 0 > 0 then ", " else "" : String) ++ t) (by decide)
    have e3 : ((if 0 > 0 then ", " else "" : String) : Str).length = 0 := by decide +kernel
    have q2 : (textFrom 0 "[" (t :: r)).length = (("[" : Str) ++ (if 0 > 0 then ", " else "" : String) ++ t).length + piled r := q
    rw [q2, strLen_append, strLen_append, piled_cons]
    omega
mutual
theorem shown_len : ∀ d : PyData, shw d = true → d.shown.length ≤ cw d
  | .none, _ => by simp only [PyData.shown, cw]; decide +kernel
  | .bool b, _ => by cases b <;> (simp only [PyData.shown, cw]; decide +kernel)
  | .int i, h => by
    simp only [shw, decide_eq_true_eq] at h
    simp only [PyData.shown, cw]
    have q := int_text_length_le (a := i) (k := 1920) (by decide) h
    rw [PySem.ofString_length]
    omega
  | .str x, h => by
    simp only [shw, List.all_eq_true, decide_eq_true_eq] at h
    simp only [PyData.shown, cw]
    have q := StrLaws.reprText_len x h
    omega
  | .list xs, h => by
    simp only [shw] at h
    simp only [PyData.shown, cw]
    exact Nat.le_trans (list_text _) (Nat.add_le_add_right (shown_lens xs h) 2)
  | .tuple xs, h => by
    simp only [shw] at h
    simp only [PyData.shown, cw]
    exact Nat.le_trans (fmt_text _) (Nat.add_le_add_right (shown_lens xs h) 2)
  | .dict _, h => by simp only [shw] at h; cases h
theorem shown_lens : ∀ ds : List PyData, shws ds = true → piled (PyData.shownAll ds) ≤ cws ds
  | [], _ => Nat.zero_le _
  | d :: ds, h => by
    simp only [shws, Bool.and_eq_true] at h
    simp only [PyData.shownAll, cws, piled_cons]
    have q1 := shown_len d h.1
    have q2 := shown_lens ds h.2
    omega
end
mutual
theorem shw_showable : ∀ d : PyData, shw d = true → d.showable = true ∧ d.hasDict = false
  | .none, _ => ⟨rfl, rfl⟩
  | .bool _, _ => ⟨rfl, rfl⟩
  | .int i, h => ⟨by simpa only [shw, PyData.showable] using h, rfl⟩
  | .str x, _ => ⟨rfl, rfl⟩
  | .list xs, h => by
    simp only [shw] at h
    simpa only [PyData.showable, PyData.hasDict] using shws_showable xs h
  | .tuple xs, h => by
    simp only [shw] at h
    simpa only [PyData.showable, PyData.hasDict] using shws_showable xs h
  | .dict _, h => by simp only [shw] at h; cases h
theorem shws_showable : ∀ ds : List PyData, shws ds = true →
    PyData.showableAll ds = true ∧ PyData.hasDictAll ds = false
  | [], _ => ⟨rfl, rfl⟩
  | d :: ds, h => by
    simp only [shws, Bool.and_eq_true] at h
    obtain ⟨a, b⟩ := shw_showable d h.1
    obtain ⟨e, f⟩ := shws_showable ds h.2
    simp only [PyData.showableAll, PyData.hasDictAll, a, b, e, f]
    exact ⟨rfl, rfl⟩
end
/-- repr(x), x data -/
def rRepr (K : PySem.W.Frag) : List V → Hp → VK → Prop := fun xs H Q =>
  ∃ x d, xs = [x] ∧ Dp K H x d ∧ shw d = true ∧ d.depth ≤ 60 ∧ cw d ≤ sizeLine ∧ Q (.str d.shown) H
theorem call_repr {X : Cx} (hg : X.A.guards = some []) (hu : X.A.units + 64 < cLine) :
    CallR X (.builtin "repr") (rRepr X.K) := by
  intro pins s σ H vs us Q I rv h
  obtain ⟨x, d, rfl, hd, hs, hdp, hz, q⟩ := h
  obtain ⟨hs1, hs2⟩ := shw_showable d hs
  have hz2 := Nat.le_trans (shown_len d hs) hz
  cases rv with
  | cons r rn =>
    cases rn
    obtain ⟨as, hr⟩ := Dp.reads I d _ _ hd r
    cases hr with
    | none => exact PySem.P.repr_of_none ⟨.str _, H, I.tok _, ⟨_, rfl⟩, q⟩
    | bool b => exact PySem.P.repr_of_bool ⟨.str _, H, I.tok _, ⟨_, rfl⟩, q⟩
    | int i t =>
      refine PySem.P.repr_of_int ?_ ⟨.str _, H, I.tok _, ⟨_, rfl⟩, q⟩
      first | exact hs | simpa only [shw, decide_eq_true_eq] using hs
    | str y t => exact PySem.P.repr_of_str ⟨.str _, H, I.tok _, ⟨_, rfl⟩, q⟩ hz2
    | list h1 h2 h3 h4 =>
      refine repr_of_reads' (Reads.list h1 h2 h3 h4) hs1 (fun y => by rw [hs2] at y; cases y) hg
        (by omega) (fun _ _ e => e) (fun h' u tk hk => ?_) hz2
      exact ⟨.str _, H, I.kept hk, ⟨_, rfl⟩, q⟩
    | tuple h1 h2 h3 h4 =>
      refine repr_of_reads' (Reads.tuple h1 h2 h3 h4) hs1 (fun y => by rw [hs2] at y; cases y) hg
        (by omega) (fun _ _ e => e) (fun h' u tk hk => ?_) hz2
      exact ⟨.str _, H, I.kept hk, ⟨_, rfl⟩, q⟩
    | dict h1 h2 h3 h4 h5 => simp only [PyData.hasDict] at hs2; cases hs2
end G
namespace G
open PySem PySem.Spec PyProof.Rows L2

/-! ### heaps: what is kept -/
/-- x is not yet tracked -/
structure Fr (H : Hp) (x : Addr) : Prop where
  e : H x = none
theorem fr_ne {H : Hp} {a b : Addr} {o : HO} (h : H a = some o) (f : Fr H b) : a ≠ b := ne_of_none h f.e
/-- what nothing changes -/
def Fix : HO → Prop
  | .tup _ => True
  | .frz _ _ => True
  | _ => False
/-- all that H tracks is as it was, but perhaps what stands at ws -/
structure Kp (ws : List Addr) (H H' : Hp) : Prop where
  at_ : ∀ a u, H a = some u → a ∉ ws → H' a = some u
  fix : ∀ a u, H a = some u → Fix u → H' a = some u
  dom : ∀ a u, H a = some u → ∃ v, H' a = some v
section
variable {ws us : List Addr} {H H1 H2 : Hp} {p : Addr} {o u : HO}
theorem Kp.refl : Kp ws H H := ⟨fun _ _ h _ => h, fun _ _ h _ => h, fun _ u h => ⟨u, h⟩⟩
theorem Kp.trans (a : Kp ws H H1) (b : Kp ws H1 H2) : Kp ws H H2 :=
  ⟨fun c u h n => b.at_ c u (a.at_ c u h n) n, fun c u h f => b.fix c u (a.fix c u h f) f,
    fun c u h => let ⟨v, e⟩ := a.dom c u h; b.dom c v e⟩
theorem Kp.mono (a : Kp ws H H1) (h : ∀ b ∈ ws, b ∈ us) : Kp us H H1 :=
  ⟨fun c u e n => a.at_ c u e fun q => n (h c q), a.fix, a.dom⟩
theorem Kp.wide (a : Kp [] H H1) : Kp ws H H1 := a.mono fun b h => (nomatch h)
theorem Kp.free (a : Kp ws H H1) (f : Fr H1 p) : Fr H p := by
  have h := f.e
  constructor
  cases q : H p with
  | none => rfl
  | some u =>
    obtain ⟨v, e⟩ := a.dom p u q
    rw [h] at e
    cases e
theorem Kp.new (f : Fr H p) : Kp ws H (upd H p o) := by
  have h := f.e
  have k : ∀ a u, H a = some u → upd H p o a = some u := fun a u e => by
    rw [upd_ne (ne_of_none e h)]
    exact e
  exact ⟨fun a u e _ => k a u e, fun a u e _ => k a u e, fun a u e => ⟨u, k a u e⟩⟩
/-- what H does not know may be written -/
theorem Kp.upd (a : Kp ws H H1) (f : Fr H p) : Kp ws H (upd H1 p o) := by
  have h := f.e
  have k : ∀ b u, H b = some u → L2.upd H1 p o b = H1 b := fun b u e => upd_ne (ne_of_none e h)
  exact ⟨fun b u e n => (k b u e).trans (a.at_ b u e n), fun b u e f => (k b u e).trans (a.fix b u e f),
    fun b u e => let ⟨v, q⟩ := a.dom b u e; ⟨v, (k b u e).trans q⟩⟩
theorem Kp.mut (h : H p = some u) (nf : ¬ Fix u) (hp : p ∈ ws) : Kp ws H (L2.upd H p o) := by
  refine ⟨fun a v e n => ?_, fun a v e f => ?_, fun a v e => ?_⟩
  · rw [upd_ne (fun (q : a = p) => n (by rw [q]; exact hp))]
    exact e
  · have q : a ≠ p := by
      intro q
      subst q
      rw [h] at e
      cases e
      exact nf f
    rw [upd_ne q]
    exact e
  · by_cases q : a = p
    · exact ⟨o, by rw [q, upd_same]⟩
    · exact ⟨v, by rw [upd_ne q]; exact e⟩
theorem Kp.upm {ys : List V} (a : Kp ws H H1) (h : H1 p = some (.lst ys)) (hp : p ∈ ws) :
    Kp ws H (L2.upd H1 p o) := a.trans (Kp.mut h (fun z => z) hp)
/-- what H does not know need not be named -/
theorem Kp.drop (a : Kp (p :: ws) H H1) (f : Fr H p) : Kp ws H H1 :=
  have h := f.e
  ⟨fun b u e n => a.at_ b u e (fun q => (List.mem_cons.mp q).elim (fun z => by
    rw [z, h] at e
    cases e) n), a.fix, a.dom⟩
theorem Kp.dropAll (a : Kp us H H1) (h : ∀ b ∈ us, b ∈ ws ∨ Fr H b) : Kp ws H H1 :=
  ⟨fun b u e n => a.at_ b u e (fun q => (h b q).elim n (fun z => by
    rw [z.e] at e
    cases e)), a.fix, a.dom⟩
theorem Kp.seqL {K : PySem.W.Frag} {l : Addr} {xs : List V} (a : Kp ws H H1) (n : l ∉ ws)
    (h : SqL K H l xs) : SqL K H1 l xs := by
  rcases h with (h | ⟨o, h⟩) | h
  · exact .inl (.inl (a.at_ _ _ h n))
  · exact .inl (.inr ⟨o, a.fix _ _ h trivial⟩)
  · exact .inr h
theorem Kp.seqT {K : PySem.W.Frag} {l : Addr} {xs : List V} (a : Kp ws H H1)
    (h : SqT K H l xs) : SqT K H1 l xs := by
  rcases h with (h | ⟨o, h⟩) | h
  · exact .inl (.inl (a.fix _ _ h trivial))
  · exact .inl (.inr ⟨o, a.fix _ _ h trivial⟩)
  · exact .inr h
end
mutual
/-- data that nothing changes: no list, no dict -/
def imm : PyData → Bool
  | .none => true
  | .bool _ => true
  | .int _ => true
  | .str _ => true
  | .tuple xs => imms xs
  | .list _ => false
  | .dict _ => false
def imms : List PyData → Bool
  | [] => true
  | x :: xs => imm x && imms xs
end
section
variable {K : PySem.W.Frag} {ws : List Addr} {H H1 : Hp}
mutual
theorem dp_imm (k : Kp ws H H1) : ∀ (d : PyData) (v : V), imm d = true → Dp K H v d → Dp K H1 v d
  | .none, _, _, h => by cases h; exact .non
  | .bool b, _, _, h => by cases h; exact .bl b
  | .int i, _, _, h => by cases h; exact .int i
  | .str x, _, _, h => by cases h; exact .str x
  | .tuple ds, _, hi, h => by
    cases h with
    | tup hs ha => exact .tup (k.seqT hs) (dpa_imm k ds _ (by simpa only [G.imm] using hi) ha)
  | .list _, _, hi, _ => by simp only [G.imm] at hi; cases hi
  | .dict _, _, hi, _ => by simp only [G.imm] at hi; cases hi
theorem dpa_imm (k : Kp ws H H1) : ∀ (ds : List PyData) (vs : List V), imms ds = true →
    DpAll K H vs ds → DpAll K H1 vs ds
  | [], _, _, h => by cases h; exact .nil
  | d :: ds, _, hi, h => by
    simp only [imms, Bool.and_eq_true] at hi
    cases h with
    | cons h1 h2 => exact .cons (dp_imm k d _ hi.1 h1) (dpa_imm k ds _ hi.2 h2)
end
theorem dpa_len : ∀ {ds : List PyData} {vs : List V}, DpAll K H vs ds → vs.length = ds.length
  | [], _, h => by cases h; rfl
  | _ :: ds, _, h => by
    cases h with
    | cons _ h2 => rw [List.length_cons, List.length_cons, dpa_len h2]
theorem dpa_app : ∀ {ds es : List PyData} {vs ys : List V}, DpAll K H vs ds → DpAll K H ys es →
    DpAll K H (vs ++ ys) (ds ++ es)
  | [], _, _, _, h, g => by cases h; exact g
  | _ :: _, _, _, _, h, g => by
    cases h with
    | cons h1 h2 => exact .cons h1 (dpa_app h2 g)
theorem dpa_get : ∀ {ds : List PyData} {vs : List V} {i : Nat} {d : PyData}, DpAll K H vs ds →
    ds[i]? = some d → ∃ v, vs[i]? = some v ∧ Dp K H v d
  | [], _, _, _, _, e => by simp at e
  | _ :: _, _, 0, _, h, e => by
    cases h with
    | cons h1 h2 =>
      simp at e
      subst e
      exact ⟨_, rfl, h1⟩
  | _ :: _, _, i + 1, _, h, e => by
    cases h with
    | cons h1 h2 =>
      obtain ⟨v, q, r⟩ := dpa_get (i := i) h2 (by simpa using e)
      exact ⟨v, by simpa using q, r⟩
theorem dpa_getV : ∀ {ds : List PyData} {vs : List V} {i : Nat} {v : V}, DpAll K H vs ds →
    vs[i]? = some v → ∃ d, ds[i]? = some d ∧ Dp K H v d
  | [], _, _, _, h, e => by cases h; simp at e
  | _ :: _, _, 0, _, h, e => by
    cases h with
    | cons h1 h2 =>
      simp at e
      subst e
      exact ⟨_, rfl, h1⟩
  | _ :: _, _, i + 1, _, h, e => by
    cases h with
    | cons h1 h2 =>
      obtain ⟨d, q, r⟩ := dpa_getV (i := i) h2 (by simpa using e)
      exact ⟨d, by simpa using q, r⟩
theorem dpa_set : ∀ {ds : List PyData} {vs : List V} {i : Nat} {v : V} {d : PyData},
    DpAll K H vs ds → Dp K H v d → DpAll K H (vs.set i v) (ds.set i d)
  | [], _, _, _, _, h, _ => by cases h; exact .nil
  | _ :: _, _, 0, _, _, h, g => by
    cases h with
    | cons h1 h2 => exact .cons g h2
  | _ :: _, _, i + 1, _, _, h, g => by
    cases h with
    | cons h1 h2 => exact .cons h1 (dpa_set h2 g)
theorem dpa_take : ∀ {ds : List PyData} {vs : List V} (i : Nat),
    DpAll K H vs ds → DpAll K H (vs.take i) (ds.take i)
  | [], _, _, h => by cases h; simp; exact .nil
  | _ :: _, _, 0, h => by simp; exact .nil
  | _ :: _, _, i + 1, h => by
    cases h with
    | cons h1 h2 => exact .cons h1 (dpa_take i h2)
theorem dpa_drop : ∀ {ds : List PyData} {vs : List V} (i : Nat),
    DpAll K H vs ds → DpAll K H (vs.drop i) (ds.drop i)
  | [], _, _, h => by cases h; simp; exact .nil
  | _ :: _, _, 0, h => by simpa using h
  | _ :: _, _, i + 1, h => by
    cases h with
    | cons h1 h2 => exact dpa_drop i h2
theorem dpa_one {v : V} {d : PyData} (h : Dp K H v d) : DpAll K H [v] [d] := .cons h .nil
/-- a tuple of two ints -/
abbrev d2 (p : Int × Int) : PyData := .tuple [.int p.1, .int p.2]
theorem dp_pair {v : V} {p : Int × Int} (h : Dp K H v (d2 p)) :
    ∃ a, v = .ref a ∧ SqT K H a [.int p.1, .int p.2] := by
  cases h with
  | tup hs ha =>
    cases ha with
    | cons h1 h2 =>
      cases h2 with
      | cons h3 h4 =>
        cases h4
        cases h1
        cases h3
        exact ⟨_, rfl, hs⟩
theorem dp_mk2 {a : Addr} {m n : Int} (h : SqT K H a [.int m, .int n]) :
    Dp K H (.ref a) (d2 (m, n)) := .tup h (.cons (.int m) (.cons (.int n) .nil))
theorem imms_d2 : ∀ l : List (Int × Int), imms (l.map d2) = true
  | [] => rfl
  | _ :: l => by
    simp only [List.map_cons, imms, G.imm, imms_d2 l]
    rfl
/-- a list of our own, of data that nothing changes -/
def LD (K : PySem.W.Frag) (H : Hp) (l : Addr) (ds : List PyData) : Prop :=
  ∃ vs, H l = some (.lst vs) ∧ DpAll K H vs ds
theorem LD.dp {l : Addr} {ds : List PyData} (h : LD K H l ds) : Dp K H (.ref l) (.list ds) := by
  obtain ⟨vs, e, q⟩ := h
  exact .lst (SqL.of e) q
theorem LD.kp {l : Addr} {ds : List PyData} (h : LD K H l ds) (k : Kp ws H H1) (hi : imms ds = true)
    (n : l ∉ ws) : LD K H1 l ds := by
  obtain ⟨vs, e, q⟩ := h
  exact ⟨vs, k.at_ _ _ e n, dpa_imm k _ _ hi q⟩
theorem LD.some {l : Addr} {ds : List PyData} (h : LD K H l ds) : H l ≠ none := by
  obtain ⟨vs, e, q⟩ := h
  rw [e]
  exact fun y => nomatch y
end
end G
namespace G
open PySem PySem.Spec PyProof.Rows L2

/-! ### one rule for several kinds of values -/
theorem orR {X : Cx} {f : Value → Value → Sem Value} {r r' : R2} (h : OpR X f r) (h' : OpR X f r') :
    OpR X f (fun x y H Q => r x y H Q ∨ r' x y H Q) := by
  intro pins s σ H x y v u Q I rx ry q
  cases q with
  | inl q => exact h pins s σ H x y v u Q I rx ry q
  | inr q => exact h' pins s σ H x y v u Q I rx ry q
theorem orC {X : Cx} {f : Value} {r r' : List V → Hp → VK → Prop} (h : CallR X f r)
    (h' : CallR X f r') : CallR X f (fun xs H Q => r xs H Q ∨ r' xs H Q) := by
  intro pins s σ H xs us Q I rx q
  cases q with
  | inl q => exact h pins s σ H xs us Q I rx q
  | inr q => exact h' pins s σ H xs us Q I rx q
def uAdd (K : PySem.W.Frag) : R2 := fun x y H Q => rI0 (fun i j => .int (i + j)) x y H Q ∨
  (∃ i j, x = .str i ∧ y = .str j ∧ i.length + j.length ≤ sizeLine ∧ Q (.str (i ++ j)) H) ∨
  rCat x y H Q ∨ rCatT K x y H Q
def uMul : R2 := fun x y H Q => rI CMul (fun i j => .int (i * j)) x y H Q ∨
  rI CMulW (fun i j => .int (i * j)) x y H Q ∨ rRep x y H Q
def uEq (K : PySem.W.Frag) : R2 := fun x y H Q => rEq x y H Q ∨ rEqD K x y H Q
def uNe (K : PySem.W.Frag) : R2 := fun x y H Q => rNe x y H Q ∨ rNeD K x y H Q
def uIx (K : PySem.W.Frag) : R2 := fun x y H Q => rIxL K x y H Q ∨ rIxT K x y H Q ∨ rIxS x y H Q
def uLen (K : PySem.W.Frag) : List V → Hp → VK → Prop := fun xs H Q =>
  (∃ p ys, xs = [.ref p] ∧ (SqL K H p ys ∨ SqT K H p ys) ∧ Q (.int ys.length) H) ∨
  (∃ z, xs = [.str z] ∧ z.length ≤ sizeLine ∧ Q (.int z.length) H)
section
variable {X : Cx}
theorem o_add : OpR X (binaryOp .Add) (uAdd X.K) := orR op_add (orR op_add_str (orR op_cat op_catT))
theorem o_mul : OpR X (binaryOp .Mult) uMul := orR op_mul (orR op_mulW op_rep)
theorem o_eq (hu : X.A.units + 64 < cLine) : OpR X (compareOp .Eq) (uEq X.K) := orR op_eq (op_eqD hu)
theorem o_ne (hu : X.A.units + 64 < cLine) : OpR X (compareOp .NotEq) (uNe X.K) := orR op_ne (op_neD hu)
theorem o_ix : IxR X (uIx X.K) := ix_list.or (ix_tup.or ix_str)
theorem c_len : CallR X (.builtin "len") (uLen X.K) := orC call_len_seq call_len_str
end

/-! ### readings from the front -/
section
variable {K : PySem.W.Frag} {σ : L2.St} {H : Hp} {Q : VK} {D : Ends} {t1 t2 : TS} {te ta tb tc : TE}
variable {i j : Nat} {v x y : V} {c u : TT} {tr : TA} {n m : Int} {b : Bool} {p : Addr}
variable {QB : Bool → Hp → Prop} {QA : List V → Hp → Prop} {xs : List V}
theorem i_seq (h : t1 { D with nx := t2 D } σ H) : tSeq t1 t2 D σ H := h
theorem i_next (h : D.nx σ H) : tNext D σ H := h
theorem i_set (h : te σ H fun x H1 => D.nx (σ.set i (some x)) H1) : tAsg te (gName i) D σ H := h
theorem i_asg {g : TG} (h : te σ H fun x H1 => g x σ H1 D.nx) : tAsg te g D σ H := h
theorem i_drop (h : te σ H fun _ H1 => D.nx σ H1) : tDrop te D σ H := h
theorem i_ret (h : te σ H D.rt) : tRet te D σ H := h
theorem i_retN (h : D.rt .non H) : tRetN D σ H := h
theorem i_brk (h : D.bk σ H) : tBreak D σ H := h
theorem i_cont (h : D.ct σ H) : tCont D σ H := h
theorem i_ifS (h : c σ H fun b H1 => if b = true then t1 D σ H1 else t2 D σ H1) : tIfS c t1 t2 D σ H := h
theorem i_aug {ti : TIp} (e : σ[i]? = some (some x))
    (h : te σ H fun y H1 => ti x y H1 fun z H2 => D.nx (σ.set i (some z)) H2) : tAug i te ti D σ H := ⟨x, e, h⟩
theorem i_ipI {f : Int → Int → Int} (h : Q (.int (f n m)) H) : ipI f (.int n) (.int m) H Q := ⟨n, m, rfl, rfl, h⟩
theorem i_par {i j : Nat} {tt : TA}
    (h : tt σ H fun vs H1 => ∃ v w, vs = [v, w] ∧ D.nx ((σ.set i (some v)).set j (some w)) H1) :
    tPar i j tt D σ H := h
theorem i_two {P : V → V → Prop} (h : P x y) : ∃ v w, [x, y] = [v, w] ∧ P v w := ⟨x, y, rfl, h⟩

theorem i_var (e : σ[i]? = some (some v)) (h : Q v H) : tVar i σ H Q := ⟨v, e, h⟩
theorem i_c (h : Q v H) : tC v σ H Q := h
theorem i_op {r : R2} (h : ta σ H fun x H1 => tb σ H1 fun y H2 => r x y H2 Q) : tOp r ta tb σ H Q := h
theorem i_un {r : V → Hp → VK → Prop} (h : ta σ H fun x H1 => r x H1 Q) : tUn r ta σ H Q := h
theorem i_I0 {g : Int → Int → V} (h : Q (g n m) H) : rI0 g (.int n) (.int m) H Q := ⟨n, m, rfl, rfl, h⟩
theorem i_I {g : Int → Int → V} {C : Int → Int → Prop} (hc : C n m) (h : Q (g n m) H) :
    rI C g (.int n) (.int m) H Q := ⟨n, m, rfl, rfl, hc, h⟩
theorem i_U {g : Int → V} (h : Q (g n) H) : rU g (.int n) H Q := ⟨n, rfl, h⟩
theorem i_addI (h : Q (.int (n + m)) H) : uAdd K (.int n) (.int m) H Q := .inl ⟨n, m, rfl, rfl, h⟩
theorem i_addS {z w : Str} (hz : z.length + w.length ≤ sizeLine) (h : Q (.str (z ++ w)) H) :
    uAdd K (.str z) (.str w) H Q := .inr (.inl ⟨z, w, rfl, rfl, hz, h⟩)
theorem i_mulI (hc : CMul n m) (h : Q (.int (n * m)) H) : uMul (.int n) (.int m) H Q :=
  .inl ⟨n, m, rfl, rfl, hc, h⟩
theorem i_mulW (hc : CMulW n m) (h : Q (.int (n * m)) H) : uMul (.int n) (.int m) H Q :=
  .inr (.inl ⟨n, m, rfl, rfl, hc, h⟩)
theorem i_eqI (h : Q (.bl (decide (n = m))) H) : uEq K (.int n) (.int m) H Q := by
  refine .inl ⟨rfl, ?_⟩
  have e : decide (V.int n = V.int m) = decide (n = m) := by
    rw [Bool.eq_iff_iff]
    simp
  rw [e]
  exact h
theorem i_neI (h : Q (.bl (!decide (n = m))) H) : uNe K (.int n) (.int m) H Q := by
  refine .inl ⟨rfl, ?_⟩
  have e : decide (V.int n = V.int m) = decide (n = m) := by
    rw [Bool.eq_iff_iff]
    simp
  rw [e]
  exact h
theorem i_eqS {z w : Str} (h : Q (.bl (decide (z = w))) H) : uEq K (.str z) (.str w) H Q := by
  refine .inl ⟨rfl, ?_⟩
  have e : decide (V.str z = V.str w) = decide (z = w) := by
    rw [Bool.eq_iff_iff]
    simp
  rw [e]
  exact h
theorem i_neS {z w : Str} (h : Q (.bl (!decide (z = w))) H) : uNe K (.str z) (.str w) H Q := by
  refine .inl ⟨rfl, ?_⟩
  have e : decide (V.str z = V.str w) = decide (z = w) := by
    rw [Bool.eq_iff_iff]
    simp
  rw [e]
  exact h
theorem i_eqD {d e : PyData} (hd : Dp K H x d) (he : Dp K H y e) (sd : SeqAt.shaped d = true)
    (se : SeqAt.shaped e = true) (h : Q (.bl (PyData.eqv d e)) H) : uEq K x y H Q :=
  .inr ⟨d, e, hd, he, sd, se, h⟩
theorem i_neD {d e : PyData} (hd : Dp K H x d) (he : Dp K H y e) (sd : SeqAt.shaped d = true)
    (se : SeqAt.shaped e = true) (h : Q (.bl (!PyData.eqv d e)) H) : uNe K x y H Q :=
  .inr ⟨d, e, hd, he, sd, se, h⟩
theorem i_ixL (hs : SqL K H p xs) (ha : atI xs n = some v) (h : Q v H) :
    uIx K (.ref p) (.int n) H Q := .inl ⟨p, xs, n, v, rfl, rfl, hs, ha, h⟩
theorem i_ixT (hs : SqT K H p xs) (ha : atI xs n = some v) (h : Q v H) :
    uIx K (.ref p) (.int n) H Q := .inr (.inl ⟨p, xs, n, v, rfl, rfl, hs, ha, h⟩)
theorem i_lenL (hs : SqL K H p xs) (h : Q (.int xs.length) H) : uLen K [.ref p] H Q :=
  .inl ⟨p, xs, rfl, .inl hs, h⟩
theorem i_lenT (hs : SqT K H p xs) (h : Q (.int xs.length) H) : uLen K [.ref p] H Q :=
  .inl ⟨p, xs, rfl, .inr hs, h⟩
theorem i_lenS {z : Str} (hz : z.length ≤ sizeLine) (h : Q (.int z.length) H) : uLen K [.str z] H Q :=
  .inr ⟨z, rfl, hz, h⟩

theorem i_test (h : te σ H fun x H1 => ∃ k, x = .bl k ∧ QB k H1) : tTest te σ H QB := h
theorem i_B (h : te σ H fun x H1 => ∃ k, x = .bl k ∧ QB k H1) : tB te σ H QB := h
theorem i_bl {P : Bool → Prop} (h : P b) : ∃ k, V.bl b = .bl k ∧ P k := ⟨b, rfl, h⟩
theorem i_and (h : c σ H fun b H1 => if b = true then u σ H1 QB else QB false H1) : tAnd c u σ H QB := h
theorem i_or (h : c σ H fun b H1 => if b = true then QB true H1 else u σ H1 QB) : tOr c u σ H QB := h
theorem i_not (h : c σ H fun b H1 => QB (!b) H1) : tNot c σ H QB := h
theorem i_andV (h : ta σ H fun x H1 => ∃ k, x = .bl k ∧ if k = true then tb σ H1 Q else Q (.bl false) H1) :
    tAndV ta tb σ H Q := h
theorem i_orV (h : ta σ H fun x H1 => ∃ k, x = .bl k ∧ if k = true then Q (.bl true) H1 else tb σ H1 Q) :
    tOrV ta tb σ H Q := h
theorem i_notV (h : ta σ H fun x H1 => ∃ k, x = .bl k ∧ Q (.bl (!k)) H1) : tNotV ta σ H Q := h
theorem i_ifE (h : c σ H fun b H1 => if b = true then ta σ H1 Q else tb σ H1 Q) : tIf c ta tb σ H Q := h
theorem i_chain {r r' : R2} (h : ta σ H fun x H1 => tb σ H1 fun y H2 => r x y H2 fun z H3 =>
    ∃ k, z = .bl k ∧ if k = true then tc σ H3 fun w H4 => r' y w H4 Q else Q (.bl false) H3) :
    tChain r r' ta tb tc σ H Q := h
theorem i_nil (h : QA [] H) : tNil σ H QA := h
theorem i_cons (h : te σ H fun x H1 => tr σ H1 fun xs H2 => QA (x :: xs) H2) : tCons te tr σ H QA := h
/-- for any new place -/
def New (H : Hp) (P : Addr → Prop) : Prop := ∀ p, H p = none → P p
theorem i_new {P : Addr → Prop} (h : ∀ p, Fr H p → P p) : New H P := fun p e => h p ⟨e⟩
theorem i_tup (h : tr σ H fun xs H1 => xs.length ≤ sizeLine ∧ New H1 fun p => Q (.ref p) (upd H1 p (.tup xs))) :
    tTup tr σ H Q := h
theorem i_lst (h : tr σ H fun xs H1 => xs.length ≤ sizeLine ∧ New H1 fun p => Q (.ref p) (upd H1 p (.lst xs))) :
    tLst tr σ H Q := h
theorem i_few {P : Prop} {n : Nat} (hn : n ≤ 1000) (h : P) : n ≤ sizeLine ∧ P :=
  ⟨Nat.le_trans hn (by decide), h⟩
theorem i_CB {r : List V → Hp → VK → Prop} (h : tr σ H fun vs H1 => r vs H1 Q) : tCB r tr σ H Q := h
theorem i_call {sp : Sp} {dvs : List V} {E : XK} (h : tr σ H fun vs H1 => sp (vs ++ dvs) H1 Q E) :
    tCall sp dvs E tr σ H Q := h
theorem i_BM {T : String} {r : V → List V → Hp → VK → Prop}
    (h : te σ H fun x H1 => tyV K T x H1 ∧ tr σ H1 fun xs H2 => r x xs H2 Q) : tBM K T r te tr σ H Q := h
theorem i_BM0 {T : String} {r : V → List V → Hp → VK → Prop}
    (h : te σ H fun x H1 => tyV K T x H1 ∧ r x [] H1 Q) : tBM0 K T r te σ H Q := h
theorem i_tyL {P : Prop} (hs : SqL K H p xs) (h : P) : tyV K "list" (.ref p) H ∧ P :=
  ⟨.inl ⟨rfl, xs, hs⟩, h⟩
theorem i_app (hs : H p = some (.lst xs)) (hz : xs.length < sizeLine)
    (h : Q .non (upd H p (.lst (xs ++ [y])))) : rAppend (.ref p) [y] H Q := ⟨p, xs, y, rfl, rfl, hs, hz, h⟩
theorem i_repr {d : PyData} (hd : Dp K H x d) (hs : shw d = true) (hdp : d.depth ≤ 60)
    (hz : cw d ≤ sizeLine) (h : Q (.str d.shown) H) : rRepr K [x] H Q := ⟨x, d, rfl, hd, hs, hdp, hz, h⟩
theorem i_setL {S : Hp → Prop} {k : Nat} (hs : H p = some (.lst xs)) (hj : ixN xs.length n = some k)
    (h : S (upd H p (.lst (xs.set k v)))) : rSetL (.ref p) (.int n) v H S := ⟨p, xs, n, k, rfl, rfl, hs, hj, h⟩
theorem i_iList {R : It → Hp → Prop} (h : te σ H fun x H1 => ∃ a, x = .ref a ∧ (∃ xs, SqL K H1 a xs) ∧ R (Itl K a) H1) :
    iList K te σ H R := h
theorem i_For {wi : TI} {g : TG} (h : wi σ H fun J H1 => ∃ W : Nat → Nat → L2.St → Hp → Prop, (∃ m, W 0 m σ H1) ∧ ∀ i m σ H, W i m σ H →
    (J.stop i H ∧ D.nx σ H) ∨ (J.go i H ∧ ∃ Nx : L2.St → Hp → Prop, (∀ σ' H', Nx σ' H' → ∃ m', m' < m ∧ W (i + 1) m' σ' H') ∧
      ∀ x H', J.yld i H x H' → g x σ H' fun σ2 H2 => t1 { D with nx := Nx, ct := Nx, bk := D.nx } σ2 H2)) :
    tFor wi g t1 D σ H := h
theorem i_iteT {A B : Prop} (h : A) : if true = true then A else B := iteT h
theorem i_iteF {A B : Prop} (h : B) : if false = true then A else B := iteF h
theorem i_dec {p A B : Prop} [Decidable p] (h1 : p → A) (h2 : ¬ p → B) :
    if decide p = true then A else B := by
  by_cases h : p
  · rw [decide_eq_true h]
    exact iteT (h1 h)
  · rw [decide_eq_false h]
    exact iteF (h2 h)
theorem i_decN {p A B : Prop} [Decidable p] (h1 : ¬ p → A) (h2 : p → B) :
    if (!decide p) = true then A else B := by
  by_cases h : p
  · rw [decide_eq_true h]
    exact iteF (h2 h)
  · rw [decide_eq_false h]
    exact iteT (h1 h)
theorem i_boo {b : Bool} {A B : Prop} (h1 : b = true → A) (h2 : b = false → B) :
    if b = true then A else B := by
  cases b
  · exact iteF (h2 rfl)
  · exact iteT (h1 rfl)
end
section
variable {P : Program} {w : World} {K : PySem.W.Frag} {mg : Str → Option Value} {base : Heap}
/-- a def of the text, by its body -/
theorem okG {x qual : Str} {st : Stmt} {f : Addr} {fd : FuncData} {N ps : List Str} {k : Nat} {sp : Sp}
    (F : L2.Fun K x qual st f fd) (S : FnScope N ps (defScope st))
    (len : ∀ vs H Q E, sp vs H Q E → vs.length = ps.length)
    (hb : ∀ (cdv : Value) (A : Around) (outer : List Env) (s : Shared) (H : Hp) (vs : List V)
      (Q : VK) (E : XK), RoomG k (A.deeper (envOfC qual (defScope st) s.heap.objs.size f cdv)) →
      sp vs H Q E →
      ∃ t, PSs (cxOf (L2.CX P w) P w K mg base N qual (defScope st) f cdv A outer s H E) (defBody st) t ∧
        t { nx := fun _ H' => Q .non H', rt := Q } (start N vs) H) :
    FnG P w K mg base (k + 1) f fd ps sp := by
  obtain ⟨oc, od, kV, doc, pm, an, cdv, ct, osl, rfl, lk, hcd⟩ := F.ex
  exact FnG.body lk hcd S len fun A outer s H vs Q E z h => hb cdv A outer s H vs Q E z h
end
end G
namespace G
open PySem PySem.Spec PyProof.Rows L2
section
variable {K : PySem.W.Frag} {σ : L2.St} {H : Hp} {Q : VK} {D : Ends} {tb : TS} {te : TE} {g : TG}
variable {a p q l : Addr} {xs vs : List V} {v x y : V} {ds : List PyData} {S : L2.St → Hp → Prop}
theorem st_1 {N : List Str} {a : V} : L2.start N [a] = some a :: List.replicate (N.length - 1) none := rfl
theorem st_2 {N : List Str} {a b : V} : L2.start N [a, b] = some a :: some b :: List.replicate (N.length - 2) none := rfl
theorem st_3 {N : List Str} {a b c : V} :
    L2.start N [a, b, c] = some a :: some b :: some c :: List.replicate (N.length - 3) none := rfl
theorem st_4 {N : List Str} {a b c d : V} : L2.start N [a, b, c, d] =
    some a :: some b :: some c :: some d :: List.replicate (N.length - 4) none := rfl
theorem st_5 {N : List Str} {a b c d e : V} : L2.start N [a, b, c, d, e] =
    some a :: some b :: some c :: some d :: some e :: List.replicate (N.length - 5) none := rfl
theorem st_6 {N : List Str} {a b c d e f : V} : L2.start N [a, b, c, d, e, f] =
    some a :: some b :: some c :: some d :: some e :: some f :: List.replicate (N.length - 6) none := rfl
theorem i_gTup {n : Nat} {t : TGs} (hs : SqT K H p xs) (hl : xs.length = n) (h : t xs σ H S) :
    gTup K n t (.ref p) σ H S := ⟨p, xs, rfl, hs, hl, h⟩
theorem i_gCons {t : TG} {u : TGs} (h : t v σ H fun σ' H' => u xs σ' H' S) :
    gCons t u (v :: xs) σ H S := ⟨v, xs, rfl, h⟩
theorem i_gNil (h : S σ H) : gNil [] σ H S := ⟨rfl, h⟩
theorem i_gName {i : Nat} (h : S (σ.set i (some v)) H) : gName i v σ H S := h
theorem i_gSub {to ti : TE} {t : TSet} (h : to σ H fun o H1 => ti σ H1 fun i H2 => t o i v H2 fun H3 => S σ H3) :
    gSub to ti t v σ H S := h
/-- a for over x, a list -/
def ForL (K : PySem.W.Frag) (x : V) (g : TG) (tb : TS) (D : Ends) (σ : L2.St) (H : Hp) : Prop :=
  ∃ a, x = .ref a ∧ (∃ ys, SqL K H a ys) ∧ ∃ W : Nat → Nat → L2.St → Hp → Prop,
    (∃ m, W 0 m σ H) ∧ ∀ i m σ H, W i m σ H → ((Itl K a).stop i H ∧ D.nx σ H) ∨
      ((Itl K a).go i H ∧ ∃ Nx : L2.St → Hp → Prop,
        (∀ σ' H', Nx σ' H' → ∃ m', m' < m ∧ W (i + 1) m' σ' H') ∧
        ∀ x H', (Itl K a).yld i H x H' → g x σ H' fun σ2 H2 =>
          tb { D with nx := Nx, ct := Nx, bk := D.nx } σ2 H2)
theorem i_forL (h : te σ H fun x H1 => ForL K x g tb D σ H1) : tFor (iList K te) g tb D σ H := h
theorem i_each (hs : SqL K H a xs) (Pv : Nat → L2.St → Hp → Prop) (h0 : Pv 0 σ H)
    (hl : ∀ i σ H, i ≤ xs.length → Pv i σ H → SqL K H a xs)
    (st : ∀ i x σ H, xs[i]? = some x → Pv i σ H → g x σ H fun σ2 H2 =>
      tb { D with nx := Pv (i + 1), ct := Pv (i + 1), bk := D.nx } σ2 H2)
    (hd : ∀ σ H, Pv xs.length σ H → D.nx σ H) : ForL K (.ref a) g tb D σ H :=
  ⟨a, rfl, ⟨_, hs⟩, for_list Pv h0 hl st hd⟩
/-- a for over range(n) -/
def ForR (vs : List V) (g : TG) (tb : TS) (D : Ends) (σ : L2.St) (H : Hp) : Prop :=
  ∃ j : Int, vs = [.int j] ∧ -(2 ^ 62) ≤ j ∧ j < 2 ^ 62 ∧
    ∃ W : Nat → Nat → L2.St → Hp → Prop, (∃ m, W 0 m σ H) ∧ ∀ i m σ H, W i m σ H →
      ((Itr 0 j.toNat).stop i H ∧ D.nx σ H) ∨ ((Itr 0 j.toNat).go i H ∧ ∃ Nx : L2.St → Hp → Prop,
        (∀ σ' H', Nx σ' H' → ∃ m', m' < m ∧ W (i + 1) m' σ' H') ∧
        ∀ x H', (Itr 0 j.toNat).yld i H x H' → g x σ H' fun σ2 H2 =>
          tb { D with nx := Nx, ct := Nx, bk := D.nx } σ2 H2)
theorem i_forR {ta : TA} (h : ta σ H fun vs H1 => ForR vs g tb D σ H1) : tFor (iRng1 ta) g tb D σ H := h
theorem i_turns {n : Int} (b1 : 0 ≤ n) (b2 : n < 2 ^ 62) (Pv : Nat → L2.St → Hp → Prop) (h0 : Pv 0 σ H)
    (st : ∀ (i : Nat) σ H, (i : Int) < n → Pv i σ H → g (.int i) σ H fun σ2 H2 =>
      tb { D with nx := Pv (i + 1), ct := Pv (i + 1), bk := D.nx } σ2 H2)
    (hd : ∀ σ H, Pv n.toNat σ H → D.nx σ H) : ForR [.int n] g tb D σ H := by
  refine ⟨n, rfl, by omega, b2, for_range Pv h0 (fun i σ H hi q => ?_) hd⟩
  have e : V.int (0 + (i : Int)) = V.int i := by rw [Int.zero_add]
  rw [e]
  exact st i σ H (by omega) q

theorem canLay_pairs : ∀ l : List (Int × Int), PyData.canLayAll0 (l.map d2) = true
  | [] => rfl
  | p :: l => by
    simp only [List.map_cons, PyData.canLayAll0, PyData.canLay0, canLay_pairs l]
    rfl
theorem depth_pairs : ∀ l : List (Int × Int), PyData.depthAll (l.map d2) ≤ 1
  | [] => Nat.zero_le _
  | p :: l => by
    simp only [List.map_cons, PyData.depthAll, PyData.depth]
    have q := depth_pairs l
    omega
theorem shaped_of {d : PyData} (h : d.canLay0 = true) (hd : d.depth ≤ 64) : SeqAt.shaped d = true := by
  unfold SeqAt.shaped
  rw [h, decide_eq_true hd]
  rfl
theorem shaped_pairs (l : List (Int × Int)) : SeqAt.shaped (.list (l.map d2)) = true := by
  refine shaped_of ?_ ?_
  · simp only [PyData.canLay0]
    exact canLay_pairs l
  · simp only [PyData.depth]
    have q := depth_pairs l
    omega
theorem shaped_nil : SeqAt.shaped (.list []) = true := by decide +kernel
theorem eqv_nil (ds : List PyData) : PyData.eqv (.list ds) (.list []) = ds.isEmpty := by
  cases ds <;> simp [PyData.eqv, PyData.eqvAll]
/-- xs == [], xs != [] -/
theorem eq_nil (ld : LD K H l ds) (hi : imms ds = true) (hs : SeqAt.shaped (.list ds) = true)
    (hq : Fr H q) (h : Q (.bl ds.isEmpty) (upd H q (.lst []))) :
    uEq K (.ref l) (.ref q) (upd H q (.lst [])) Q := by
  refine i_eqD (LD.dp (ld.kp (Kp.new hq) hi List.not_mem_nil)) (.lst (SqL.of upd_same) .nil) hs
    shaped_nil ?_
  rw [eqv_nil]
  exact h
theorem ne_nil (ld : LD K H l ds) (hi : imms ds = true) (hs : SeqAt.shaped (.list ds) = true)
    (hq : Fr H q) (h : Q (.bl (!ds.isEmpty)) (upd H q (.lst []))) :
    uNe K (.ref l) (.ref q) (upd H q (.lst [])) Q := by
  refine i_neD (LD.dp (ld.kp (Kp.new hq) hi List.not_mem_nil)) (.lst (SqL.of upd_same) .nil) hs
    shaped_nil ?_
  rw [eqv_nil]
  exact h
theorem dpa_last {d : PyData} : ∀ {ds : List PyData} {vs : List V}, DpAll K H vs (ds ++ [d]) →
    ∃ us x, vs = us ++ [x] ∧ DpAll K H us ds ∧ Dp K H x d
  | [], _, h => by
    cases h with
    | cons h1 h2 =>
      cases h2
      exact ⟨[], _, rfl, .nil, h1⟩
  | _ :: ds, _, h => by
    cases h with
    | cons h1 h2 =>
      obtain ⟨us, x, e, q1, q2⟩ := dpa_last h2
      exact ⟨_ :: us, x, by rw [e]; rfl, .cons h1 q1, q2⟩
theorem list_last {α : Type} {l : List α} (h : l ≠ []) : ∃ f q, l = f ++ [q] :=
  ⟨l.dropLast, l.getLast h, (List.dropLast_concat_getLast h).symm⟩
theorem ix_last (n : Nat) : ixN (n + 1) (-1) = some n := by
  unfold ixN
  rw [if_neg (by decide), if_pos (by omega)]
  congr 1
  omega
theorem set_last {α : Type} (l : List α) (a b : α) : (l ++ [a]).set l.length b = l ++ [b] := by
  rw [List.set_append_right _ _ (Nat.le_refl _)]
  simp
theorem upd_nn {o : HO} {u : Option HO} {b : Addr} (h : b ≠ a) (k : H b = u) : upd H a o b = u :=
  (upd_ne h).trans k
/-- what is not tracked then was not tracked before -/
def Old (H H' : Hp) : Prop := ∀ a, H' a = none → H a = none
theorem Old.refl : Old H H := fun _ h => h
theorem old_upd {H1 : Hp} {o : HO} (h : Old H H1) : Old H (upd H1 p o) := fun x e => by
  refine h x ?_
  by_cases z : x = p
  · rw [z, upd_same] at e
    cases e
  · rw [upd_ne z] at e
    exact e
theorem old_kp {H1 H2 : Hp} {ws : List Addr} (k : Kp ws H1 H2) (h : Old H H1) : Old H H2 :=
  fun x e => h x (k.free ⟨e⟩).e
theorem fr_of {H1 : Hp} {x : Addr} (h : Fr H1 x) (o : Old H H1) : Fr H x := ⟨o x h.e⟩
theorem small_sz {n : Nat} (h : n ≤ 1000000) : n < sizeLine := Nat.lt_of_le_of_lt h (by decide)
theorem sqT_new {o : HO} (h : SqT K H a xs) (hq : Fr H q) : SqT K (upd H q o) a xs :=
  (Kp.new (ws := []) hq).seqT h
theorem sqT_lst {o : HO} {ys : List V} (h : SqT K H a xs) (hq : H q = some (.lst ys)) :
    SqT K (upd H q o) a xs :=
  (Kp.mut (ws := [q]) hq (fun z => z) (List.mem_singleton.mpr rfl)).seqT h
theorem i_boN {b : Bool} {A B : Prop} (h1 : b = false → A) (h2 : b = true → B) :
    if (!b) = true then A else B := by
  cases b
  · exact iteT (h1 rfl)
  · exact iteF (h2 rfl)
theorem map_get {α β : Type} {l : List α} {f : α → β} {i : Nat} {d : β} (h : (l.map f)[i]? = some d) :
    ∃ p, l[i]? = some p ∧ d = f p := by
  rw [List.getElem?_map] at h
  cases e : l[i]? with
  | none => rw [e] at h; cases h
  | some p => rw [e] at h; cases h; exact ⟨p, rfl, rfl⟩
end
end G
namespace G
open PySem PySem.Spec PyProof.Rows L2
section
variable {K : PySem.W.Frag} {σ : L2.St} {H : Hp} {Q : VK} {n m : Int} {a p : Addr} {xs : List V} {v : V}
def rAbs : List V → Hp → VK → Prop := fun xs H Q => ∃ i, xs = [.int i] ∧ Q (.int (if i < 0 then -i else i)) H
def rMax2 : List V → Hp → VK → Prop := fun xs H Q => ∃ i j, xs = [.int i, .int j] ∧ Q (.int (if j > i then j else i)) H
def rMin2 : List V → Hp → VK → Prop := fun xs H Q => ∃ i j, xs = [.int i, .int j] ∧ Q (.int (if j < i then j else i)) H
def rDm : List V → Hp → VK → Prop := fun xs H Q => ∃ i j, xs = [.int i, .int j] ∧ CDivP i j ∧
  ∀ p, H p = none → Q (.ref p) (upd H p (.tup [.int (i / j), .int (i % j)]))
def rListOf (K : PySem.W.Frag) : List V → Hp → VK → Prop := fun xs H Q => ∃ p ys, xs = [.ref p] ∧
  (SqL K H p ys ∨ SqT K H p ys) ∧ ∀ l, H l = none → Q (.ref l) (upd H l (.lst ys))
def rPow : R2 := rI CPow fun i j => .int (i ^ j.toNat)
def uMod : R2 := rI (fun _ j => 0 < j) fun i j => .int (i % j)
def uDiv : R2 := rI CDivW fun i j => .int (i / j)
theorem c_abs {X : Cx} : CallR X (.builtin "abs") rAbs := call_abs
theorem c_max2 {X : Cx} (hc : X.calm = true) : CallR X (.builtin "max") rMax2 := call_max2 hc
theorem c_min2 {X : Cx} (hc : X.calm = true) : CallR X (.builtin "min") rMin2 := call_min2 hc
theorem c_dm {X : Cx} : CallR X (.builtin "divmod") rDm := call_divmodW
theorem c_list {X : Cx} : CallR X (.type "list") (rListOf X.K) := call_list_of
theorem o_pow {X : Cx} : OpR X (binaryOp .Pow) rPow := op_pow
theorem o_mod {X : Cx} : OpR X (binaryOp .Mod) uMod := op_mod
theorem o_div {X : Cx} : OpR X (binaryOp .FloorDiv) uDiv := op_fdivW
theorem i_abs (h : Q (.int (n.natAbs : Int)) H) : rAbs [.int n] H Q := by
  refine ⟨n, rfl, ?_⟩
  have e : (if n < 0 then -n else n) = (n.natAbs : Int) := by split <;> omega
  rw [e]
  exact h
theorem i_max2 (h : Q (.int (max n m)) H) : rMax2 [.int n, .int m] H Q := by
  refine ⟨n, m, rfl, ?_⟩
  have e : (if m > n then m else n) = max n m := by
    rw [Int.max_def]
    split <;> split <;> omega
  rw [e]
  exact h
theorem i_min2 (h : Q (.int (min n m)) H) : rMin2 [.int n, .int m] H Q := by
  refine ⟨n, m, rfl, ?_⟩
  have e : (if m < n then m else n) = min n m := by
    rw [Int.min_def]
    split <;> split <;> omega
  rw [e]
  exact h
theorem i_mod (hc : 0 < m) (h : Q (.int (n % m)) H) : uMod (.int n) (.int m) H Q := ⟨n, m, rfl, rfl, hc, h⟩
theorem i_listL (hs : SqL K H p xs) (h : New H fun l => Q (.ref l) (upd H l (.lst xs))) :
    rListOf K [.ref p] H Q := ⟨p, xs, rfl, .inl hs, h⟩
theorem i_listT (hs : SqT K H p xs) (h : New H fun l => Q (.ref l) (upd H l (.lst xs))) :
    rListOf K [.ref p] H Q := ⟨p, xs, rfl, .inr hs, h⟩
theorem pow_go {k : Int} (e : (10 : Int) ^ m.toNat = k) (hm : 0 ≤ m ∧ m ≤ 1000000) (h : Q (.int k) H) :
    rPow (.int 10) (.int m) H Q :=
  ⟨10, m, rfl, rfl, ⟨hm.1, hm.2, by decide⟩, by
    show Q (.int (10 ^ m.toNat)) H
    rw [e]
    exact h⟩
theorem i_pw6 (h : Q (.int 1000000) H) : rPow (.int 10) (.int 6) H Q :=
  pow_go rfl (by decide) h
theorem i_pw16 (h : Q (.int 10000000000000000) H) : rPow (.int 10) (.int 16) H Q :=
  pow_go rfl (by decide) h
theorem i_pw18 (h : Q (.int 1000000000000000000) H) :
    rPow (.int 10) (.int 18) H Q := pow_go rfl (by decide) h
theorem i_pw58 (h : Q (.int 10000000000000000000000000000000000000000000000000000000000) H) :
    rPow (.int 10) (.int 58) H Q := pow_go rfl (by decide) h
theorem i_pw59 (h : Q (.int 100000000000000000000000000000000000000000000000000000000000) H) :
    rPow (.int 10) (.int 59) H Q := pow_go rfl (by decide) h
theorem i_pw60 (h : Q (.int 1000000000000000000000000000000000000000000000000000000000000) H) :
    rPow (.int 10) (.int 60) H Q := pow_go rfl (by decide) h
theorem i_pw61 (h : Q (.int 10000000000000000000000000000000000000000000000000000000000000) H) :
    rPow (.int 10) (.int 61) H Q := pow_go rfl (by decide) h
theorem log_small {j : Int} (h0 : 0 < j) (h : j ≤ 10000000000000000000000000000000000000000000000000000000000000000000000) :
    j.natAbs.log2 < 9000 := by
  have h1 : j.natAbs < 2 ^ 9000 := by
    have h2 : j.natAbs ≤ 10 ^ 70 := by
      have e : ((10 ^ 70 : Nat) : Int) = 10000000000000000000000000000000000000000000000000000000000000000000000 := by rfl
      omega
    exact Nat.lt_of_le_of_lt h2 (by decide +kernel)
  exact (Nat.log2_lt (by omega)).mpr h1
theorem divp_small {i j : Int} (h0 : 0 < j) (h : j.natAbs.log2 < 9000) : CDivP i j := by
  refine ⟨h0, ?_⟩
  have nz : ¬ (j == 0) = true := by
    simpa using (show j ≠ 0 by omega)
  unfold Builtin.divisionGoesByPylong
  simp only [nz]
  have e : ¬ (j.natAbs.log2 / 30 + 1 > 300) := by omega
  first
    | (simp only [e, decide_false, Bool.false_and]; done)
    | (simp [e]; done)
    | (simp; omega)
theorem i_dm (h0 : 0 < m)
    (h1 : m ≤ 10000000000000000000000000000000000000000000000000000000000000000000000)
    (h : New H fun q => Q (.ref q) (upd H q (.tup [.int (n / m), .int (n % m)]))) :
    rDm [.int n, .int m] H Q := ⟨n, m, rfl, divp_small h0 (log_small h0 h1), h⟩
theorem i_div (h0 : 0 < m)
    (h1 : m ≤ 10000000000000000000000000000000000000000000000000000000000000000000000)
    (h : Q (.int (n / m)) H) : uDiv (.int n) (.int m) H Q := ⟨n, m, rfl, rfl, ⟨h0, log_small h0 h1⟩, h⟩
/-- a pot: two numbers from which draws come -/
def PotAt (H : Hp) (p : Addr) : Prop :=
  ∃ x y : Int, H p = some (.lst [.int x, .int y]) ∧ 0 ≤ x ∧ 0 ≤ y ∧ y < 8589934592
theorem PotAt.kp {ws : List Addr} {H1 : Hp} (h : PotAt H p) (k : Kp ws H H1) (hp : p ∉ ws) : PotAt H1 p := by
  obtain ⟨x, y, e, r⟩ := h
  exact ⟨x, y, k.at_ _ _ e hp, r⟩
end
end G
namespace G
open PySem PySem.Spec PyProof.Rows L2
def dty : PyData → String
  | .none => "NoneType"
  | .bool _ => "bool"
  | .int _ => "int"
  | .str _ => "str"
  | .list _ => "list"
  | .tuple _ => "tuple"
  | .dict _ => "dict"
section
variable {K : PySem.W.Frag} {σ : L2.St} {H : Hp} {Q : VK} {n m : Int} {a p : Addr} {xs : List V} {v : V} {d : PyData}
theorem dp_ty (h : Dp K H v d) : TyX K H v (.type (dty d)) := by
  cases h with
  | non => exact .base .non
  | bl b => exact .base (.bl b)
  | int i => exact .base (.int i)
  | str x => exact .base (.str x)
  | lst hs ha =>
    rcases hs with (h | ⟨o, h⟩) | ⟨o, its, k, e, c, r⟩
    · exact .base (.lst h)
    · exact .base (.frz h)
    · exact .kList e c
  | tup hs ha =>
    rcases hs with (h | ⟨o, h⟩) | ⟨o, its, k, e, c, r⟩
    · exact .base (.tup h)
    · exact .fTuple h
    · exact .kTuple e c
theorem i_isD {T : String} {b : Bool} (hd : Dp K H v d) (e : kitB (dty d) T = some b) (h : Q (.bl b) H) :
    rIsi K [v, .ty T] H Q := ⟨v, .ty T, _, _, b, rfl, .ty T, dp_ty hd, kit_ty e, h⟩
theorem i_revL {te : TE} (h : te σ H fun x H1 => ∃ a xs, x = .ref a ∧ SqL K H1 a xs ∧
    New H1 fun p => Q (.ref p) (upd H1 p (.lst xs.reverse))) : tRevL K te σ H Q := h
theorem i_revd {P : Addr → List V → Prop} (hs : SqL K H a xs) (h : P a xs) :
    ∃ b ys, V.ref a = .ref b ∧ SqL K H b ys ∧ P b ys := ⟨a, xs, rfl, hs, h⟩
def rIns : V → List V → Hp → VK → Prop := fun x vs H Q => ∃ (l : Addr) (xs : List V) (i : Int) (y : V),
  x = .ref l ∧ vs = [.int i, y] ∧ H l = some (.lst xs) ∧ xs.length < sizeLine ∧ 0 ≤ i ∧ i < 2 ^ 63 ∧
  Q .non (upd H l (.lst (xs.take i.toNat ++ [y] ++ xs.drop i.toNat)))
theorem m_insert {X : Cx} : MtR X "list.insert" rIns := mt_insert
theorem i_ins0 {y : V} (hs : H p = some (.lst xs)) (hz : xs.length < sizeLine)
    (h : Q .non (upd H p (.lst (y :: xs)))) : rIns (.ref p) [.int 0, y] H Q :=
  ⟨p, xs, 0, y, rfl, rfl, hs, hz, by decide, by decide, h⟩
theorem i_call0 {sp : Sp} {E : XK} {tr : TA} (h : tr σ H fun vs H1 => sp vs H1 Q E) :
    tCall sp [] E tr σ H Q := by
  unfold tCall
  simp only [List.append_nil]
  exact h
def rAllB (K : PySem.W.Frag) : List V → Hp → VK → Prop := rAll K
theorem i_all {bs : List Bool} (hs : SqL K H p (bs.map V.bl)) (h : Q (.bl (bs.all id)) H) :
    rAll K [.ref p] H Q := ⟨p, bs, rfl, hs, h⟩
theorem i_any {bs : List Bool} (hs : SqL K H p (bs.map V.bl)) (h : Q (.bl (bs.any id)) H) :
    rAny K [.ref p] H Q := ⟨p, bs, rfl, hs, h⟩
theorem i_sum {ns : List Int} (hs : SqL K H p (ns.map V.int)) (h : Q (.int ns.sum) H) :
    rSum K [.ref p] H Q := ⟨p, ns, rfl, hs, h⟩
/-- an item by an index that is not written -/
theorem at_in {l : List V} {r : Int} (h0 : 0 ≤ r) (h1 : r < l.length) : ∃ v, atI l r = some v ∧ v ∈ l := by
  obtain ⟨k, rfl⟩ : ∃ k : Nat, r = k := ⟨r.toNat, by omega⟩
  have hl : k < l.length := by omega
  exact ⟨l[k], atI_nat (by simp), List.getElem_mem hl⟩
end
section
variable {K : PySem.W.Frag} {σ : L2.St} {H H1 : Hp} {Q : VK} {a p l : Addr} {xs : List V} {g : TG} {tt : TT} {te : TE} {vs : List Nat} {QB : Bool → Hp → Prop}
/-- a comprehension over x, a list -/
def LcL (K : PySem.W.Frag) (x : V) (g : TG) (tt : TT) (te : TE) (vs : List Nat) (σ : L2.St) (H1 : Hp) (Q : VK) : Prop :=
  ∃ a, x = .ref a ∧ (∃ xs, SqL K H1 a xs) ∧ ∀ D, H1 D = none →
    ∃ W : Nat → Nat → Hp → Prop, (∃ m, W 0 m (upd H1 D (.lst []))) ∧ ∀ i m H, W i m H →
      ((Itl K a).stop i H ∧ Q (.ref D) H) ∨ ((Itl K a).go i H ∧ ∃ Nx : Hp → Prop,
        (∀ H', Nx H' → ∃ m', m' < m ∧ W (i + 1) m' H') ∧
        ∀ x H', (Itl K a).yld i H x H' → g x (wipe σ vs) H' fun σ2 H2 => wipe σ2 vs = wipe σ vs ∧ tt σ2 H2 fun b H3 =>
          if b = true then te σ2 H3 fun y H4 => ∃ acc, H4 D = some (.lst acc) ∧ acc.length < sizeLine ∧
            Nx (upd H4 D (.lst (acc ++ [y]))) else Nx H3)
theorem i_lcL {te' : TE} (h : te' σ H fun x H1 => LcL K x g tt te vs σ H1 Q) :
    tLc (iList K te') g tt te vs σ H Q := h
theorem i_elts (hs : SqL K H a xs) (Pv : Addr → Nat → Hp → Prop)
    (h0 : ∀ D, Fr H D → Pv D 0 (upd H D (.lst [])))
    (hl : ∀ D i H', Fr H D → i ≤ xs.length → Pv D i H' → SqL K H' a xs)
    (st : ∀ D i x H', Fr H D → xs[i]? = some x → Pv D i H' → g x (wipe σ vs) H' fun σ2 H2 =>
      wipe σ2 vs = wipe σ vs ∧ tt σ2 H2 fun b H3 => if b = true then te σ2 H3 fun y H4 =>
        ∃ acc, H4 D = some (.lst acc) ∧ acc.length < sizeLine ∧ Pv D (i + 1) (upd H4 D (.lst (acc ++ [y])))
        else Pv D (i + 1) H3)
    (hd : ∀ D H', Fr H D → Pv D xs.length H' → Q (.ref D) H') : LcL K (.ref a) g tt te vs σ H Q := by
  refine ⟨a, rfl, ⟨_, hs⟩, fun D hD => ?_⟩
  exact lc_list (K := K) (a := a) (xs := xs) (Pv D) (h0 D ⟨hD⟩) (fun i H' => hl D i H' ⟨hD⟩)
    (fun i x H' => st D i x H' ⟨hD⟩) (fun H' => hd D H' ⟨hD⟩)
def LcR (ws : List V) (g : TG) (tt : TT) (te : TE) (vs : List Nat) (σ : L2.St) (H1 : Hp) (Q : VK) : Prop :=
  ∃ j : Int, ws = [.int j] ∧ -(2 ^ 62) ≤ j ∧ j < 2 ^ 62 ∧ ∀ D, H1 D = none →
    ∃ W : Nat → Nat → Hp → Prop, (∃ m, W 0 m (upd H1 D (.lst []))) ∧ ∀ i m H, W i m H →
      ((Itr 0 j.toNat).stop i H ∧ Q (.ref D) H) ∨ ((Itr 0 j.toNat).go i H ∧ ∃ Nx : Hp → Prop,
        (∀ H', Nx H' → ∃ m', m' < m ∧ W (i + 1) m' H') ∧
        ∀ x H', (Itr 0 j.toNat).yld i H x H' → g x (wipe σ vs) H' fun σ2 H2 => wipe σ2 vs = wipe σ vs ∧ tt σ2 H2 fun b H3 =>
          if b = true then te σ2 H3 fun y H4 => ∃ acc, H4 D = some (.lst acc) ∧ acc.length < sizeLine ∧
            Nx (upd H4 D (.lst (acc ++ [y]))) else Nx H3)
theorem i_lcR {ta : TA} (h : ta σ H fun ws H1 => LcR ws g tt te vs σ H1 Q) :
    tLc (iRng1 ta) g tt te vs σ H Q := h
theorem i_reps {n : Int} (b1 : 0 ≤ n) (b2 : n < 2 ^ 62) (Pv : Addr → Nat → Hp → Prop)
    (h0 : ∀ D, Fr H D → Pv D 0 (upd H D (.lst [])))
    (st : ∀ D (i : Nat) H', Fr H D → (i : Int) < n → Pv D i H' → g (.int i) (wipe σ vs) H' fun σ2 H2 =>
      wipe σ2 vs = wipe σ vs ∧ tt σ2 H2 fun b H3 => if b = true then te σ2 H3 fun y H4 =>
        ∃ acc, H4 D = some (.lst acc) ∧ acc.length < sizeLine ∧ Pv D (i + 1) (upd H4 D (.lst (acc ++ [y])))
        else Pv D (i + 1) H3)
    (hd : ∀ D H', Fr H D → Pv D n.toNat H' → Q (.ref D) H') : LcR [.int n] g tt te vs σ H Q := by
  refine ⟨n, rfl, by omega, b2, fun D hD => ?_⟩
  refine lc_range (lo := 0) (n := n.toNat) (Pv D) (h0 D ⟨hD⟩) (fun i H' hi q => ?_) (fun H' => hd D H' ⟨hD⟩)
  have e : V.int (0 + (i : Int)) = V.int i := by rw [Int.zero_add]
  rw [e]
  exact st D i H' ⟨hD⟩ (by omega) q
theorem i_wipe {σ2 : L2.St} {P : Prop} (e : wipe σ2 vs = wipe σ vs) (h : P) : wipe σ2 vs = wipe σ vs ∧ P := ⟨e, h⟩
theorem i_yes (h : QB true H) : tYes σ H QB := h
theorem i_acc {D : Addr} {y : V} {P : Hp → Prop} {acc : List V} (h1 : H D = some (.lst acc)) (h2 : acc.length < sizeLine)
    (h : P (upd H D (.lst (acc ++ [y])))) : ∃ acc, H D = some (.lst acc) ∧ acc.length < sizeLine ∧ P (upd H D (.lst (acc ++ [y]))) :=
  ⟨acc, h1, h2, h⟩
end
end G
namespace G
open PySem PySem.Spec PyProof.Rows L2
section
variable {K : PySem.W.Frag} {H H1 : Hp} {a p l q : Addr} {ws : List Addr} {o u : HO} {ds : List PyData}
theorem kp_at (k : Kp ws H H1) (h : H a = some u) (n : a ∉ ws) : H1 a = some u := k.at_ a u h n
theorem not_nil {α : Type} {a : α} : a ∉ ([] : List α) := List.not_mem_nil
theorem not_one {a b : Addr} (h : a ≠ b) : a ∉ [b] := fun z => h (List.mem_singleton.mp z)
theorem not_two {a b c : Addr} (h : a ≠ b) (h2 : a ≠ c) : a ∉ [b, c] := fun z => by
  rcases List.mem_cons.mp z with z | z
  · exact h z
  · exact h2 (List.mem_singleton.mp z)
theorem pot_upd (h : PotAt H p) (n : p ≠ q) : PotAt (upd H q o) p := by
  obtain ⟨x, y, e, r⟩ := h
  exact ⟨x, y, by rw [upd_ne n]; exact e, r⟩
theorem PotAt.ne {x : Addr} (h : PotAt H p) (f : Fr H x) : p ≠ x := by
  have hx := f.e
  obtain ⟨_, _, e, _⟩ := h
  exact ne_of_none e hx
theorem pot_ne {x : Addr} (hx : Fr H x) (h : PotAt H p) : p ≠ x := h.ne hx
theorem LD.ne {x : Addr} (h : LD K H l ds) (f : Fr H x) : l ≠ x := by
  have hx := f.e
  obtain ⟨_, e, _⟩ := h
  exact ne_of_none e hx
theorem ld_ne {x : Addr} (f : Fr H x) (h : LD K H l ds) : l ≠ x := h.ne f
theorem ld_upd (h : LD K H l ds) (hi : imms ds = true) (hq : Fr H q) : LD K (upd H q o) l ds := by
  have k : Kp ([] : List Addr) H (upd H q o) := Kp.new hq
  exact h.kp k hi not_nil
theorem ld_upl {ys : List V} (h : LD K H l ds) (hi : imms ds = true) (hq : H q = some (.lst ys))
    (n : l ≠ q) : LD K (upd H q o) l ds := by
  have k : Kp [q] H (upd H q o) := Kp.mut hq (fun z => z) (List.mem_singleton.mpr rfl)
  exact h.kp k hi (not_one n)
theorem sqL_new {xs : List V} (h : SqL K H a xs) (f : Fr H q) : SqL K (upd H q o) a xs :=
  (Kp.new (ws := []) f).seqL not_nil h
theorem sqL_kp {xs : List V} (k : Kp ws H H1) (h : SqL K H a xs) (n : a ∉ ws) : SqL K H1 a xs := k.seqL n h
theorem at_zero {x : V} {xs : List V} : atI (x :: xs) 0 = some x := atI_nat (j := 0) rfl
theorem ix_zero (n : Nat) : ixN (n + 1) 0 = some 0 := by
  unfold ixN
  rw [if_pos (by decide), if_pos (by omega)]
  rfl
theorem dpa_rev : ∀ {ds : List PyData} {vs : List V}, DpAll K H vs ds → DpAll K H vs.reverse ds.reverse
  | [], _, h => by cases h; exact .nil
  | _ :: _, _, h => by
    cases h with
    | cons h1 h2 =>
      rw [List.reverse_cons, List.reverse_cons]
      exact dpa_app (dpa_rev h2) (dpa_one h1)
/-- something is put behind -/
theorem ld_app {y : V} {d : PyData} {vs : List V} (h : DpAll K H vs ds) (e : H l = some (.lst vs))
    (hi : imms ds = true) (hd : Dp K H y d) (hj : imm d = true) : LD K (upd H l (.lst (vs ++ [y]))) l (ds ++ [d]) := by
  have k : Kp [l] H (upd H l (.lst (vs ++ [y]))) := Kp.mut e (fun z => z) (List.mem_singleton.mpr rfl)
  exact ⟨_, upd_same, dpa_app (dpa_imm k _ _ hi h) (dpa_one (dp_imm k _ _ hj hd))⟩
end
end G

namespace G
open PySem PySem.Spec PyProof.Rows L2
/-! the same rules, the written part named -/
section
variable {X : Cx} {K : PySem.W.Frag} {e : Expr} {es : List Expr} {te : TE} {t : TGs} {f : Str} {pos : Pos} {tg : Expr}
theorem k_add (h : X.K = K) : OpR X (binaryOp .Add) (uAdd K) := h ▸ o_add
theorem k_eq (h : X.K = K) (hu : X.A.units + 64 < cLine) : OpR X (compareOp .Eq) (uEq K) := h ▸ o_eq hu
theorem k_ne (h : X.K = K) (hu : X.A.units + 64 < cLine) : OpR X (compareOp .NotEq) (uNe K) := h ▸ o_ne hu
theorem k_ix (h : X.K = K) : IxR X (uIx K) := h ▸ o_ix
theorem k_len (h : X.K = K) : CallR X (.builtin "len") (uLen K) := h ▸ c_len
theorem k_list (h : X.K = K) : CallR X (.type "list") (rListOf K) := h ▸ c_list
theorem k_repr (h : X.K = K) (hg : X.A.guards = some []) (hu : X.A.units + 64 < cLine) :
    CallR X (.builtin "repr") (rRepr K) := h ▸ call_repr hg hu
theorem k_all (h : X.K = K) (hc : X.calm = true) : CallR X (.builtin "all") (rAll K) := h ▸ cr_all hc
theorem k_any (h : X.K = K) (hc : X.calm = true) : CallR X (.builtin "any") (rAny K) := h ▸ cr_any hc
theorem k_sum (h : X.K = K) (hc : X.calm = true) : CallR X (.builtin "sum") (rSum K) := h ▸ cr_sum hc
theorem k_isi (h : X.K = K) : CallR X (.builtin "isinstance") (rIsi K) := h ▸ call_isi
theorem k_sl (h : X.K = K) : SlR X (rSlL K) := h ▸ sl_list
theorem k_slT (h : X.K = K) : SlR X (rSlT K) := h ▸ sl_tup
theorem k_in (h : X.K = K) : OpR X (compareOp .In) (rIn K false) := h ▸ op_in_seq
theorem k_nin (h : X.K = K) : OpR X (compareOp .NotIn) (rIn K true) := h ▸ op_notIn_seq
theorem k_fld (h : X.K = K) (he : PE X e te) (hb : attributeBase e f X.env (eval e X.env) = eval e X.env) :
    PE X (.Attribute e f pos) (tFld K te f) := h ▸ pe_fld he hb
theorem k_plist (h : X.K = K) (he : PE X e te) : PI X tg e (iList K te) := h ▸ pi_list he
theorem k_ptup (h : X.K = K) (he : PE X e te) : PI X tg e (iTup K te) := h ▸ pi_tup he
theorem k_rev {k : Nat} {p1 p2 p3 : Pos} (h : X.K = K) (he : PE X e te) :
    PE X (.Subscript e (.Slice none none (some (.UnaryOp .USub (.Constant (.int 1) k p1) p2)) p3) pos) (tRevL K te) :=
  h ▸ pe_revL he
theorem k_gtup {k : Nat} (n : Nat) (h : X.K = K) (hc : X.calm = true) (hp : PGs X es t)
    (hn : (assignEach es X.env).length = n := by rfl)
    (hst : (assignEach es X.env).findIdx? (·.1) = none := by rfl) : PG X (.Tuple es k pos) (gTup K n t) :=
  h ▸ pg_tup hc hp hn hst
end
end G
namespace G
open PySem PySem.Spec PyProof.Rows L2
/-! what is tracked; what is fixed -/
structure Tr (H : Hp) (a : Addr) : Prop where
  ex : ∃ o, H a = some o
structure Fx (H H1 : Hp) : Prop where
  fx : ∀ a u, H a = some u → Fix u → H1 a = some u
section
variable {K : PySem.W.Frag} {H H0 H1 : Hp} {Q : VK} {a b p l q : Addr} {ws : List Addr} {o u : HO} {ds : List PyData} {xs : List V} {n : Int} {v : V}
theorem tr_of (h : H a = some o) : Tr H a := ⟨o, h⟩
theorem tr_same : Tr (upd H p o) p := ⟨o, upd_same⟩
theorem tr_upd (h : Tr H a) : Tr (upd H p o) a := by
  by_cases e : a = p
  · rw [e]
    exact tr_same
  · obtain ⟨u, h⟩ := h.ex
    exact ⟨u, by rw [upd_ne e]; exact h⟩
theorem tr_kp (k : Kp ws H H1) (h : Tr H a) : Tr H1 a := by
  obtain ⟨u, h⟩ := h.ex
  obtain ⟨v, e⟩ := k.dom _ _ h
  exact ⟨v, e⟩
theorem tr_ld (h : LD K H a ds) : Tr H a := by
  obtain ⟨vs, e, _⟩ := h
  exact ⟨_, e⟩
theorem tr_pot (h : PotAt H a) : Tr H a := by
  obtain ⟨x, y, e, _⟩ := h
  exact ⟨_, e⟩
theorem fr_tr (h : Tr H a) (f : Fr H b) : a ≠ b := by
  obtain ⟨u, e⟩ := h.ex
  exact fr_ne e f
theorem fx_refl : Fx H H := ⟨fun _ _ h _ => h⟩
theorem fx_new (h : Fx H0 H) (f : Fr H p) : Fx H0 (upd H p o) := ⟨fun a u e z => by
  have e2 := h.fx a u e z
  rw [upd_ne (fr_ne e2 f)]
  exact e2⟩
theorem fx_mut (h : Fx H0 H) (f : H p = some u) (nf : ¬ Fix u) : Fx H0 (upd H p o) := ⟨fun a v e z => by
  have e2 := h.fx a v e z
  rw [upd_ne]
  · exact e2
  · intro c
    subst c
    rw [f] at e2
    cases e2
    exact nf z⟩
theorem fx_kp (k : Kp ws H H1) (h : Fx H0 H) : Fx H0 H1 := ⟨fun a u e z => k.fix a u (h.fx a u e z) z⟩
theorem Fx.seqT (k : Fx H H1) (h : SqT K H l xs) : SqT K H1 l xs := by
  rcases h with (h | ⟨o, h⟩) | h
  · exact .inl (.inl (k.fx _ _ h trivial))
  · exact .inl (.inr ⟨o, k.fx _ _ h trivial⟩)
  · exact .inr h
mutual
theorem Fx.dp (k : Fx H H1) : ∀ (d : PyData) (v : V), imm d = true → Dp K H v d → Dp K H1 v d
  | .none, _, _, h => by cases h; exact .non
  | .bool b, _, _, h => by cases h; exact .bl b
  | .int i, _, _, h => by cases h; exact .int i
  | .str x, _, _, h => by cases h; exact .str x
  | .tuple ds, _, hi, h => by
    cases h with
    | tup hs ha => exact .tup (k.seqT hs) (Fx.dpa k ds _ (by simpa only [imm] using hi) ha)
  | .list _, _, hi, _ => by simp only [imm] at hi; cases hi
  | .dict _, _, hi, _ => by simp only [imm] at hi; cases hi
theorem Fx.dpa (k : Fx H H1) : ∀ (ds : List PyData) (vs : List V), imms ds = true →
    DpAll K H vs ds → DpAll K H1 vs ds
  | [], _, _, h => by cases h; exact .nil
  | d :: ds, _, hi, h => by
    simp only [imms, Bool.and_eq_true] at hi
    cases h with
    | cons h1 h2 => exact .cons (Fx.dp k d _ hi.1 h1) (Fx.dpa k ds _ hi.2 h2)
end
/-- an item of an object -/
def ixO : HO → Int → V → Prop
  | .lst xs, n, v => atI xs n = some v
  | .tup xs, n, v => atI xs n = some v
  | _, _, _ => False
theorem i_ixO (h : H p = some o) (hv : ixO o n v) (q : Q v H) : uIx K (.ref p) (.int n) H Q := by
  cases o with
  | lst xs => exact i_ixL (SqL.of h) hv q
  | tup xs => exact i_ixT (SqT.of h) hv q
  | _ => exact hv.elim
theorem i_ixS (h0 : SqT K H0 p xs) (k : Fx H0 H) (hv : atI xs n = some v) (q : Q v H) :
    uIx K (.ref p) (.int n) H Q := i_ixT (k.seqT h0) hv q
def lenO : HO → Int → Prop
  | .lst xs, n => n = xs.length
  | .tup xs, n => n = xs.length
  | _, _ => False
theorem i_lenO (h : H p = some o) (hv : lenO o n) (q : Q (.int n) H) : uLen K [.ref p] H Q := by
  cases o with
  | lst xs =>
    have e : n = xs.length := hv
    subst e
    exact i_lenL (SqL.of h) q
  | tup xs =>
    have e : n = xs.length := hv
    subst e
    exact i_lenT (SqT.of h) q
  | _ => exact hv.elim
end
end G
namespace G
open PySem PySem.Spec PyProof.Rows L2
section
variable {K : PySem.W.Frag} {H : Hp} {Q : VK} {x y : V} {d : PyData}
theorem ne_same (hx : Dp K H x d) (hy : Dp K H y d) (sh : SeqAt.shaped d = true) (h : Q (.bl false) H) :
    uNe K x y H Q := by
  refine i_neD hx hy sh sh ?_
  rw [SeqAt.eqv_refl d (SeqAt.canLay_of_shaped sh)]
  exact h
theorem eq_same (hx : Dp K H x d) (hy : Dp K H y d) (sh : SeqAt.shaped d = true) (h : Q (.bl true) H) :
    uEq K x y H Q := by
  refine i_eqD hx hy sh sh ?_
  rw [SeqAt.eqv_refl d (SeqAt.canLay_of_shaped sh)]
  exact h
/-- a number that may be shown -/
def okI (i : Int) : Prop := i.natAbs.log2 < 1920
theorem okI_of {i : Int} (h0 : -100000000000000000000000000000000000000000000000000000000000000000000000 ≤ i)
    (h1 : i ≤ 100000000000000000000000000000000000000000000000000000000000000000000000) : okI i := by
  unfold okI
  have h2 : i.natAbs ≤ 10 ^ 71 := by
    have e : ((10 ^ 71 : Nat) : Int) = 100000000000000000000000000000000000000000000000000000000000000000000000 := by rfl
    omega
  by_cases z : i.natAbs = 0
  · rw [z]
    decide
  · exact (Nat.log2_lt z).mpr (Nat.lt_of_le_of_lt h2 (by decide +kernel))
theorem shws_pairs : ∀ l : List (Int × Int), (∀ q ∈ l, okI q.1 ∧ okI q.2) → shws (l.map d2) = true
  | [], _ => rfl
  | q :: l, h => by
    have a := h q List.mem_cons_self
    have b := shws_pairs l fun z hz => h z (List.mem_cons_of_mem _ hz)
    simp only [List.map_cons, shws, shw, b, Bool.and_true, Bool.and_eq_true, decide_eq_true_eq]
    exact a
theorem cws_pairs : ∀ l : List (Int × Int), cws (l.map d2) = 3868 * l.length
  | [] => rfl
  | q :: l => by
    simp only [List.map_cons, cws, cw, cws_pairs l, List.length_cons]
    omega
theorem depth_list (l : List (Int × Int)) : (PyData.list (l.map d2)).depth ≤ 60 := by
  simp only [PyData.depth]
  have q := depth_pairs l
  omega
theorem repr_pairs {l : List (Int × Int)} (hx : Dp K H x (.list (l.map d2))) (h : ∀ q ∈ l, okI q.1 ∧ okI q.2)
    (hl : l.length ≤ 4000) (q : Q (.str (PyData.list (l.map d2)).shown) H) : rRepr K [x] H Q := by
  refine i_repr hx ?_ (depth_list l) ?_ q
  · simp only [shw]
    exact shws_pairs l h
  · have e : cw (.list (l.map d2)) = 3868 * l.length + 2 := by simp only [cw, cws_pairs]
    rw [e]
    exact Nat.le_trans (show 3868 * l.length + 2 ≤ 15472002 by omega) (by decide)
end
end G
namespace G
open PySem PySem.Spec PyProof.Rows L2
/-! methods, new instances, keywords -/
section
variable {X : Cx} {k n : Nat} {f C : Addr} {fd : FuncData} {ps ks : List Str} {sp : Sp}
variable {dvs : List V} {ds : List Value} {E : XK} {x m : Str} {p pos apos : Pos} {e o : Expr}
variable {es : List Expr} {kws : List Keyword} {ta : TE} {t tk : TA} {pins : List (Addr × Obj)} {σ : L2.St} {H : Hp}
variable {s s' : Shared} {Q : VK} {g : List Value → List Value → List Value} {gV : List V → List V → List V}
/-- defaults of which only the values are known -/
def BindsD (K : PySem.W.Frag) (fd : FuncData) (ps : List Str) (dvs : List V) : Prop :=
  ∃ ds, Vals dvs ds ∧ Binds K fd ps ds
def KBnD (K : PySem.W.Frag) (fd : FuncData) (ps : List Str) (n : Nat) (ks : List Str)
    (gV : List V → List V → List V) : Prop := ∃ g, KBn K fd ps n ks g gV
theorem BindsD.plain {K : PySem.W.Frag} (h : Binds K fd ps []) : BindsD K fd ps [] := ⟨[], .nil, h⟩
theorem d1 (F : Fg X k f fd ps sp) (z : RoomG k X.A) (hg : Gl X x) (hm : X.mg x = some (.ref f))
    (hk : PySem.W.keepIn X.K (.ref f) = true) (hb : BindsD X.K fd ps dvs)
    (hx : Ps X E) (ha : PA X (e :: es) t)
    (hdb : (x == ("__debug__" : Str)) = false := by decide)
    (he : starEach (e :: es) X.env = (false, eval e X.env) :: starEach es X.env := by rfl)
    (hpl : (backTo pos (starEach es X.env)).any (·.1) = false := by rfl) :
    PE X (.Call (.Name x p) (e :: es) [] pos) (tCall sp dvs E t) := by
  obtain ⟨ds, hd, hb⟩ := hb
  exact c1 F z hg hm hk hb hd hx ha hdb he hpl
theorem dm {pl : Sem Bool} (c : Cls X.K C) (hm : Meth X.K C m f)
    (F : Fg X k f fd ps sp) (z : RoomG k X.A) (hb : BindsD X.K fd ps dvs)
    (hx : Ps X E) (he : PE X o ta) (ha : PA X (e :: es) t)
    (hst : starEach (e :: es) X.env = (false, eval e X.env) :: starEach es X.env := by rfl)
    (hpl : (backTo pos (starEach es X.env)).any (·.1) = false := by rfl)
    (ht : eval (.Call (.Attribute o m apos) (e :: es) [] pos) X.env = (do
      let y ← eval o X.env
      standAt apos.atName
      let (g, a) ← holding [y] (getMethod y m pl)
      callWith pos g a (backTo pos (starEach (e :: es) X.env))
        (backToKw pos (keywordEach [] X.env))) := by rfl) :
    PE X (.Call (.Attribute o m apos) (e :: es) [] pos) (tMeth C m sp dvs E ta t) := by
  obtain ⟨ds, hd, hb⟩ := hb
  exact cm he c hm F z hb hd hx ha hst hpl ht
theorem dm0 {pl : Sem Bool} (c : Cls X.K C) (hm : Meth X.K C m f)
    (F : Fg X k f fd ps sp) (z : RoomG k X.A) (hb : BindsD X.K fd ps dvs)
    (hx : Ps X E) (he : PE X o ta)
    (ht : eval (.Call (.Attribute o m apos) [] [] pos) X.env = (do
      let y ← eval o X.env
      standAt apos.atName
      let (g, a) ← holding [y] (getMethod y m pl)
      callWith pos g a (backTo pos (starEach [] X.env))
        (backToKw pos (keywordEach [] X.env))) := by rfl) :
    PE X (.Call (.Attribute o m apos) [] [] pos) (tMeth C m sp dvs E ta tNil) := by
  obtain ⟨ds, hd, hb⟩ := hb
  exact cm0 he c hm F z hb hd hx ht
/-- a call of f with positional values and keywords -/
theorem runK {us ws : List Value} {vs zs : List V} (F : Fg X k f fd ps sp) (z : RoomG k X.A)
    (hb : KBn X.K fd ps n ks g gV) (hx : Ps X E) (I : Inv X pins σ H s) (rv : Vals vs us) (rz : Vals zs ws)
    (l1 : vs.length = n) (l2 : zs.length = ks.length) (h : sp (gV vs zs) H Q E) :
    wpAny (model X.prog X.w) X.A (call (.ref f) us (ks.zip ws)) (EP X pins σ Q) X.xe s := by
  have b := hb.to s us ws I.kIn (rv.length.symm.trans l1) (rz.length.symm.trans l2)
  refine wpAny_call (codeAny_mono (runG F z b hx I (hb.rel rv rz) h) ?_)
  intro r s' q
  match r, q with
  | .error e, q => exact q
  | .ok (.ret u), q => exact q
  | .ok .next, q => exact q
  | .ok .brk, q => exact q
  | .ok .cont, q => exact q
def tKw (n m : Nat) (sp : Sp) (gV : List V → List V → List V) (E : XK) (t tk : TA) : TE := fun σ H Q =>
  t σ H fun vs H1 => tk σ H1 fun zs H2 => vs.length = n ∧ zs.length = m ∧ sp (gV vs zs) H2 Q E
def tMw (C : Addr) (nm : Str) (n m : Nat) (sp : Sp) (gV : List V → List V → List V) (E : XK) (ta : TE) (t tk : TA) : TE :=
  fun σ H Q => ta σ H fun x H1 => ∃ a dx fs, x = .ref a ∧ H1 a = some (.ins C dx fs) ∧ fs.lookup nm = none ∧
    t σ H1 fun vs H2 => tk σ H2 fun zs H3 => vs.length = n ∧ zs.length = m ∧ sp (gV (x :: vs) zs) H3 Q E
theorem kc (F : Fg X k f fd ps sp) (z : RoomG k X.A) (hg : Gl X x) (hm : X.mg x = some (.ref f))
    (hk : PySem.W.keepIn X.K (.ref f) = true) (hb : KBnD X.K fd ps n ks gV) (hx : Ps X E)
    (ha : PA X (e :: es) t) (hkw : PK X kws tk)
    (hall : (backToKw pos (keywordEach kws X.env)).all (·.1.isSome) = true := by rfl)
    (hks : (backToKw pos (keywordEach kws X.env)).filterMap (·.1) = ks := by rfl)
    (hdb : (x == ("__debug__" : Str)) = false := by decide)
    (he : starEach (e :: es) X.env = (false, eval e X.env) :: starEach es X.env := by rfl)
    (hpl : ((backTo pos (starEach (e :: es) X.env)).any (·.1) ||
      (backToKw pos (keywordEach kws X.env)).any (·.1.isNone)) = false := by rfl) :
    PE X (.Call (.Name x p) (e :: es) kws pos) (tKw n ks.length sp gV E t tk) := by
  obtain ⟨g, hb⟩ := hb
  constructor
  intro pins s σ H Q I h
  refine wpAny_Call_Name_kw (ld_glob I hg hm ?_ hdb)
  refine PySem.W.callWith_KW (h₀ := X.base) I.ok.mod.kin hk hall ?_ hpl he
  refine thn (ha.run pos pins s σ H _ I h) ?_
  intro us s1 y
  obtain ⟨vs, H1, I1, r, q⟩ := y
  refine thn (hkw.run pos pins s1 σ H1 _ I1 q) ?_
  intro ws s2 y
  obtain ⟨zs, H2, I2, rz, l1, l2, q2⟩ := y
  refine ⟨I2.kIn, ?_⟩
  rw [hks]
  exact runK F z hb hx I2 r rz l1 l2 q2
theorem kc0 (F : Fg X k f fd ps sp) (z : RoomG k X.A) (hg : Gl X x) (hm : X.mg x = some (.ref f))
    (hk : PySem.W.keepIn X.K (.ref f) = true) (hb : KBnD X.K fd ps 0 ks gV) (hx : Ps X E)
    (hkw : PK X kws tk)
    (hall : (backToKw pos (keywordEach kws X.env)).all (·.1.isSome) = true := by rfl)
    (hks : (backToKw pos (keywordEach kws X.env)).filterMap (·.1) = ks := by rfl)
    (hdb : (x == ("__debug__" : Str)) = false := by decide)
    (hpl : ((backTo pos (starEach [] X.env)).any (·.1) ||
      (backToKw pos (keywordEach kws X.env)).any (·.1.isNone)) = false := by rfl) :
    PE X (.Call (.Name x p) [] kws pos) (tKw 0 ks.length sp gV E tNil tk) := by
  obtain ⟨g, hb⟩ := hb
  constructor
  intro pins s σ H Q I h
  refine wpAny_Call_Name_kw (ld_glob I hg hm ?_ hdb)
  refine PySem.W.callWith_KW0 (h₀ := X.base) I.ok.mod.kin hk hall ?_ hpl
  refine thn (hkw.run pos pins s σ H _ I h) ?_
  intro ws s2 y
  obtain ⟨zs, H2, I2, rz, l1, l2, q2⟩ := y
  refine ⟨I2.kIn, ?_⟩
  rw [hks]
  exact runK (us := []) (vs := []) F z hb hx I2 .nil rz l1 l2 q2
theorem km {pl : Sem Bool} (c : Cls X.K C) (hm : Meth X.K C m f)
    (F : Fg X k f fd ps sp) (z : RoomG k X.A) (hb : KBnD X.K fd ps (n + 1) ks gV)
    (hx : Ps X E) (he : PE X o ta) (ha : PA X (e :: es) t) (hkw : PK X kws tk)
    (hall : (backToKw pos (keywordEach kws X.env)).all (·.1.isSome) = true := by rfl)
    (hks : (backToKw pos (keywordEach kws X.env)).filterMap (·.1) = ks := by rfl)
    (hst : starEach (e :: es) X.env = (false, eval e X.env) :: starEach es X.env := by rfl)
    (hpl : ((backTo pos (starEach (e :: es) X.env)).any (·.1) ||
      (backToKw pos (keywordEach kws X.env)).any (·.1.isNone)) = false := by rfl)
    (ht : eval (.Call (.Attribute o m apos) (e :: es) kws pos) X.env = (do
      let y ← eval o X.env
      standAt apos.atName
      let (g, a) ← holding [y] (getMethod y m pl)
      callWith pos g a (backTo pos (starEach (e :: es) X.env))
        (backToKw pos (keywordEach kws X.env))) := by rfl) :
    PE X (.Call (.Attribute o m apos) (e :: es) kws pos) (tMw C m n ks.length sp gV E ta t tk) := by
  obtain ⟨g, hb⟩ := hb
  constructor
  intro pins s σ H Q I h
  refine PySem.W.methodCall_KW (pl := pl) (thn (he.run pins s σ H _ I h) ?_) ht
  intro u s1 y
  obtain ⟨v, H1, I1, rx, a, dx, fs, ex, ea, l, q⟩ := y
  subst ex
  obtain rfl : u = Value.ref a := rx
  refine getmeth_ok I1 ea c hm l ?_
  refine PySem.W.callWith_KW (first := [.ref a]) (h₀ := X.base) I.ok.mod.kin hm.kp hall ?_ hpl hst
  refine thn (ha.run pos pins s1 σ H1 _ I1 q) ?_
  intro us s2 y
  obtain ⟨vs, H2, I2, r, q2⟩ := y
  refine thn (hkw.run pos pins s2 σ H2 _ I2 q2) ?_
  intro ws s3 y
  obtain ⟨zs, H3, I3, rz, l1, l2, q3⟩ := y
  refine ⟨I3.kIn, ?_⟩
  rw [hks]
  exact runK (us := .ref a :: us) (vs := .ref a :: vs) F z hb hx I3 (.cons rfl r) rz (by rw [List.length_cons, l1]) l2 q3
theorem km0 {pl : Sem Bool} (c : Cls X.K C) (hm : Meth X.K C m f)
    (F : Fg X k f fd ps sp) (z : RoomG k X.A) (hb : KBnD X.K fd ps 1 ks gV)
    (hx : Ps X E) (he : PE X o ta) (hkw : PK X kws tk)
    (hall : (backToKw pos (keywordEach kws X.env)).all (·.1.isSome) = true := by rfl)
    (hks : (backToKw pos (keywordEach kws X.env)).filterMap (·.1) = ks := by rfl)
    (hpl : ((backTo pos (starEach [] X.env)).any (·.1) ||
      (backToKw pos (keywordEach kws X.env)).any (·.1.isNone)) = false := by rfl)
    (ht : eval (.Call (.Attribute o m apos) [] kws pos) X.env = (do
      let y ← eval o X.env
      standAt apos.atName
      let (g, a) ← holding [y] (getMethod y m pl)
      callWith pos g a (backTo pos (starEach [] X.env))
        (backToKw pos (keywordEach kws X.env))) := by rfl) :
    PE X (.Call (.Attribute o m apos) [] kws pos) (tMw C m 0 ks.length sp gV E ta tNil tk) := by
  obtain ⟨g, hb⟩ := hb
  constructor
  intro pins s σ H Q I h
  refine PySem.W.methodCall_KW (pl := pl) (thn (he.run pins s σ H _ I h) ?_) ht
  intro u s1 y
  obtain ⟨v, H1, I1, rx, a, dx, fs, ex, ea, l, q⟩ := y
  subst ex
  obtain rfl : u = Value.ref a := rx
  refine getmeth_ok I1 ea c hm l ?_
  refine PySem.W.callWith_KW0 (first := [.ref a]) (h₀ := X.base) I.ok.mod.kin hm.kp hall ?_ hpl
  refine thn (hkw.run pos pins s1 σ H1 _ I1 q) ?_
  intro ws s3 y
  obtain ⟨zs, H3, I3, rz, l1, l2, q3⟩ := y
  refine ⟨I3.kIn, ?_⟩
  rw [hks]
  exact runK (us := [.ref a]) (vs := [.ref a]) F z hb hx I3 (.cons rfl .nil) rz (by rw [List.length_singleton]) l2 q3
/-- a new instance, then its __init__ -/
def Made (C : Addr) (sp : Sp) (E : XK) (H : Hp) (Q : VK) (vs : Addr → List V) : Prop :=
  ∀ x dx, H x = none → H dx = none → dx ≠ x →
    sp (vs x) (upd (upd H dx (.own x)) x (.ins C dx [])) (fun v H2 => v = .non ∧ Q (.ref x) H2) E
theorem runM {vs : Addr → List V} (M : Mk X.K C f) (F : Fg X k f fd ps sp)
    (z : RoomG (k + 1) X.A) (hx : Ps X E) (I : Inv X pins σ H s) {us0 : List Value} {kw : List (Str × Value)}
    {us : Addr → List Value} (hb : ∀ (s : Shared) (x : Addr), X.K.In s.heap → BindsTo s fd ⟨.ref x :: us0, kw⟩ (ps.zip (us x)))
    (h : Made C sp E H Q vs)
    (rv : ∀ x, Vals (vs x) (us x)) :
    wpAny (model X.prog X.w) X.A (call (.ref C) us0 kw) (EP X pins σ Q) X.xe s := by
  have hq := h (s.heap.objs.size + 1) s.heap.objs.size (I.hok.fresh (Nat.le_succ _)) (I.hok.fresh (Nat.le_refl _))
    (Nat.ne_of_lt (Nat.lt_succ_self _))
  have I2 := Inv.made (C := C) I
  refine wpAny_call (make_map (f := f) I.kIn M.makes M.init (beq_iff_eq.mp M.fn) (codeAny_mono
    (F.run _ X.stack _ _ ⟨.ref (s.heap.objs.size + 1) :: us0, kw⟩ _ _ _ E (z.make C us0 kw)
      (I2.env0.make C us0 kw) (hb _ _ I2.kIn) (rv _) hq) ?_))
  intro r s' q
  match r, q with
  | .error e, q => exact hx pins σ _ _ e s' I2 q
  | .ok (.ret u), q =>
    obtain ⟨v, H', I3, rv, ev, q3⟩ := I2.after q
    subst ev
    exact ⟨rv, ⟨V.ref (s.heap.objs.size + 1), H', I3, rfl, q3⟩⟩
  | .ok .next, q => exact False.elim q
  | .ok .brk, q => exact False.elim q
  | .ok .cont, q => exact False.elim q
def tMk (C : Addr) (sp : Sp) (dvs : List V) (E : XK) (t : TA) : TE := fun σ H Q => t σ H fun vs H1 =>
  Made C sp E H1 Q fun x => .ref x :: (vs ++ dvs)
def tMkK (C : Addr) (n m : Nat) (sp : Sp) (gV : List V → List V → List V) (E : XK) (t tk : TA) : TE := fun σ H Q =>
  t σ H fun vs H1 => tk σ H1 fun zs H2 => vs.length = n ∧ zs.length = m ∧ Made C sp E H2 Q fun x => gV (.ref x :: vs) zs
theorem made_len {vs : Addr → List V} (F : Fg X k f fd ps sp) (I : Inv X pins σ H s) (h : Made C sp E H Q vs) :
    ∃ x, (vs x).length = ps.length := by
  have hq := h (s.heap.objs.size + 1) s.heap.objs.size (I.hok.fresh (Nat.le_succ _)) (I.hok.fresh (Nat.le_refl _))
    (Nat.ne_of_lt (Nat.lt_succ_self _))
  exact ⟨_, F.len _ _ _ _ hq⟩
theorem mk1 (M : Mk X.K C f) (F : Fg X k f fd ps sp) (z : RoomG (k + 1) X.A) (hg : Gl X x)
    (hm : X.mg x = some (.ref C)) (hb : BindsD X.K fd ps dvs) (hx : Ps X E) (ha : PA X (e :: es) t)
    (hdb : (x == ("__debug__" : Str)) = false := by decide)
    (he : starEach (e :: es) X.env = (false, eval e X.env) :: starEach es X.env := by rfl)
    (hpl : (backTo pos (starEach es X.env)).any (·.1) = false := by rfl) :
    PE X (.Call (.Name x p) (e :: es) [] pos) (tMk C sp dvs E t) := by
  obtain ⟨ds, hd, hb⟩ := hb
  constructor
  intro pins s σ H Q I h
  refine wpAny_Call_Name_kw (ld_glob I hg hm ?_ hdb)
  refine PySem.W.callWith_K (h₀ := X.base) I.ok.mod.kin M.kp ?_ he hpl
  refine thn (ha.run pos pins s σ H _ I h) ?_
  intro us s1 y
  obtain ⟨vs, H1, I1, r, q⟩ := y
  refine ⟨I1.kIn, ?_⟩
  obtain ⟨x0, hl⟩ := made_len F I1 q
  refine runM (us := fun x => .ref x :: (us ++ ds)) M F z hx I1 ?_ q (fun x => .cons rfl (r.append hd))
  intro s2 x2 kin
  refine hb s2 (.ref x2 :: us) kin ?_
  rw [← hl]
  have e1 := r.length
  have e2 := hd.length
  simp only [List.length_cons, List.length_append, List.cons_append] at *
  omega
theorem mk0 (M : Mk X.K C f) (F : Fg X k f fd ps sp) (z : RoomG (k + 1) X.A) (hg : Gl X x)
    (hm : X.mg x = some (.ref C)) (hb : BindsD X.K fd ps dvs) (hx : Ps X E)
    (hdb : (x == ("__debug__" : Str)) = false := by decide) :
    PE X (.Call (.Name x p) [] [] pos) (tMk C sp dvs E tNil) := by
  obtain ⟨ds, hd, hb⟩ := hb
  constructor
  intro pins s σ H Q I h
  refine wpAny_Call_Name_kw (ld_glob I hg hm ?_ hdb)
  refine PySem.W.callWith_K0 I.kIn M.kp ?_
  obtain ⟨x0, hl⟩ := made_len F I h
  refine runM (us0 := []) (us := fun x => .ref x :: ([] ++ ds)) M F z hx I ?_ h (fun x => .cons rfl (Vals.append .nil hd))
  intro s2 x2 kin
  refine hb s2 [.ref x2] kin ?_
  rw [← hl]
  have e2 := hd.length
  simp only [List.length_cons, List.length_append, List.cons_append, List.length_nil, List.nil_append] at *
  omega
theorem mkK (M : Mk X.K C f) (F : Fg X k f fd ps sp) (z : RoomG (k + 1) X.A) (hg : Gl X x)
    (hm : X.mg x = some (.ref C)) (hb : KBnD X.K fd ps (n + 1) ks gV) (hx : Ps X E) (ha : PA X (e :: es) t)
    (hkw : PK X kws tk)
    (hall : (backToKw pos (keywordEach kws X.env)).all (·.1.isSome) = true := by rfl)
    (hks : (backToKw pos (keywordEach kws X.env)).filterMap (·.1) = ks := by rfl)
    (hdb : (x == ("__debug__" : Str)) = false := by decide)
    (he : starEach (e :: es) X.env = (false, eval e X.env) :: starEach es X.env := by rfl)
    (hpl : ((backTo pos (starEach (e :: es) X.env)).any (·.1) ||
      (backToKw pos (keywordEach kws X.env)).any (·.1.isNone)) = false := by rfl) :
    PE X (.Call (.Name x p) (e :: es) kws pos) (tMkK C n ks.length sp gV E t tk) := by
  obtain ⟨g, hb⟩ := hb
  constructor
  intro pins s σ H Q I h
  refine wpAny_Call_Name_kw (ld_glob I hg hm ?_ hdb)
  refine PySem.W.callWith_KW (h₀ := X.base) I.ok.mod.kin M.kp hall ?_ hpl he
  refine thn (ha.run pos pins s σ H _ I h) ?_
  intro us s1 y
  obtain ⟨vs, H1, I1, r, q⟩ := y
  refine thn (hkw.run pos pins s1 σ H1 _ I1 q) ?_
  intro ws s2 y
  obtain ⟨zs, H2, I2, rz, l1, l2, q2⟩ := y
  refine ⟨I2.kIn, ?_⟩
  rw [hks]
  refine runM (us := fun x => g (.ref x :: us) ws) M F z hx I2 ?_ q2 (fun x => hb.rel (.cons rfl r) rz)
  intro s3 x3 kin
  refine hb.to s3 (.ref x3 :: us) ws kin ?_ (rz.length.symm.trans l2)
  rw [List.length_cons, ← r.length, l1]
theorem mkK0 (M : Mk X.K C f) (F : Fg X k f fd ps sp) (z : RoomG (k + 1) X.A) (hg : Gl X x)
    (hm : X.mg x = some (.ref C)) (hb : KBnD X.K fd ps 1 ks gV) (hx : Ps X E)
    (hkw : PK X kws tk)
    (hall : (backToKw pos (keywordEach kws X.env)).all (·.1.isSome) = true := by rfl)
    (hks : (backToKw pos (keywordEach kws X.env)).filterMap (·.1) = ks := by rfl)
    (hdb : (x == ("__debug__" : Str)) = false := by decide)
    (hpl : ((backTo pos (starEach [] X.env)).any (·.1) ||
      (backToKw pos (keywordEach kws X.env)).any (·.1.isNone)) = false := by rfl) :
    PE X (.Call (.Name x p) [] kws pos) (tMkK C 0 ks.length sp gV E tNil tk) := by
  obtain ⟨g, hb⟩ := hb
  constructor
  intro pins s σ H Q I h
  refine wpAny_Call_Name_kw (ld_glob I hg hm ?_ hdb)
  refine PySem.W.callWith_KW0 (h₀ := X.base) I.ok.mod.kin M.kp hall ?_ hpl
  refine thn (hkw.run pos pins s σ H _ I h) ?_
  intro ws s2 y
  obtain ⟨zs, H2, I2, rz, l1, l2, q2⟩ := y
  refine ⟨I2.kIn, ?_⟩
  rw [hks]
  refine runM (us0 := []) (us := fun x => g [.ref x] ws) M F z hx I2 ?_ q2 (fun x => hb.rel (.cons rfl .nil) rz)
  intro s3 x3 kin
  exact hb.to s3 [.ref x3] ws kin rfl (rz.length.symm.trans l2)
end
section
variable {P : Program} {w : World} {K : PySem.W.Frag} {mg : Str → Option Value} {base : Heap}
theorem okD {x qual : Str} {params : Arguments} {body : List Stmt} {scope : Scope} {dvs : List V} {kws : List (Str × V)}
    {f : Addr} {fd : FuncData} {N ps : List Str} {k : Nat} {sp : Sp}
    (F : FunD K x qual params body scope dvs kws f fd) (S : FnScope N ps scope)
    (len : ∀ vs H Q E, sp vs H Q E → vs.length = ps.length)
    (hb : ∀ (cdv : Value) (A : Around) (outer : List Env) (s : Shared) (H : Hp) (vs : List V)
      (Q : VK) (E : XK), RoomG k (A.deeper (envOfC qual scope s.heap.objs.size f cdv)) →
      sp vs H Q E →
      ∃ t, PSs (cxOf (L2.CX P w) P w K mg base N qual scope f cdv A outer s H E) body t ∧
        t { nx := fun _ H' => Q .non H', rt := Q } (start N vs) H) :
    FnG P w K mg base (k + 1) f fd ps sp := by
  obtain ⟨oc, od, dV, kV, doc, pm, an, cdv, ct, osl, rfl, lk, hcd, _, _⟩ := F.ex
  exact FnG.body lk hcd S len fun A outer s H vs Q E z h => hb cdv A outer s H vs Q E z h
end
/-! readings of these -/
section
variable {K : PySem.W.Frag} {σ : L2.St} {H : Hp} {Q : VK} {D : Ends} {a C dx p : Addr} {fs : List (Str × V)} {f m : Str} {v : V}
variable {ta tv : TE} {t tk : TA} {sp : Sp} {E : XK} {vs zs : List V} {gV : List V → List V → List V} {n k : Nat}
def MethR (C : Addr) (m : Str) (sp : Sp) (E : XK) (t : TA) (σ : L2.St) (x : V) (H1 : Hp) (Q : VK) : Prop :=
  ∃ a dx fs, x = .ref a ∧ H1 a = some (.ins C dx fs) ∧ fs.lookup m = none ∧ t σ H1 fun vs H2 => sp (x :: vs) H2 Q E
theorem i_meth (h : ta σ H fun x H1 => MethR C m sp E t σ x H1 Q) : tMeth C m sp [] E ta t σ H Q := by
  unfold tMeth
  simp only [List.append_nil]
  exact h
theorem i_methR (ho : H a = some (.ins C dx fs)) (hl : fs.lookup m = none)
    (h : t σ H fun vs H2 => sp (.ref a :: vs) H2 Q E) : MethR C m sp E t σ (.ref a) H Q := ⟨a, dx, fs, rfl, ho, hl, h⟩
def MethW (C : Addr) (nm : Str) (n m : Nat) (sp : Sp) (gV : List V → List V → List V) (E : XK) (t tk : TA) (σ : L2.St) (x : V)
    (H1 : Hp) (Q : VK) : Prop := ∃ a dx fs, x = .ref a ∧ H1 a = some (.ins C dx fs) ∧ fs.lookup nm = none ∧
    t σ H1 fun vs H2 => tk σ H2 fun zs H3 => vs.length = n ∧ zs.length = m ∧ sp (gV (x :: vs) zs) H3 Q E
theorem i_methW (h : ta σ H fun x H1 => MethW C m n k sp gV E t tk σ x H1 Q) : tMw C m n k sp gV E ta t tk σ H Q := h
theorem i_methWR (ho : H a = some (.ins C dx fs)) (hl : fs.lookup m = none)
    (h : t σ H fun vs H2 => tk σ H2 fun zs H3 => vs.length = n ∧ zs.length = k ∧ sp (gV (.ref a :: vs) zs) H3 Q E) :
    MethW C m n k sp gV E t tk σ (.ref a) H Q := ⟨a, dx, fs, rfl, ho, hl, h⟩
theorem i_lens {P : Prop} (h1 : vs.length = n) (h2 : zs.length = k) (h : P) : vs.length = n ∧ zs.length = k ∧ P := ⟨h1, h2, h⟩
theorem i_kw (h : t σ H fun vs H1 => tk σ H1 fun zs H2 => vs.length = n ∧ zs.length = k ∧ sp (gV vs zs) H2 Q E) :
    tKw n k sp gV E t tk σ H Q := h
theorem i_mk (h : t σ H fun vs H1 => Made C sp E H1 Q fun x => .ref x :: vs) : tMk C sp [] E t σ H Q := by
  unfold tMk
  simp only [List.append_nil]
  exact h
theorem i_mkD {dvs : List V} (h : t σ H fun vs H1 => Made C sp E H1 Q fun x => .ref x :: (vs ++ dvs)) : tMk C sp dvs E t σ H Q := h
theorem i_mkK (h : t σ H fun vs H1 => tk σ H1 fun zs H2 => vs.length = n ∧ zs.length = k ∧
    Made C sp E H2 Q fun x => gV (.ref x :: vs) zs) : tMkK C n k sp gV E t tk σ H Q := h
/-- an attribute -/
def FldR (K : PySem.W.Frag) (f : Str) (x : V) (H1 : Hp) (Q : VK) : Prop := ∃ a C dx fs v, x = .ref a ∧
  H1 a = some (.ins C dx fs) ∧ Cls K C ∧ NoAttr K C f ∧ fs.lookup f = some v ∧ Q v H1
theorem i_fld (h : ta σ H fun x H1 => FldR K f x H1 Q) : tFld K ta f σ H Q := h
theorem i_fldR (ho : H a = some (.ins C dx fs)) (c : Cls K C) (n : NoAttr K C f) (hl : fs.lookup f = some v)
    (h : Q v H) : FldR K f (.ref a) H Q := ⟨a, C, dx, fs, v, rfl, ho, c, n, hl, h⟩
def FldS (K : PySem.W.Frag) (f : Str) (y x : V) (D : Ends) (σ : L2.St) (H2 : Hp) : Prop := ∃ a C dx fs, x = .ref a ∧
  H2 a = some (.ins C dx fs) ∧ Cls K C ∧ NoAttr K C f ∧ fs.length < 1000 ∧ D.nx σ (upd H2 a (.ins C dx (putF f y fs)))
theorem i_fldS (h : tv σ H fun y H1 => ta σ H1 fun x H2 => FldS K f y x D σ H2) : sFld K ta tv f D σ H := h
theorem i_fldSR {y : V} (ho : H a = some (.ins C dx fs)) (c : Cls K C) (n : NoAttr K C f) (hl : fs.length < 1000)
    (h : D.nx σ (upd H a (.ins C dx (putF f y fs)))) : FldS K f y (.ref a) D σ H := ⟨a, C, dx, fs, rfl, ho, c, n, hl, h⟩
end
end G
namespace G
open PySem PySem.Spec PyProof.Rows L2
/-! the facts of the top -/
section
variable {K : PySem.W.Frag} {x qual : Str} {st : Stmt} {f D : Addr} {oc : Value} {od an : Option Addr} {osl : Array (Option Value)}
variable {kV doc pm cdv ct : Value} {ps : List Str}
theorem fund0 (l : K.lookup f = some ⟨oc, od, .func (PySem.W.fnOf x qual (defArgs st) (defBody st)
      (defScope st) .none kV doc pm an cdv ct), osl⟩)
    (c : PySem.W.codeIn K cdv qual = true) (k : PySem.W.keepIn K (.ref f) = true) :
    FunD K x qual (defArgs st) (defBody st) (defScope st) [] [] f
      (PySem.W.fnOf x qual (defArgs st) (defBody st) (defScope st) .none kV doc pm an cdv ct) :=
  ⟨⟨oc, od, .none, kV, doc, pm, an, cdv, ct, osl, rfl, l, c, .inl ⟨rfl, rfl⟩, .inl rfl⟩, k⟩
theorem fund1 {kws : List (Str × V)} (l : K.lookup f = some ⟨oc, od, .func (PySem.W.fnOf x qual (defArgs st) (defBody st)
      (defScope st) .none (.ref D) doc pm an cdv ct), osl⟩)
    (c : PySem.W.codeIn K cdv qual = true) (k : PySem.W.keepIn K (.ref f) = true)
    (q : ∀ q ∈ kws, ∃ u, PySem.W.nsIn K D q.1 = some (some u) ∧ RelV q.2 u) :
    FunD K x qual (defArgs st) (defBody st) (defScope st) [] kws f
      (PySem.W.fnOf x qual (defArgs st) (defBody st) (defScope st) .none (.ref D) doc pm an cdv ct) :=
  ⟨⟨oc, od, .none, .ref D, doc, pm, an, cdv, ct, osl, rfl, l, c, .inl ⟨rfl, rfl⟩, .inr ⟨D, rfl, q⟩⟩, k⟩
theorem kw_one {nm : Str} {v : V} {u : Value} (e : PySem.W.nsIn K D nm = some (some u)) (r : RelV v u) :
    ∀ q ∈ [(nm, v)], ∃ u, PySem.W.nsIn K D q.1 = some (some u) ∧ RelV q.2 u := fun q hq => by
  rw [List.mem_singleton.mp hq]
  exact ⟨u, e, r⟩
theorem kw_more {nm : Str} {v : V} {u : Value} {l : List (Str × V)} (e : PySem.W.nsIn K D nm = some (some u)) (r : RelV v u)
    (h : ∀ q ∈ l, ∃ u, PySem.W.nsIn K D q.1 = some (some u) ∧ RelV q.2 u) :
    ∀ q ∈ (nm, v) :: l, ∃ u, PySem.W.nsIn K D q.1 = some (some u) ∧ RelV q.2 u := fun q hq => by
  rcases List.mem_cons.mp hq with z | z
  · rw [z]
    exact ⟨u, e, r⟩
  · exact h q z
/-- positional values, then by places of what the keywords and the defaults give -/
def gp (idx : List Nat) {α : Type} (vs mz zs : List α) : List α := vs ++ idx.filterMap fun i => (zs ++ mz)[i]?
theorem vals_idx {vs : List V} {us : List Value} (r : Vals vs us) : ∀ idx : List Nat,
    Vals (idx.filterMap fun i => vs[i]?) (idx.filterMap fun i => us[i]?)
  | [] => .nil
  | i :: idx => by
    have ih := vals_idx r idx
    cases e : vs[i]? with
    | none =>
      have e2 := Vals.none_of r e
      rw [List.filterMap_cons_none e, List.filterMap_cons_none e2]
      exact ih
    | some v =>
      obtain ⟨u, e2, q⟩ := Vals.get r e
      rw [List.filterMap_cons_some e, List.filterMap_cons_some e2]
      exact .cons q ih
theorem gp_rel (idx : List Nat) {vs mz zs : List V} {us mv ws : List Value} (r : Vals vs us) (r1 : Vals mz mv) (r2 : Vals zs ws) :
    Vals (gp idx vs mz zs) (gp idx us mv ws) := r.append (vals_idx (r2.append r1) idx)
variable {params : Arguments} {body : List Stmt} {scope : Scope} {fd : FuncData} {kws : List (Str × V)}
theorem bindN (F : FunD K x qual params body scope [] [] f fd)
    (h : ∀ (kV doc pm : Value) (an : Option Addr) (cdv ct : Value) (us : List Value), us.length = ps.length →
      bindArgs (PySem.W.fnOf x qual params body scope .none kV doc pm an cdv ct) ⟨us, []⟩ = pure (ps.zip us)) :
    BindsD K fd ps [] := BindsD.plain (F.bindsN h)
theorem bindK (F : FunD K x qual params body scope [] kws f fd) (n : Nat) (hk : kws ≠ []) (hn : n + kws.length = ps.length)
    (h : ∀ (D : Addr) (doc pm : Value) (an : Option Addr) (cdv ct : Value) (us ks : List Value), us.length = n →
      ks.length = kws.length → KwChain D ((kws.map (·.1)).zip ks)
        (bindArgs (PySem.W.fnOf x qual params body scope .none (.ref D) doc pm an cdv ct) ⟨us, []⟩) (ps.zip (us ++ ks))) :
    BindsD K fd ps (kws.map (·.2)) := F.binds0 n hk hn h
theorem kbN (F : FunD K x qual params body scope [] [] f fd) (n : Nat) (ks : List Str) (idx : List Nat)
    (h : ∀ (kV doc pm : Value) (an : Option Addr) (cdv ct : Value) (us ws : List Value), us.length = n →
      ws.length = ks.length → bindArgs (PySem.W.fnOf x qual params body scope .none kV doc pm an cdv ct) ⟨us, ks.zip ws⟩ =
        pure (ps.zip (gp idx us [] ws))) : KBnD K fd ps n ks (fun vs zs => gp idx vs [] zs) := by
  refine ⟨fun us ws => gp idx us [] ws, ?_, fun r1 r2 => gp_rel idx r1 .nil r2⟩
  intro s us ws kin l1 l2
  obtain ⟨oc, od, dV, kV, doc, pm, an, cdv, ct, osl, rfl, lk, hcd, hD, hK⟩ := F.ex
  rcases hD with ⟨_, rfl⟩ | ⟨e, _⟩
  · exact .of_eq (h kV doc pm an cdv ct us ws l1 l2)
  · exact absurd rfl e
theorem kbK (F : FunD K x qual params body scope [] kws f fd) (n : Nat) (ks : List Str) (ms : List (Str × V)) (idx : List Nat)
    (hk : kws ≠ []) (hms : ∀ q ∈ ms, q ∈ kws)
    (h : ∀ (D : Addr) (doc pm : Value) (an : Option Addr) (cdv ct : Value) (us mv ws : List Value), us.length = n →
      mv.length = ms.length → ws.length = ks.length → KwChain D ((ms.map (·.1)).zip mv)
        (bindArgs (PySem.W.fnOf x qual params body scope .none (.ref D) doc pm an cdv ct) ⟨us, ks.zip ws⟩)
        (ps.zip (gp idx us mv ws))) : KBnD K fd ps n ks (fun vs zs => gp idx vs (ms.map (·.2)) zs) := by
  obtain ⟨mv, h⟩ := F.kbinds0 n ks ms (fun vs mz zs => gp idx vs mz zs) hk hms (fun r r1 r2 => gp_rel idx r r1 r2) h
  exact ⟨_, h⟩
end
end G
namespace G
open PySem PySem.Spec PyProof.Rows L2
section
variable {X : Cx} {K : PySem.W.Frag} {k n : Nat} {f C : Addr} {fd : FuncData} {ps : List Str} {sp : Sp}
variable {dvs : List V} {E : XK} {x m : Str} {p pos pos' : Pos} {e o value : Expr} {fl : Str} {ta tv : TE}
theorem d0 (F : Fg X k f fd ps sp) (z : RoomG k X.A) (hg : Gl X x) (hm : X.mg x = some (.ref f))
    (hk : PySem.W.keepIn X.K (.ref f) = true) (hb : BindsD X.K fd ps dvs)
    (hx : Ps X E) (hdb : (x == ("__debug__" : Str)) = false := by decide) :
    PE X (.Call (.Name x p) [] [] pos) (tCall sp dvs E tNil) := by
  obtain ⟨ds, hd, hb⟩ := hb
  exact c0 F z hg hm hk hb hd hx hdb
theorem k_sfld (h : X.K = K) (ha : PE X o ta) (hv : PE X value tv)
    (hs : swapsWith value (some (.Attribute o fl pos')) pos.line X.env = pure false) :
    PS X (.Assign [.Attribute o fl pos'] value pos) (sFld K ta tv fl) := h ▸ ps_fld ha hv hs
theorem k_pzip {e2 : Expr} {t : TA} {tpos : Pos} {elts : List Expr} {kk : Nat} (h : X.K = K) (hg : Gl X "zip") (hm : X.mg "zip" = none)
    (ha : PA X [e, e2] t) (hs : starEach [e, e2] X.env = (false, eval e X.env) :: starEach [e2] X.env := by rfl)
    (hpl : (backTo pos (starEach [e2] X.env)).any (·.1) = false := by rfl) :
    PI X (.Tuple elts kk tpos) (.Call (.Name "zip" p) [e, e2] [] pos) (iZip K t) := h ▸ pi_zip hg hm ha hs hpl
end
section
variable {K : PySem.W.Frag} {σ : L2.St} {H H1 : Hp} {Q : VK} {D : Ends} {tb : TS} {te : TE} {tt : TT} {g : TG}
variable {a b p q l C dx : Addr} {xs ys vs us : List V} {v x y : V} {fs : List (Str × V)} {f m : Str} {t ta : TE} {tr : TA} {sp : Sp} {E : XK}
variable {dvs : List V} {vn : List Nat}
theorem i_methD {t : TA} (h : ta σ H fun x H1 => MethR C m sp E (fun σ H Q => t σ H fun vs H' => Q (vs ++ dvs) H') σ x H1 Q) :
    tMeth C m sp dvs E ta t σ H Q := h
theorem i_isNn (h : Q (.bl true) H) : rIsN .non .non H Q := ⟨rfl, h⟩
theorem i_isNr (h : Q (.bl false) H) : rIsN (.ref a) .non H Q := ⟨rfl, h⟩
theorem i_isNi {n : Int} (h : Q (.bl false) H) : rIsN (.int n) .non H Q := ⟨rfl, h⟩
theorem i_notNn (h : Q (.bl false) H) : rNotN .non .non H Q := ⟨rfl, h⟩
theorem i_notNr (h : Q (.bl true) H) : rNotN (.ref a) .non H Q := ⟨rfl, h⟩
theorem i_notNi {n : Int} (h : Q (.bl true) H) : rNotN (.int n) .non H Q := ⟨rfl, h⟩
/-- a for over zip of two lists -/
def ForZ (K : PySem.W.Frag) (ws : List V) (g : TG) (tb : TS) (D : Ends) (σ : L2.St) (H : Hp) : Prop :=
  ∃ a b xs ys, ws = [.ref a, .ref b] ∧ SqL K H a xs ∧ SqL K H b ys ∧ ∃ W : Nat → Nat → L2.St → Hp → Prop,
    (∃ m, W 0 m σ H) ∧ ∀ i m σ H, W i m σ H → ((Itz K a b).stop i H ∧ D.nx σ H) ∨
      ((Itz K a b).go i H ∧ ∃ Nx : L2.St → Hp → Prop,
        (∀ σ' H', Nx σ' H' → ∃ m', m' < m ∧ W (i + 1) m' σ' H') ∧
        ∀ x H', (Itz K a b).yld i H x H' → g x σ H' fun σ2 H2 =>
          tb { D with nx := Nx, ct := Nx, bk := D.nx } σ2 H2)
theorem i_forZ (h : tr σ H fun ws H1 => ForZ K ws g tb D σ H1) : tFor (iZip K tr) g tb D σ H := h
theorem i_both (hx : SqL K H a xs) (hy : SqL K H b ys) (Pv : Nat → L2.St → Hp → Prop) (h0 : Pv 0 σ H)
    (hl : ∀ i σ H, Pv i σ H → SqL K H a xs ∧ SqL K H b ys)
    (st : ∀ i x y T σ H, xs[i]? = some x → ys[i]? = some y → Pv i σ H → Fr H T → g (.ref T) σ (upd H T (.tup [x, y])) fun σ2 H2 =>
      tb { D with nx := Pv (i + 1), ct := Pv (i + 1), bk := D.nx } σ2 H2)
    (hd : ∀ σ H, Pv (min xs.length ys.length) σ H → D.nx σ H) : ForZ K [.ref a, .ref b] g tb D σ H := by
  refine ⟨a, b, xs, ys, rfl, hx, hy, fun i m σ H => m = min xs.length ys.length - i ∧ i ≤ min xs.length ys.length ∧ Pv i σ H,
    ⟨_, rfl, Nat.zero_le _, h0⟩, ?_⟩
  rintro i m σ H ⟨rfl, hi, z⟩
  obtain ⟨qx, qy⟩ := hl i σ H z
  by_cases c : i < min xs.length ys.length
  · have c1 : i < xs.length := by omega
    have c2 : i < ys.length := by omega
    refine .inr ⟨⟨xs, ys, _, _, qx, qy, List.getElem?_eq_getElem c1, List.getElem?_eq_getElem c2⟩, Pv (i + 1),
      fun σ' H' w => ⟨_, by omega, rfl, by omega, w⟩, ?_⟩
    rintro v H' ⟨T, x', y', rfl, hT, rfl, f1, f2⟩
    exact st i x' y' T σ H (f1 xs qx) (f2 ys qy) z ⟨hT⟩
  · have e : i = min xs.length ys.length := by omega
    refine .inl ⟨⟨xs, ys, qx, qy, by omega⟩, hd σ H (by rw [← e]; exact z)⟩
/-- a comprehension over zip of two lists -/
def LcZ (K : PySem.W.Frag) (ws : List V) (g : TG) (tt : TT) (te : TE) (vs : List Nat) (σ : L2.St) (H1 : Hp) (Q : VK) : Prop :=
  ∃ a b xs ys, ws = [.ref a, .ref b] ∧ SqL K H1 a xs ∧ SqL K H1 b ys ∧ ∀ D, H1 D = none →
    ∃ W : Nat → Nat → Hp → Prop, (∃ m, W 0 m (upd H1 D (.lst []))) ∧ ∀ i m H, W i m H →
      ((Itz K a b).stop i H ∧ Q (.ref D) H) ∨ ((Itz K a b).go i H ∧ ∃ Nx : Hp → Prop,
        (∀ H', Nx H' → ∃ m', m' < m ∧ W (i + 1) m' H') ∧
        ∀ x H', (Itz K a b).yld i H x H' → g x (wipe σ vs) H' fun σ2 H2 => wipe σ2 vs = wipe σ vs ∧ tt σ2 H2 fun b H3 =>
          if b = true then te σ2 H3 fun y H4 => ∃ acc, H4 D = some (.lst acc) ∧ acc.length < sizeLine ∧
            Nx (upd H4 D (.lst (acc ++ [y]))) else Nx H3)
theorem i_lcZ (h : tr σ H fun ws H1 => LcZ K ws g tt te vn σ H1 Q) : tLc (iZip K tr) g tt te vn σ H Q := h
theorem i_eltz (hx : SqL K H a xs) (hy : SqL K H b ys) (Pv : Addr → Nat → Hp → Prop)
    (h0 : ∀ D, Fr H D → Pv D 0 (upd H D (.lst [])))
    (hl : ∀ D i H', Fr H D → Pv D i H' → SqL K H' a xs ∧ SqL K H' b ys)
    (st : ∀ D i x y T H', Fr H D → xs[i]? = some x → ys[i]? = some y → Pv D i H' → Fr H' T →
      g (.ref T) (wipe σ vn) (upd H' T (.tup [x, y])) fun σ2 H2 =>
      wipe σ2 vn = wipe σ vn ∧ tt σ2 H2 fun b H3 => if b = true then te σ2 H3 fun y H4 =>
        ∃ acc, H4 D = some (.lst acc) ∧ acc.length < sizeLine ∧ Pv D (i + 1) (upd H4 D (.lst (acc ++ [y])))
        else Pv D (i + 1) H3)
    (hd : ∀ D H', Fr H D → Pv D (min xs.length ys.length) H' → Q (.ref D) H') : LcZ K [.ref a, .ref b] g tt te vn σ H Q := by
  refine ⟨a, b, xs, ys, rfl, hx, hy, fun D hD => ⟨fun i m H => m = min xs.length ys.length - i ∧ i ≤ min xs.length ys.length ∧ Pv D i H,
    ⟨_, rfl, Nat.zero_le _, h0 D ⟨hD⟩⟩, ?_⟩⟩
  rintro i m H ⟨rfl, hi, z⟩
  obtain ⟨qx, qy⟩ := hl D i H ⟨hD⟩ z
  by_cases c : i < min xs.length ys.length
  · have c1 : i < xs.length := by omega
    have c2 : i < ys.length := by omega
    refine .inr ⟨⟨xs, ys, _, _, qx, qy, List.getElem?_eq_getElem c1, List.getElem?_eq_getElem c2⟩, Pv D (i + 1),
      fun H' w => ⟨_, by omega, rfl, by omega, w⟩, ?_⟩
    rintro v H' ⟨T, x', y', rfl, hT, rfl, f1, f2⟩
    exact st D i x' y' T H ⟨hD⟩ (f1 xs qx) (f2 ys qy) z ⟨hT⟩
  · have e : i = min xs.length ys.length := by omega
    refine .inl ⟨⟨xs, ys, qx, qy, by omega⟩, hd D H ⟨hD⟩ (by rw [← e]; exact z)⟩
/-- [v] * n -/
theorem i_rep {n : Int} (h : H l = some (.lst [v])) (h0 : 0 ≤ n) (h1 : n ≤ 1000000)
    (q : New H fun p => Q (.ref p) (upd H p (.lst (List.replicate n.toNat v)))) : rRep (.ref l) (.int n) H Q := by
  refine ⟨l, n, [v], rfl, rfl, h, by omega, by omega, ?_, fun p hp => ?_⟩
  · have e : ([v] : List V).length * n.toNat ≤ 1000000 := by
      rw [List.length_singleton]
      omega
    exact Nat.le_trans e (by decide)
  · have e : (List.replicate n.toNat [v]).flatten = List.replicate n.toNat v := by
      induction n.toNat with
      | zero => rfl
      | succ k ih => rw [List.replicate_succ, List.flatten_cons, ih, List.replicate_succ]; rfl
    rw [e]
    exact q p hp
/-- an object's entry -/
theorem Kp.upi {ws : List Addr} {H0 H1 : Hp} (k : Kp ws H0 H1) (h : H1 p = some (.ins C dx fs)) (hp : p ∈ ws) {o : HO} : Kp ws H0 (L2.upd H1 p o) :=
  k.trans (Kp.mut h (fun z => z) hp)
end
/-! ### runs and cells -/
def cells (ps : List (Int × Int)) : List Int := ps.flatMap fun p => List.replicate p.1.toNat p.2
def tag (c : Int) : Int × Int := (1, c)
end G
namespace G
open PySem PySem.Spec PyProof.Rows L2
section
variable {K : PySem.W.Frag} {σ : L2.St} {H H1 : Hp} {Q : VK} {a b p q l m C dx : Addr} {xs ys : List V} {fs : List (Str × V)} {o : HO}
variable {ds : List PyData} {ws : List Addr}
theorem i_addL (hx : H a = some (.lst xs)) (hy : H b = some (.lst ys)) (hz : xs.length + ys.length ≤ 1000000)
    (h : New H fun p => Q (.ref p) (upd H p (.lst (xs ++ ys)))) : uAdd K (.ref a) (.ref b) H Q :=
  .inr (.inr (.inl ⟨a, b, xs, ys, rfl, rfl, hx, hy, Nat.le_trans hz (by decide), h⟩))
theorem ld_ins (h : LD K H l ds) (hi : imms ds = true) (hq : H q = some (.ins C dx fs)) : LD K (upd H q o) l ds := by
  have k : Kp [q] H (L2.upd H q o) := Kp.mut hq (fun z => z) List.mem_cons_self
  refine h.kp k hi (not_one ?_)
  obtain ⟨vs, e, _⟩ := h
  intro z
  rw [z, hq] at e
  cases e
end
end G
namespace G
open L2 PySem
theorem fs_few {fs : List (Str × V)} (h : fs.length.blt 1000 = true) : fs.length < 1000 := by
  rw [Nat.blt_eq] at h
  exact h
end G
namespace G
open L2 PySem
theorem ld_push {K : PySem.W.Frag} {H0 H1 : Hp} {l : Addr} {vs : List V} {y : V} {ds : List PyData} {d : PyData} {ws : List Addr}
    (kp : Kp ws H0 H1) (h : DpAll K H0 vs ds) (hi : imms ds = true) (hv : H1 l = some (.lst (vs ++ [y]))) (hd : Dp K H1 y d) :
    LD K H1 l (ds ++ [d]) := ⟨_, hv, dpa_app (dpa_imm kp _ _ hi h) (dpa_one hd)⟩
end G
namespace G
open PySem PySem.Spec PyProof.Rows L2
/-! slices: read and written -/
section
variable {X : Cx} {o : Expr} {lo hi : Option Expr} {to : TE} {tl th : TO} {pos p2 : Pos}
def CutS (x : V) (i j : Option Int) (v : V) (H : Hp) (P : Hp → Prop) : Prop := ∃ l b xs ys a c, x = .ref l ∧ v = .ref b ∧
  i = some a ∧ j = some c ∧ H l = some (.lst xs) ∧ H b = some (.lst ys) ∧ l ≠ b ∧ 0 ≤ a ∧ a ≤ c ∧ c ≤ xs.length ∧
  xs.length + ys.length ≤ sizeLine ∧ P (upd H l (.lst (xs.take a.toNat ++ ys ++ xs.drop c.toNat)))
def gCut (to : TE) (tl th : TO) : TG := fun v σ H S => to σ H fun x H1 => tl σ H1 fun i H2 => th σ H2 fun j H3 =>
  CutS x i j v H3 fun H4 => S σ H4
theorem pg_cut (ho : PE X o to) (hl : PO X lo tl) (hu : PO X hi th)
    (ha : ∀ v, assign (.Subscript o (.Slice lo hi none p2) pos) X.env v = (do
      let ov ← holding [v] (eval o X.env)
      let iv ← holding [v, ov] (eval (.Slice lo hi none p2) X.env)
      standAt pos
      holding [v, ov, iv] (setItem ov iv v)
      release [iv, v, ov] []) := by intro _; rfl) :
    PG X (.Subscript o (.Slice lo hi none p2) pos) (gCut to tl th) := by
  constructor
  intro pins s σ H v u Q I r h
  rw [ha]
  refine wpAny_bind (wpAny_holding (thn (ho.run pins s σ H _ I h) ?_))
  rintro ov s1 ⟨x, H1, I1, r1, q1⟩
  refine wpAny_bind (wpAny_holding (PySem.wpAny_Slice (thn (hl.run pins s1 σ H1 _ I1 q1) ?_)))
  rintro vl s2 ⟨i, H2, I2, pl, q2⟩
  refine thn (hu.run pins s2 σ H2 _ I2 q2) ?_
  rintro vu s3 ⟨j, H3, I3, pu, q3⟩
  rw [evalPart_none]
  refine wpAny_pure ?_
  have I4 : Inv X pins σ H3 { s3 with heap := s3.heap.push { cls := .type "slice", data := .fields #[vl, vu, .none] } } :=
    I3.kept (t' := s3.toks) fun b ob z => Heap.get?_push_of_some _ z
  obtain ⟨l, b, xs, ys, a, c, rfl, rfl, rfl, rfl, e1, e2, ne, h0, hac, hc, hz, q⟩ := q3
  cases r1
  cases r
  cases pl
  rename_i ta
  cases pu
  rename_i tc
  refine wpAny_bind (wpAny_standAt (wpAny_bind (wpAny_holding ?_)))
  refine set_slice I4 e1 e2 ne (Heap.IsSliceOf.new ..) ⟨ta, rfl⟩ ⟨tc, rfl⟩ h0 hac hc hz ?_
  intro s5 I5
  exact wpAny_release ⟨σ, _, I5, q⟩
end
section
variable {K : PySem.W.Frag} {σ : L2.St} {H : Hp} {Q : VK} {a b l : Addr} {xs ys : List V} {r : V → Option Int → Option Int → Hp → VK → Prop}
variable {te to : TE} {tl th : TO} {P : Hp → Prop} {S : L2.St → Hp → Prop} {v x : V} {lo hi : Option Int} {R : Option Int → Hp → Prop}
theorem i_gCut (h : to σ H fun x H1 => tl σ H1 fun i H2 => th σ H2 fun j H3 => CutS x i j v H3 fun H4 => S σ H4) :
    gCut to tl th v σ H S := h
theorem i_cutS {i j : Int} (h1 : H l = some (.lst xs)) (h2 : H b = some (.lst ys)) (ne : l ≠ b) (h0 : 0 ≤ i ∧ i ≤ j ∧ j ≤ xs.length)
    (hz : xs.length + ys.length ≤ 1000000) (q : P (upd H l (.lst (xs.take i.toNat ++ ys ++ xs.drop j.toNat)))) :
    CutS (.ref l) (some i) (some j) (.ref b) H P :=
  ⟨l, b, xs, ys, i, j, rfl, rfl, rfl, rfl, h1, h2, ne, h0.1, h0.2.1, h0.2.2, Nat.le_trans hz (by decide), q⟩
theorem i_sl (h : te σ H fun x H1 => tl σ H1 fun l H2 => th σ H2 fun u H3 => r x l u H3 Q) : tSl r te tl th σ H Q := h
theorem i_part (h : te σ H fun x H1 => ∃ i, x = .int i ∧ R (some i) H1) : tPart te σ H R := h
theorem i_partI {n : Int} {P : Int → Prop} (h : P n) : ∃ i, V.int n = .int i ∧ P i := ⟨n, rfl, h⟩
theorem i_noPart (h : R none H) : tNoPart σ H R := h
theorem i_slL (h : SqL K H a xs) (q : New H fun p => Q (.ref p) (upd H p (.lst (cutV xs lo hi)))) : rSlL K (.ref a) lo hi H Q :=
  ⟨a, xs, rfl, h, q⟩
end
theorem cutV_mid {xs : List V} {i j : Int} (h : 0 ≤ i ∧ i ≤ j ∧ j ≤ xs.length) :
    cutV xs (some i) (some j) = (xs.drop i.toNat).take (j.toNat - i.toNat) := by
  obtain ⟨a, rfl⟩ := Int.eq_ofNat_of_zero_le h.1
  obtain ⟨c, rfl⟩ := Int.eq_ofNat_of_zero_le (Int.le_trans h.1 h.2.1)
  unfold cutV
  rw [HT.sIx_nat, HT.sIx_nat, Int.toNat_natCast, Int.toNat_natCast, Nat.min_eq_left (by omega), Nat.min_eq_left (by omega)]
theorem cutV_tail (x : V) (xs : List V) : cutV (x :: xs) (some 1) none = xs := by
  have e := HT.sIx_nat (x :: xs).length 0 1
  unfold cutV
  rw [show ((1 : Int)) = ((1 : Nat) : Int) from rfl, e, HT.sIx_none, List.length_cons, Nat.min_eq_left (by omega), List.drop_succ_cons, List.drop_zero]
  exact List.take_of_length_le (by omega)
theorem ix_nat {n j : Nat} (h : j < n) : ixN n (j : Int) = some j := by
  unfold ixN
  rw [if_pos (by omega), if_pos (by omega), Int.toNat_natCast]
theorem ix_int {n : Nat} {j : Int} (h0 : 0 ≤ j) (h : j < n) : ixN n j = some j.toNat := by
  unfold ixN
  rw [if_pos h0, if_pos h]
/-- one of two -/
theorem at_two {f : Nat → V} {r : Int} (h0 : 0 ≤ r) (h1 : r < 2) : atI [f 0, f 1] r = some (f r.toNat) := by
  have e : r = 0 ∨ r = 1 := by omega
  rcases e with rfl | rfl <;> rfl
end G
set_option Elab.async false
set_option linter.all false
set_option maxRecDepth 100000
set_option maxHeartbeats 4000000
namespace My
open PySem L2 G
local macro_rules | `(tactic| walk_at "g_tr") => `(tactic| first
  | with_reducible assumption
  | (with_reducible exact tr_of (by with_reducible assumption))
  | with_reducible exact tr_same
  | ((with_reducible refine tr_upd ?_); walk_at "g_tr")
  | (with_reducible exact tr_pot (by with_reducible assumption))
  | (with_reducible exact tr_ld (by with_reducible assumption))
  | ((with_reducible apply tr_kp (by with_reducible assumption) ?h); (case h => walk_at "g_tr")))
local macro_rules | `(tactic| walk_at "g_ne") => `(tactic| first
  | with_reducible assumption
  | (with_reducible exact Ne.symm (by with_reducible assumption))
  | ((with_reducible apply fr_tr ?h (by with_reducible assumption)); (case h => walk_at "g_tr"))
  | ((with_reducible apply Ne.symm (fr_tr ?h (by with_reducible assumption))); (case h => walk_at "g_tr")))
local macro_rules | `(tactic| walk_at "g_hp") => `(tactic| first
  | with_reducible assumption
  | with_reducible apply upd_same
  | ((with_reducible apply upd_nn ?h ?k); (case h => walk_at "g_ne"); (case k => walk_at "g_hp"))
  | ((with_reducible apply kp_at (by with_reducible assumption) ?h ?n); (case n => walk_at "g_ni"); (case h => walk_at "g_hp")))
local macro_rules | `(tactic| walk_at "g_ni") => `(tactic| first
  | exact not_nil
  | with_reducible assumption
  | ((with_reducible refine not_one ?_); walk_at "g_ne")
  | ((with_reducible refine not_two ?_ ?_) <;> walk_at "g_ne"))
local macro_rules | `(tactic| walk_at "g_pot") => `(tactic| first
  | with_reducible assumption
  | ((with_reducible apply pot_upd ?h ?n); (case n => walk_at "g_ne"); (case h => walk_at "g_pot"))
  | ((with_reducible apply PotAt.kp ?h (by with_reducible assumption) ?n); (case n => walk_at "g_ni"); (case h => walk_at "g_pot")))
local macro_rules | `(tactic| walk_at "g_ld") => `(tactic| first
  | with_reducible assumption
  | ((with_reducible apply ld_upd ?h ?i ?n); (case n => walk_at "g_fr"); (case i => walk_at "g_im"); (case h => walk_at "g_ld"))
  | ((with_reducible apply ld_upl ?h ?i ?n ?m); (case n => walk_at "g_hp"); (case m => walk_at "g_ne"); (case i => walk_at "g_im"); (case h => walk_at "g_ld"))
  | ((with_reducible apply ld_ins ?h ?i ?n); (case n => walk_at "g_hp"); (case i => walk_at "g_im"); (case h => walk_at "g_ld"))
  | ((with_reducible apply LD.kp ?h (by with_reducible assumption) ?i ?n); (case n => walk_at "g_ni"); (case i => walk_at "g_im"); (case h => walk_at "g_ld")))
local macro_rules | `(tactic| walk_at "g_im") => `(tactic| first
  | with_reducible assumption
  | exact imms_d2 _
  | rfl)
local macro_rules | `(tactic| walk_at "g_fx") => `(tactic| first
  | with_reducible assumption
  | with_reducible exact fx_refl
  | ((with_reducible apply fx_new ?h ?f); (case f => with_reducible assumption); (case h => walk_at "g_fx"))
  | ((with_reducible apply fx_mut ?h ?f ?g); (case f => walk_at "g_hp"); (case g => exact fun z => z); (case h => walk_at "g_fx"))
  | ((with_reducible apply fx_kp (by with_reducible assumption) ?h); (case h => walk_at "g_fx")))
local macro_rules | `(tactic| walk_at "g_st") => `(tactic| first
  | with_reducible assumption
  | ((with_reducible apply Fx.seqT ?k (by with_reducible assumption)); (case k => walk_at "g_fx"))
  | ((with_reducible apply SqT.of ?h); (case h => walk_at "g_hp")))
local macro_rules | `(tactic| walk_at "g_sq") => `(tactic| first
  | with_reducible assumption
  | ((with_reducible apply SqL.of ?h); (case h => walk_at "g_hp"))
  | ((with_reducible apply sqL_new ?h (by with_reducible assumption)); (case h => walk_at "g_sq"))
  | ((with_reducible apply sqL_kp (by with_reducible assumption) ?h ?n); (case h => walk_at "g_sq"); (case n => walk_at "g_ni")))
local macro_rules | `(tactic| walk_at "g_kp") => `(tactic| first
  | with_reducible assumption
  | with_reducible exact Kp.refl
  | with_reducible exact Kp.wide (by with_reducible assumption)
  | ((with_reducible apply Kp.trans ?k (by with_reducible assumption)); (case k => walk_at "g_kp"))
  | ((with_reducible apply Kp.trans ?k (Kp.wide (by with_reducible assumption))); (case k => walk_at "g_kp"))
  | ((with_reducible apply Kp.trans ?k (Kp.mono (by with_reducible assumption) ?m)); (case m => simp only [List.mem_cons, List.not_mem_nil, or_false, forall_eq, true_or, or_true, List.mem_singleton, implies_true]); (case k => walk_at "g_kp"))
  | ((with_reducible apply Kp.upd ?k ?h); (case h => walk_at "g_fr"); (case k => walk_at "g_kp"))
  | ((with_reducible apply Kp.upi ?k ?h ?m); (case h => walk_at "g_hp"); (case m => simp only [List.mem_cons, true_or, or_true]); (case k => walk_at "g_kp"))
  | ((with_reducible apply Kp.upm ?k ?h ?m); (case h => walk_at "g_hp"); (case m => simp only [List.mem_cons, true_or, or_true]); (case k => walk_at "g_kp")))
local macro_rules | `(tactic| walk_at "g_old") => `(tactic| first
  | with_reducible exact Old.refl
  | ((with_reducible apply old_upd ?k); (case k => walk_at "g_old"))
  | ((with_reducible apply old_kp (by with_reducible assumption) ?k); (case k => walk_at "g_old")))
local macro_rules | `(tactic| walk_at "g_fr") => `(tactic| first
  | with_reducible assumption
  | ((with_reducible apply fr_of (by with_reducible assumption) ?o); (case o => walk_at "g_old")))
local macro_rules | `(tactic| walk_at "g_at") => `(tactic| first
  | assumption
  | exact atI_last _ _
  | exact at_zero
  | rfl)
local macro_rules | `(tactic| walk_at "g_sz") => `(tactic| first
  | assumption
  | ((with_reducible apply small_sz); (try simp only [List.length_append, List.length_cons, List.length_nil]); omega))
local macro_rules | `(tactic| walk_at "g1") => `(tactic| first
  | (with_reducible refine i_seq ?_)
  | (with_reducible refine i_set ?_)
  | ((with_reducible apply i_var ?h ?_); (case h => exact rfl))
  | (with_reducible refine i_c ?_)
  | (with_reducible refine i_ret ?_)
  | (with_reducible refine i_op ?_)
  | (with_reducible refine i_addI ?_)
  | (with_reducible refine i_I0 ?_)
  | (with_reducible refine i_ifS ?_)
  | (with_reducible refine i_test ?_)
  | (with_reducible refine i_bl ?_)
  | (with_reducible refine i_eqI ?_)
  | (with_reducible refine i_neI ?_)
  | (with_reducible refine i_eqS ?_)
  | (with_reducible refine i_neS ?_)
  | (with_reducible refine i_and ?_)
  | (with_reducible refine i_or ?_)
  | (with_reducible refine i_not ?_)
  | (with_reducible refine i_asg ?_)
  | (with_reducible refine i_drop ?_)
  | (with_reducible refine i_cons ?_)
  | (with_reducible refine i_nil ?_)
  | (with_reducible refine i_tup ?_)
  | (with_reducible refine i_lst ?_)
  | (with_reducible refine i_few (by simp only [List.length_cons, List.length_nil]; decide) ?_)
  | (with_reducible refine i_CB ?_)
  | (with_reducible refine i_call0 ?_)
  | (with_reducible refine i_call ?_)
  | (with_reducible refine i_BM ?_)
  | (with_reducible refine i_BM0 ?_)
  | (with_reducible refine i_un ?_)
  | (with_reducible refine i_U ?_)
  | (with_reducible refine i_iteT ?_)
  | (with_reducible refine i_iteF ?_)
  | (with_reducible refine i_next ?_)
  | (with_reducible refine i_retN ?_)
  | (with_reducible refine i_brk ?_)
  | (with_reducible refine i_cont ?_)
  | ((with_reducible apply i_aug ?h ?_); (case h => exact rfl))
  | (with_reducible refine i_ipI ?_)
  | (with_reducible refine i_par ?_)
  | (with_reducible refine i_two ?_)
  | (with_reducible refine i_B ?_)
  | (with_reducible refine i_andV ?_)
  | (with_reducible refine i_orV ?_)
  | (with_reducible refine i_notV ?_)
  | (with_reducible refine i_ifE ?_)
  | (with_reducible refine i_chain ?_)
  | (with_reducible refine i_forL ?_)
  | (with_reducible refine i_forR ?_)
  | (with_reducible refine i_lcL ?_)
  | (with_reducible refine i_lcR ?_)
  | ((with_reducible refine i_wipe ?e ?_); (case e => rfl))
  | (with_reducible refine i_yes ?_)
  | ((with_reducible apply i_tyL ?h ?_); (case h => walk_at "g_sq"))
  | ((with_reducible apply i_app ?h ?g ?_); (case h => walk_at "g_hp"); (case g => walk_at "g_sz"))
  | ((with_reducible apply i_lenO ?h ?g ?_); (case h => walk_at "g_hp"); (case g => exact rfl))
  | ((with_reducible apply i_lenL ?h ?_); (case h => walk_at "g_sq"))
  | ((with_reducible apply i_lenT ?h ?_); (case h => walk_at "g_st"))
  | ((with_reducible apply i_gTup ?h ?g ?_); (case h => walk_at "g_st"); (case g => rfl))
  | ((with_reducible apply i_setL ?h ?g ?_); (case h => walk_at "g_hp"); (case g => first | (simp only [List.length_append, List.length_cons, List.length_nil]; exact ix_last _) | (simp only [List.length_cons]; exact ix_zero _) | rfl))
  | (with_reducible refine i_gCons ?_)
  | (with_reducible refine i_gNil ?_)
  | (with_reducible refine i_gName ?_)
  | (with_reducible refine i_gSub ?_)
  | (with_reducible refine i_revL ?_)
  | ((with_reducible apply i_revd ?h ?g); (case h => walk_at "g_sq"))
  | ((with_reducible apply i_ins0 ?h ?g ?k); (case h => walk_at "g_hp"); (case g => walk_at "g_sz"))
  | ((with_reducible apply i_ixS (by with_reducible assumption) ?k ?g ?_); (case k => walk_at "g_fx"); (case g => walk_at "g_at"))
  | ((with_reducible apply i_ixO ?h ?g ?_); (case h => walk_at "g_hp"); (case g => walk_at "g_at"))
  | ((with_reducible apply i_ixL ?h ?g ?_); (case h => walk_at "g_sq"); (case g => walk_at "g_at"))
  | (with_reducible refine i_abs ?_)
  | (with_reducible refine i_max2 ?_)
  | (with_reducible refine i_min2 ?_)
  | (with_reducible refine i_pw6 ?_)
  | (with_reducible refine i_pw16 ?_)
  | (with_reducible refine i_pw18 ?_)
  | (with_reducible refine i_pw58 ?_)
  | (with_reducible refine i_pw59 ?_)
  | (with_reducible refine i_pw60 ?_)
  | (with_reducible refine i_pw61 ?_)
  | ((with_reducible refine i_mod ?c ?_); (case c => omega))
  | ((with_reducible refine i_div ?c ?d ?_); (case c => omega); (case d => omega))
  | ((with_reducible refine i_dm ?c ?d ?_); (case c => omega); (case d => omega))
  | ((with_reducible apply i_listL ?h ?g); (case h => walk_at "g_sq"))
  | ((with_reducible apply i_listT ?h ?g); (case h => walk_at "g_st"))
  | (with_reducible refine i_isNn ?_)
  | (with_reducible refine i_isNr ?_)
  | (with_reducible refine i_isNi ?_)
  | (with_reducible refine i_notNn ?_)
  | (with_reducible refine i_notNr ?_)
  | (with_reducible refine i_notNi ?_)
  | (with_reducible refine i_meth ?_)
  | (with_reducible refine i_methD ?_)
  | ((with_reducible apply i_methR ?h ?g ?_); (case h => walk_at "g_hp"); (case g => exact rfl))
  | (with_reducible refine i_methW ?_)
  | ((with_reducible apply i_methWR ?h ?g ?_); (case h => walk_at "g_hp"); (case g => exact rfl))
  | ((with_reducible apply i_lens ?h ?g ?_); (case h => exact rfl); (case g => exact rfl))
  | (with_reducible refine i_kw ?_)
  | (with_reducible refine i_mk ?_)
  | (with_reducible refine i_mkD ?_)
  | (with_reducible refine i_mkK ?_)
  | (with_reducible refine i_fld ?_)
  | ((with_reducible apply i_fldR ?h ?c ?n ?g ?_); (case h => walk_at "g_hp"); (case c => with_reducible assumption); (case n => with_reducible assumption); (case g => exact rfl))
  | (with_reducible refine i_fldS ?_)
  | ((with_reducible apply i_fldSR ?h ?c ?n ?g ?_); (case h => walk_at "g_hp"); (case c => with_reducible assumption); (case n => with_reducible assumption); (case g => exact fs_few (by rfl)))
  | (with_reducible refine i_gCut ?_)
  | (with_reducible refine i_sl ?_)
  | (with_reducible refine i_part ?_)
  | (with_reducible refine i_partI ?_)
  | (with_reducible refine i_noPart ?_)
  | ((with_reducible apply i_slL ?h ?_); (case h => walk_at "g_sq"))
  | (with_reducible refine i_forZ ?_)
  | (with_reducible refine i_lcZ ?_)
  | ((with_reducible apply i_addL ?h ?g ?z ?_); (case h => walk_at "g_hp"); (case g => walk_at "g_hp"); (case z => (try simp only [List.length_append, List.length_cons, List.length_nil, List.length_map]); omega))
  | ((with_reducible refine i_mulI ?c ?_); (case c => first | exact Or.inl ⟨by omega, by omega⟩ | exact Or.inr ⟨by omega, by omega⟩)))
local macro_rules | `(tactic| walk_at "gr") => `(tactic| first | ((walk_at "g1"); (walk_at "gr")) | skip)
local macro_rules | `(tactic| walk_at "gs") => `(tactic| (walk_at "gr"))

def top (i : Nat) : Stmt := PySem.Challenge.pw_forkthrift_k14_whole_copies_by_cells.main.body.getD i (.Pass ⟨0, 0, 0, 0⟩)
abbrev s_wall : Stmt := top 0
abbrev s_is_number : Stmt := top 11
abbrev s_is_whole : Stmt := top 12
abbrev s_is_size : Stmt := top 13
abbrev s_is_run : Stmt := top 14
abbrev s_are_runs : Stmt := top 15
abbrev s_joined : Stmt := top 16
abbrev s_cut_out : Stmt := top 17
abbrev s_want_size : Stmt := top 19
abbrev s_want_number : Stmt := top 20
abbrev s_want_cell : Stmt := top 21
abbrev s_want_stretch : Stmt := top 22
abbrev s_Memory_init : Stmt := inClass (top 23) 0
abbrev s_Memory_size : Stmt := inClass (top 23) 1
abbrev s_Memory_at : Stmt := inClass (top 23) 2
abbrev s_Memory_runs : Stmt := inClass (top 23) 3
abbrev s_Memory_lay : Stmt := inClass (top 23) 4
abbrev s_Memory_put : Stmt := inClass (top 23) 5
abbrev s_Memory_fill : Stmt := inClass (top 23) 6
abbrev s_Memory_bring : Stmt := inClass (top 23) 7
abbrev s_Memory_copied : Stmt := inClass (top 23) 8
abbrev s_Memory_eq : Stmt := inClass (top 23) 9
abbrev s_Memory_len : Stmt := inClass (top 23) 10
abbrev s_Memory_repr : Stmt := inClass (top 23) 11
abbrev s_memory_of : Stmt := top 24
abbrev s_law_pot : Stmt := top 26
abbrev s_law_draw : Stmt := top 27
abbrev s_law_place : Stmt := top 28
abbrev s_law_stretch : Stmt := top 29
abbrev s_law_runs_of : Stmt := top 30
abbrev s_law_done : Stmt := top 31
abbrev s_law_stands : Stmt := top 32
abbrev s_law : Stmt := top 33
/-- what the top leaves -/
structure Txt (K : PySem.W.Frag) (mg : Str → Option Value) where
  c_Memory : Addr
  cl_Memory : Cls K c_Memory
  mg_Memory : mg "Memory" = some (.ref c_Memory)
  na_Memory_pairs : NoAttr K c_Memory "pairs"
  na_Memory_wide : NoAttr K c_Memory "wide"
  a_wall : Addr
  d_wall : FuncData
  F_wall : FunD K "_wall" "_wall" (defArgs s_wall) (defBody s_wall) (defScope s_wall) [] ([] : List (Str × V)) a_wall d_wall
  m_wall : mg "_wall" = some (.ref a_wall)
  b_wall : BindsD K d_wall ["k"] []
  a_is_number : Addr
  d_is_number : FuncData
  F_is_number : FunD K "is_number" "is_number" (defArgs s_is_number) (defBody s_is_number) (defScope s_is_number) [] ([] : List (Str × V)) a_is_number d_is_number
  m_is_number : mg "is_number" = some (.ref a_is_number)
  b_is_number : BindsD K d_is_number ["thing"] []
  a_is_whole : Addr
  d_is_whole : FuncData
  F_is_whole : FunD K "is_whole" "is_whole" (defArgs s_is_whole) (defBody s_is_whole) (defScope s_is_whole) [] ([] : List (Str × V)) a_is_whole d_is_whole
  m_is_whole : mg "is_whole" = some (.ref a_is_whole)
  b_is_whole : BindsD K d_is_whole ["thing", "least", "most"] []
  a_is_size : Addr
  d_is_size : FuncData
  F_is_size : FunD K "is_size" "is_size" (defArgs s_is_size) (defBody s_is_size) (defScope s_is_size) [] ([] : List (Str × V)) a_is_size d_is_size
  m_is_size : mg "is_size" = some (.ref a_is_size)
  b_is_size : BindsD K d_is_size ["thing"] []
  a_is_run : Addr
  d_is_run : FuncData
  F_is_run : FunD K "is_run" "is_run" (defArgs s_is_run) (defBody s_is_run) (defScope s_is_run) [] ([] : List (Str × V)) a_is_run d_is_run
  m_is_run : mg "is_run" = some (.ref a_is_run)
  b_is_run : BindsD K d_is_run ["thing"] []
  a_are_runs : Addr
  d_are_runs : FuncData
  F_are_runs : FunD K "are_runs" "are_runs" (defArgs s_are_runs) (defBody s_are_runs) (defScope s_are_runs) [] ([] : List (Str × V)) a_are_runs d_are_runs
  m_are_runs : mg "are_runs" = some (.ref a_are_runs)
  b_are_runs : BindsD K d_are_runs ["thing", "size"] []
  a_joined : Addr
  d_joined : FuncData
  F_joined : FunD K "joined" "joined" (defArgs s_joined) (defBody s_joined) (defScope s_joined) [] ([] : List (Str × V)) a_joined d_joined
  m_joined : mg "joined" = some (.ref a_joined)
  b_joined : BindsD K d_joined ["pairs"] []
  a_cut_out : Addr
  d_cut_out : FuncData
  F_cut_out : FunD K "cut_out" "cut_out" (defArgs s_cut_out) (defBody s_cut_out) (defScope s_cut_out) [] ([] : List (Str × V)) a_cut_out d_cut_out
  m_cut_out : mg "cut_out" = some (.ref a_cut_out)
  b_cut_out : BindsD K d_cut_out ["pairs", "begin", "end"] []
  a_want_size : Addr
  d_want_size : FuncData
  F_want_size : FunD K "want_size" "want_size" (defArgs s_want_size) (defBody s_want_size) (defScope s_want_size) [] ([] : List (Str × V)) a_want_size d_want_size
  m_want_size : mg "want_size" = some (.ref a_want_size)
  b_want_size : BindsD K d_want_size ["thing"] []
  a_want_number : Addr
  d_want_number : FuncData
  F_want_number : FunD K "want_number" "want_number" (defArgs s_want_number) (defBody s_want_number) (defScope s_want_number) [] ([] : List (Str × V)) a_want_number d_want_number
  m_want_number : mg "want_number" = some (.ref a_want_number)
  b_want_number : BindsD K d_want_number ["thing"] []
  a_want_cell : Addr
  d_want_cell : FuncData
  F_want_cell : FunD K "want_cell" "want_cell" (defArgs s_want_cell) (defBody s_want_cell) (defScope s_want_cell) [] ([] : List (Str × V)) a_want_cell d_want_cell
  m_want_cell : mg "want_cell" = some (.ref a_want_cell)
  b_want_cell : BindsD K d_want_cell ["thing", "size"] []
  a_want_stretch : Addr
  d_want_stretch : FuncData
  F_want_stretch : FunD K "want_stretch" "want_stretch" (defArgs s_want_stretch) (defBody s_want_stretch) (defScope s_want_stretch) [] ([] : List (Str × V)) a_want_stretch d_want_stretch
  m_want_stretch : mg "want_stretch" = some (.ref a_want_stretch)
  b_want_stretch : BindsD K d_want_stretch ["begin", "end", "size"] []
  a_Memory_init : Addr
  d_Memory_init : FuncData
  F_Memory_init : FunD K "__init__" "Memory.__init__" (defArgs s_Memory_init) (defBody s_Memory_init) (defScope s_Memory_init) [] ([("number", V.int 0)] : List (Str × V)) a_Memory_init d_Memory_init
  mk_Memory : Mk K c_Memory a_Memory_init
  b_Memory_init : BindsD K d_Memory_init ["self", "size", "number"] [V.int 0]
  a_Memory_size : Addr
  d_Memory_size : FuncData
  F_Memory_size : FunD K "size" "Memory.size" (defArgs s_Memory_size) (defBody s_Memory_size) (defScope s_Memory_size) [] ([] : List (Str × V)) a_Memory_size d_Memory_size
  me_Memory_size : Meth K c_Memory "size" a_Memory_size
  b_Memory_size : BindsD K d_Memory_size ["self"] []
  a_Memory_at : Addr
  d_Memory_at : FuncData
  F_Memory_at : FunD K "at" "Memory.at" (defArgs s_Memory_at) (defBody s_Memory_at) (defScope s_Memory_at) [] ([] : List (Str × V)) a_Memory_at d_Memory_at
  me_Memory_at : Meth K c_Memory "at" a_Memory_at
  b_Memory_at : BindsD K d_Memory_at ["self", "cell"] []
  a_Memory_runs : Addr
  d_Memory_runs : FuncData
  F_Memory_runs : FunD K "runs" "Memory.runs" (defArgs s_Memory_runs) (defBody s_Memory_runs) (defScope s_Memory_runs) [] ([] : List (Str × V)) a_Memory_runs d_Memory_runs
  me_Memory_runs : Meth K c_Memory "runs" a_Memory_runs
  b_Memory_runs : BindsD K d_Memory_runs ["self"] []
  a_Memory_lay : Addr
  d_Memory_lay : FuncData
  F_Memory_lay : FunD K "lay" "Memory.lay" (defArgs s_Memory_lay) (defBody s_Memory_lay) (defScope s_Memory_lay) [] ([] : List (Str × V)) a_Memory_lay d_Memory_lay
  me_Memory_lay : Meth K c_Memory "lay" a_Memory_lay
  b_Memory_lay : BindsD K d_Memory_lay ["self", "begin", "pairs", "end"] []
  a_Memory_put : Addr
  d_Memory_put : FuncData
  F_Memory_put : FunD K "put" "Memory.put" (defArgs s_Memory_put) (defBody s_Memory_put) (defScope s_Memory_put) [] ([] : List (Str × V)) a_Memory_put d_Memory_put
  me_Memory_put : Meth K c_Memory "put" a_Memory_put
  b_Memory_put : BindsD K d_Memory_put ["self", "cell", "number"] []
  a_Memory_fill : Addr
  d_Memory_fill : FuncData
  F_Memory_fill : FunD K "fill" "Memory.fill" (defArgs s_Memory_fill) (defBody s_Memory_fill) (defScope s_Memory_fill) [] ([] : List (Str × V)) a_Memory_fill d_Memory_fill
  me_Memory_fill : Meth K c_Memory "fill" a_Memory_fill
  b_Memory_fill : BindsD K d_Memory_fill ["self", "begin", "end", "number"] []
  a_Memory_bring : Addr
  d_Memory_bring : FuncData
  F_Memory_bring : FunD K "bring" "Memory.bring" (defArgs s_Memory_bring) (defBody s_Memory_bring) (defScope s_Memory_bring) [] ([("source", V.non)] : List (Str × V)) a_Memory_bring d_Memory_bring
  me_Memory_bring : Meth K c_Memory "bring" a_Memory_bring
  b_Memory_bring : BindsD K d_Memory_bring ["self", "begin", "end", "to", "source"] [V.non]
  a_Memory_copied : Addr
  d_Memory_copied : FuncData
  F_Memory_copied : FunD K "copied" "Memory.copied" (defArgs s_Memory_copied) (defBody s_Memory_copied) (defScope s_Memory_copied) [] ([] : List (Str × V)) a_Memory_copied d_Memory_copied
  me_Memory_copied : Meth K c_Memory "copied" a_Memory_copied
  b_Memory_copied : BindsD K d_Memory_copied ["self"] []
  a_Memory_eq : Addr
  d_Memory_eq : FuncData
  F_Memory_eq : FunD K "__eq__" "Memory.__eq__" (defArgs s_Memory_eq) (defBody s_Memory_eq) (defScope s_Memory_eq) [] ([] : List (Str × V)) a_Memory_eq d_Memory_eq
  me_Memory_eq : Meth K c_Memory "__eq__" a_Memory_eq
  b_Memory_eq : BindsD K d_Memory_eq ["self", "other"] []
  a_Memory_len : Addr
  d_Memory_len : FuncData
  F_Memory_len : FunD K "__len__" "Memory.__len__" (defArgs s_Memory_len) (defBody s_Memory_len) (defScope s_Memory_len) [] ([] : List (Str × V)) a_Memory_len d_Memory_len
  me_Memory_len : Meth K c_Memory "__len__" a_Memory_len
  b_Memory_len : BindsD K d_Memory_len ["self"] []
  a_Memory_repr : Addr
  d_Memory_repr : FuncData
  F_Memory_repr : FunD K "__repr__" "Memory.__repr__" (defArgs s_Memory_repr) (defBody s_Memory_repr) (defScope s_Memory_repr) [] ([] : List (Str × V)) a_Memory_repr d_Memory_repr
  me_Memory_repr : Meth K c_Memory "__repr__" a_Memory_repr
  b_Memory_repr : BindsD K d_Memory_repr ["self"] []
  a_memory_of : Addr
  d_memory_of : FuncData
  F_memory_of : FunD K "memory_of" "memory_of" (defArgs s_memory_of) (defBody s_memory_of) (defScope s_memory_of) [] ([] : List (Str × V)) a_memory_of d_memory_of
  m_memory_of : mg "memory_of" = some (.ref a_memory_of)
  b_memory_of : BindsD K d_memory_of ["runs"] []
  a_law_pot : Addr
  d_law_pot : FuncData
  F_law_pot : FunD K "_law_pot" "_law_pot" (defArgs s_law_pot) (defBody s_law_pot) (defScope s_law_pot) [] ([] : List (Str × V)) a_law_pot d_law_pot
  m_law_pot : mg "_law_pot" = some (.ref a_law_pot)
  b_law_pot : BindsD K d_law_pot ["_law_script", "_law_k"] []
  a_law_draw : Addr
  d_law_draw : FuncData
  F_law_draw : FunD K "_law_draw" "_law_draw" (defArgs s_law_draw) (defBody s_law_draw) (defScope s_law_draw) [] ([] : List (Str × V)) a_law_draw d_law_draw
  m_law_draw : mg "_law_draw" = some (.ref a_law_draw)
  b_law_draw : BindsD K d_law_draw ["_law_pot_here", "_law_many"] []
  a_law_place : Addr
  d_law_place : FuncData
  F_law_place : FunD K "_law_place" "_law_place" (defArgs s_law_place) (defBody s_law_place) (defScope s_law_place) [] ([] : List (Str × V)) a_law_place d_law_place
  m_law_place : mg "_law_place" = some (.ref a_law_place)
  b_law_place : BindsD K d_law_place ["_law_pot_here", "_law_most"] []
  a_law_stretch : Addr
  d_law_stretch : FuncData
  F_law_stretch : FunD K "_law_stretch" "_law_stretch" (defArgs s_law_stretch) (defBody s_law_stretch) (defScope s_law_stretch) [] ([] : List (Str × V)) a_law_stretch d_law_stretch
  m_law_stretch : mg "_law_stretch" = some (.ref a_law_stretch)
  b_law_stretch : BindsD K d_law_stretch ["_law_pot_here", "_law_most"] []
  a_law_runs_of : Addr
  d_law_runs_of : FuncData
  F_law_runs_of : FunD K "_law_runs_of" "_law_runs_of" (defArgs s_law_runs_of) (defBody s_law_runs_of) (defScope s_law_runs_of) [] ([] : List (Str × V)) a_law_runs_of d_law_runs_of
  m_law_runs_of : mg "_law_runs_of" = some (.ref a_law_runs_of)
  b_law_runs_of : BindsD K d_law_runs_of ["_law_cells_told"] []
  a_law_done : Addr
  d_law_done : FuncData
  F_law_done : FunD K "_law_done" "_law_done" (defArgs s_law_done) (defBody s_law_done) (defScope s_law_done) [] ([] : List (Str × V)) a_law_done d_law_done
  m_law_done : mg "_law_done" = some (.ref a_law_done)
  b_law_done : BindsD K d_law_done ["_law_pot_here", "_law_both", "_law_lists"] []
  a_law_stands : Addr
  d_law_stands : FuncData
  F_law_stands : FunD K "_law_stands" "_law_stands" (defArgs s_law_stands) (defBody s_law_stands) (defScope s_law_stands) [] ([] : List (Str × V)) a_law_stands d_law_stands
  m_law_stands : mg "_law_stands" = some (.ref a_law_stands)
  b_law_stands : BindsD K d_law_stands ["_law_both", "_law_lists"] []
  a_law : Addr
  d_law : FuncData
  F_law : FunD K "law" "law" (defArgs s_law) (defBody s_law) (defScope s_law) [] ([] : List (Str × V)) a_law d_law
  m_law : mg "law" = some (.ref a_law)
  b_law : BindsD K d_law ["_law_script"] []
  kb_Memory_bring_4_source : KBnD K d_Memory_bring ["self", "begin", "end", "to", "source"] 4 ["source"] (fun vs zs => gp [0] vs [] zs)
  t_LARGEST : Tok
  g_LARGEST : mg "LARGEST" = some (.int 1000000000000000000 t_LARGEST)
  n_abs : mg "abs" = none
  n_all : mg "all" = none
  n_any : mg "any" = none
  n_bool : mg "bool" = none
  n_divmod : mg "divmod" = none
  n_int : mg "int" = none
  n_isinstance : mg "isinstance" = none
  n_len : mg "len" = none
  n_list : mg "list" = none
  n_max : mg "max" = none
  n_min : mg "min" = none
  n_range : mg "range" = none
  n_sum : mg "sum" = none
  n_tuple : mg "tuple" = none
  n_zip : mg "zip" = none
/-! ### pots and draws -/
def sp_law_pot (K : PySem.W.Frag) : Sp := fun vs H Q _ => ∃ (a : Addr) (ns : List Int) (i : Nat),
  vs = [.ref a, .int i] ∧ SqL K H a (ns.map V.int) ∧ i ≤ 100 ∧
  ∀ p H', Fr H p → Kp [] H H' → PotAt H' p → Q (.ref p) H'
theorem sc_law_pot : FnScope ["_law_script", "_law_k", "_law_cell"] ["_law_script", "_law_k"] (defScope s_law_pot) :=
  ⟨rfl, rfl, rfl, by decide +kernel, rfl, by decide +kernel, by decide +kernel⟩
theorem ok_law_pot {P : Program} {w : World} {K : PySem.W.Frag} {mg : Str → Option Value} {base : Heap} (T : Txt K mg) :
    FnG P w K mg base 1 T.a_law_pot T.d_law_pot ["_law_script", "_law_k"] (sp_law_pot K) := by
  refine okD T.F_law_pot sc_law_pot (fun vs H Q E h => ?_) (fun cdv A outer s H vs Q E hr h => ?_)
  · first
      | (obtain ⟨_, rfl, _⟩ := h; rfl)
      | (obtain ⟨_, _, rfl, _⟩ := h; rfl)
      | (obtain ⟨_, _, _, rfl, _⟩ := h; rfl)
      | (obtain ⟨_, _, _, _, rfl, _⟩ := h; rfl)
      | (obtain ⟨_, _, _, _, _, rfl, _⟩ := h; rfl)
      | (obtain ⟨_, _, _, _, _, _, rfl, _⟩ := h; rfl)
      | (obtain ⟨_, _, _, _, _, _, _, rfl, _⟩ := h; rfl)
      | (obtain ⟨_, _, _, _, _, _, _, _, rfl, _⟩ := h; rfl)
      | (obtain ⟨_, _, _, _, _, _, _, _, _, rfl, _⟩ := h; rfl)
      | (obtain ⟨_, _, _, _, _, _, _, _, _, _, rfl, _⟩ := h; rfl)
      | (obtain ⟨_, _, _, _, _, _, _, _, _, _, _, rfl, _⟩ := h; rfl)
  · obtain ⟨a, ns, i, rfl, hsq, hi, k⟩ := h
    refine ⟨_, (pss_cons (ps_set (i := 2) sc_law_pot.nd rfl (Or.inl rfl) (pe_ifExp (pt_cmpR op_lt (pv 1) (pe_callB (k_len (K := K) rfl) (by rfl) T.n_len (by decide +kernel) (pa_cons (pv 0) pa_nil)) (nomark _)) (pe_ix (k_ix (K := K) rfl) (pv 0) (pv 1) (fun _ _ => rfl)) (pe_op (k_add (K := K) rfl) (pe_op o_mul pe_int (pv 1)) pe_int)))
      (pss_one (ps_ret (pe_lst (pa_cons (pe_callB (c_max2 rfl) (by rfl) T.n_max (by decide +kernel) (pa_cons pe_int (pa_cons (pe_op op_sub (pe_callB c_abs (by rfl) T.n_abs (by decide +kernel) (pa_cons (pv 2) pa_nil)) (pe_op o_pow pe_int pe_int)) pa_nil))) (pa_cons (pe_op (k_add (K := K) rfl) (pe_op (k_add (K := K) rfl) (pe_op o_mod (pe_callB c_abs (by rfl) T.n_abs (by decide +kernel) (pa_cons (pv 2) pa_nil)) pe_int) (pe_op o_mul pe_int (pv 1))) pe_int) pa_nil)))))), ?_⟩
    dsimp only [cxOf, st_1, st_2, st_3, st_4, st_5, st_6, List.length_cons, List.length_nil, List.replicate_succ, List.replicate_zero, Nat.reduceAdd, Nat.reduceSub]
    walk_at "gs"
    refine i_dec (fun h0 => ?_) (fun h0 => ?_)
    · rw [List.length_map] at h0
      have hx : (ns.map V.int)[i]? = some (V.int (ns[i]'(by omega))) := by simp
      have hat := atI_nat hx
      walk_at "gs"
      refine i_new fun p hp => ?_
      refine k p _ hp (Kp.new hp) ⟨_, _, upd_same, ?_, ?_, ?_⟩ <;> omega
    · walk_at "gs"
      refine i_new fun p hp => ?_
      refine k p _ hp (Kp.new hp) ⟨_, _, upd_same, ?_, ?_, ?_⟩ <;> omega
def sp_law_draw : Sp := fun vs H Q _ => ∃ (p : Addr) (n : Int), vs = [.ref p, .int n] ∧ PotAt H p ∧ 0 < n ∧
  n ≤ 10000000000000000000000000000000000000000000000000000000000000000000000 ∧
  ∀ r H', 0 ≤ r → r < n → PotAt H' p → Kp [p] H H' → Q (.int r) H'
theorem sc_law_draw : FnScope ["_law_pot_here", "_law_many", "_law_digit"] ["_law_pot_here", "_law_many"] (defScope s_law_draw) :=
  ⟨rfl, rfl, rfl, by decide +kernel, rfl, by decide +kernel, by decide +kernel⟩
theorem ok_law_draw {P : Program} {w : World} {K : PySem.W.Frag} {mg : Str → Option Value} {base : Heap} (T : Txt K mg) :
    FnG P w K mg base 1 T.a_law_draw T.d_law_draw ["_law_pot_here", "_law_many"] sp_law_draw := by
  refine okD T.F_law_draw sc_law_draw (fun vs H Q E h => ?_) (fun cdv A outer s H vs Q E hr h => ?_)
  · first
      | (obtain ⟨_, rfl, _⟩ := h; rfl)
      | (obtain ⟨_, _, rfl, _⟩ := h; rfl)
      | (obtain ⟨_, _, _, rfl, _⟩ := h; rfl)
      | (obtain ⟨_, _, _, _, rfl, _⟩ := h; rfl)
      | (obtain ⟨_, _, _, _, _, rfl, _⟩ := h; rfl)
      | (obtain ⟨_, _, _, _, _, _, rfl, _⟩ := h; rfl)
      | (obtain ⟨_, _, _, _, _, _, _, rfl, _⟩ := h; rfl)
      | (obtain ⟨_, _, _, _, _, _, _, _, rfl, _⟩ := h; rfl)
      | (obtain ⟨_, _, _, _, _, _, _, _, _, rfl, _⟩ := h; rfl)
      | (obtain ⟨_, _, _, _, _, _, _, _, _, _, rfl, _⟩ := h; rfl)
      | (obtain ⟨_, _, _, _, _, _, _, _, _, _, _, rfl, _⟩ := h; rfl)
  · obtain ⟨p, n, rfl, ⟨x, y, hp, hx, hy, hy2⟩, h0, h1, k⟩ := h
    refine ⟨_, (pss_cons (ps_if (pt_cmpR op_gt (pe_ix (k_ix (K := K) rfl) (pv 0) pe_int (fun _ _ => rfl)) pe_int (nomark _)) (pss_cons (ps_asg (pe_callB c_dm (by rfl) T.n_divmod (by decide +kernel) (pa_cons (pe_ix (k_ix (K := K) rfl) (pv 0) pe_int (fun _ _ => rfl)) (pa_cons (pv 1) pa_nil))) (k_gtup (K := K) 2 rfl rfl (pgs_cons (pg_sub (pv 0) pe_int set_list) (pgs_cons (pg_name (i := 2) sc_law_draw.nd rfl (Or.inl rfl)) pgs_nil))))
      (pss_one (ps_ret (pv 2)))) pss_nil)
      (pss_cons (ps_asg (pe_op o_mod (pe_op (k_add (K := K) rfl) (pe_op o_mul (pe_ix (k_ix (K := K) rfl) (pv 0) pe_int (fun _ _ => rfl)) pe_int) pe_int) pe_int) (pg_sub (pv 0) pe_int set_list))
      (pss_one (ps_ret (pe_op o_mod (pe_op o_div (pe_op o_mod (pe_op o_mul (pe_ix (k_ix (K := K) rfl) (pv 0) pe_int (fun _ _ => rfl)) (pe_ix (k_ix (K := K) rfl) (pv 0) pe_int (fun _ _ => rfl))) pe_int) pe_int) (pv 1)))))), ?_⟩
    dsimp only [cxOf, st_1, st_2, st_3, st_4, st_5, st_6, List.length_cons, List.length_nil, List.replicate_succ, List.replicate_zero, Nat.reduceAdd, Nat.reduceSub]
    walk_at "gs"
    refine i_dec (fun hx0 => ?_) (fun hx0 => ?_)
    · walk_at "gs"
      refine i_new fun q hq => ?_
      walk_at "gs"
      refine k _ _ (Int.emod_nonneg _ (by omega)) (Int.emod_lt_of_pos _ h0) ⟨_, _, upd_same, ?_, hy, hy2⟩ ?_
      · exact Int.ediv_nonneg hx (by omega)
      · walk_at "g_kp"
    · walk_at "gs"
      refine k _ _ (Int.emod_nonneg _ (by omega)) (Int.emod_lt_of_pos _ h0) ⟨_, _, upd_same, hx, ?_, ?_⟩ ?_
      · omega
      · omega
      · walk_at "g_kp"
theorem use_draw {H : Hp} {Q : VK} {E : XK} {p : Addr} {n : Int} (hp : PotAt H p) (h0 : 0 < n)
    (h1 : n ≤ 10000000000000000000000000000000000000000000000000000000000000000000000)
    (k : ∀ r H', 0 ≤ r → r < n → PotAt H' p → Kp [p] H H' → Q (.int r) H') :
    sp_law_draw [.ref p, .int n] H Q E := ⟨p, n, rfl, hp, h0, h1, k⟩

/-! ### joined -/
def jst (f : List (Int × Int)) (p : Int × Int) : List (Int × Int) :=
  if 0 < p.1 then
    match f.getLast? with
    | some q => if q.2 = p.2 then f.dropLast ++ [(q.1 + p.1, p.2)] else f ++ [p]
    | none => [p]
  else f
theorem jst_same {f0 : List (Int × Int)} {q0 p : Int × Int} (h0 : 0 < p.1) (h1 : q0.2 = p.2) :
    jst (f0 ++ [q0]) p = f0 ++ [(q0.1 + p.1, p.2)] := by
  unfold jst
  rw [if_pos h0]
  simp [h1]
theorem jst_other {f0 : List (Int × Int)} {q0 p : Int × Int} (h0 : 0 < p.1) (h1 : ¬ q0.2 = p.2) :
    jst (f0 ++ [q0]) p = f0 ++ [q0] ++ [p] := by
  unfold jst
  rw [if_pos h0]
  simp [h1]
theorem jst_nil {p : Int × Int} (h0 : 0 < p.1) : jst [] p = [p] := by
  unfold jst
  rw [if_pos h0]
  rfl
theorem jst_no {f : List (Int × Int)} {p : Int × Int} (h0 : ¬ 0 < p.1) : jst f p = f := by
  unfold jst
  rw [if_neg h0]
def jnd (ps : List (Int × Int)) : List (Int × Int) := ps.foldl jst []
theorem jst_len (f : List (Int × Int)) (p : Int × Int) : (jst f p).length ≤ f.length + 1 := by
  unfold jst
  split
  · split
    · split
      · rename_i q hq _
        simp only [List.length_append, List.length_dropLast, List.length_singleton]
        omega
      · simp
    · simp
  · omega
theorem jnd_take {ps : List (Int × Int)} {i : Nat} {p : Int × Int} (h : ps[i]? = some p) :
    jnd (ps.take (i + 1)) = jst (jnd (ps.take i)) p := by
  unfold jnd
  rw [List.take_add_one, h, List.foldl_append]
  rfl
theorem jnd_len : ∀ (ps : List (Int × Int)) (i : Nat), (jnd (ps.take i)).length ≤ i
  | ps, 0 => by simp [jnd]
  | ps, i + 1 => by
    cases h : ps[i]? with
    | none =>
      have e : ps.take (i + 1) = ps.take i := by
        rw [List.take_add_one, h]
        simp
      rw [e]
      have q := jnd_len ps i
      omega
    | some p =>
      rw [jnd_take h]
      have q := jnd_len ps i
      have q2 := jst_len (jnd (ps.take i)) p
      omega
def sp_joined (K : PySem.W.Frag) : Sp := fun vs H Q _ => ∃ (a : Addr) (ps : List (Int × Int)),
  vs = [.ref a] ∧ Dp K H (.ref a) (.list (ps.map d2)) ∧ ps.length ≤ 100000 ∧
  ∀ l H', Fr H l → Kp [] H H' → LD K H' l ((jnd ps).map d2) → Q (.ref l) H'
theorem sc_joined : FnScope ["pairs", "found", "many", "number"] ["pairs"] (defScope s_joined) :=
  ⟨rfl, rfl, rfl, by decide +kernel, rfl, by decide +kernel, by decide +kernel⟩
theorem ok_joined {P : Program} {w : World} {K : PySem.W.Frag} {mg : Str → Option Value} {base : Heap} (T : Txt K mg) :
    FnG P w K mg base 1 T.a_joined T.d_joined ["pairs"] (sp_joined K) := by
  refine okD T.F_joined sc_joined (fun vs H Q E h => ?_) (fun cdv A outer s H vs Q E hr h => ?_)
  · first
      | (obtain ⟨_, rfl, _⟩ := h; rfl)
      | (obtain ⟨_, _, rfl, _⟩ := h; rfl)
      | (obtain ⟨_, _, _, rfl, _⟩ := h; rfl)
      | (obtain ⟨_, _, _, _, rfl, _⟩ := h; rfl)
      | (obtain ⟨_, _, _, _, _, rfl, _⟩ := h; rfl)
      | (obtain ⟨_, _, _, _, _, _, rfl, _⟩ := h; rfl)
      | (obtain ⟨_, _, _, _, _, _, _, rfl, _⟩ := h; rfl)
      | (obtain ⟨_, _, _, _, _, _, _, _, rfl, _⟩ := h; rfl)
      | (obtain ⟨_, _, _, _, _, _, _, _, _, rfl, _⟩ := h; rfl)
      | (obtain ⟨_, _, _, _, _, _, _, _, _, _, rfl, _⟩ := h; rfl)
      | (obtain ⟨_, _, _, _, _, _, _, _, _, _, _, rfl, _⟩ := h; rfl)
  · obtain ⟨a, ps, rfl, ha, hps, k⟩ := h
    cases ha
    rename_i xs hsq hall
    have hlen := dpa_len hall
    rw [List.length_map] at hlen
    have cl_Memory := T.cl_Memory
    have na_Memory_pairs := T.na_Memory_pairs
    have na_Memory_wide := T.na_Memory_wide
    refine ⟨_, (pss_cons (ps_set (i := 1) sc_joined.nd rfl (Or.inl rfl) (pe_lst pa_nil))
      (pss_cons (ps_for (passes_of rfl) rfl (k_plist (K := K) rfl (pv 0)) (k_gtup (K := K) 2 rfl rfl (pgs_cons (pg_name (i := 2) sc_joined.nd rfl (Or.inl rfl)) (pgs_cons (pg_name (i := 3) sc_joined.nd rfl (Or.inl rfl)) pgs_nil)))
      (pss_one (ps_if (PW.pt (pw_and (pt_cmpR op_gt (pv 2) pe_int (nomark _)) (pw_and (pt_cmpR (k_ne (K := K) rfl hr.r.units) (pv 1) (pe_lst pa_nil) (nomark _)) (pw_and1 (pt_cmpR (k_eq (K := K) rfl hr.r.units) (pe_ix (k_ix (K := K) rfl) (pe_ix (k_ix (K := K) rfl) (pv 1) (pe_un un_neg pe_int) (fun _ _ => rfl)) pe_int (fun _ _ => rfl)) (pv 3) (nomark _)))))) (pss_one (ps_asg (pe_tup (pa_cons (pe_op (k_add (K := K) rfl) (pe_ix (k_ix (K := K) rfl) (pe_ix (k_ix (K := K) rfl) (pv 1) (pe_un un_neg pe_int) (fun _ _ => rfl)) pe_int (fun _ _ => rfl)) (pv 2)) (pa_cons (pv 3) pa_nil))) (pg_sub (pv 1) (pe_un un_neg pe_int) set_list))) (pss_one (ps_if (pt_cmpR op_gt (pv 2) pe_int (nomark _)) (pss_one (ps_expr (pe_bm PySem.F.plainAttrs_list PySem.F.slot_list_append PySem.F.type_list_append mt_append (pv 1) (pa_cons (pe_tup (pa_cons (pv 2) (pa_cons (pv 3) pa_nil))) pa_nil)))) pss_nil)))))
      (pss_one (ps_ret (pv 1))))), ?_⟩
    dsimp only [cxOf, st_1, st_2, st_3, st_4, st_5, st_6, List.length_cons, List.length_nil, List.replicate_succ, List.replicate_zero, Nat.reduceAdd, Nat.reduceSub]
    walk_at "gs"
    refine i_new fun l hl => ?_
    walk_at "gs"
    refine i_each ((Kp.new hl).seqL (ws := []) List.not_mem_nil hsq) (fun i σ H' => ∃ u v, σ = [some (.ref a), some (.ref l), u, v] ∧ Kp [] H H' ∧
      LD K H' l ((jnd (ps.take i)).map d2)) ?_ ?_ ?_ ?_
    · exact ⟨none, none, rfl, Kp.new hl, ⟨[], upd_same, .nil⟩⟩
    · rintro i σ H' _ ⟨u, v, rfl, kp, ld⟩
      exact kp.seqL List.not_mem_nil hsq
    · rintro i x σ H' hx ⟨u, v, rfl, kp, ld⟩
      obtain ⟨d, hd, hdp⟩ := dpa_getV hall hx
      obtain ⟨p, hp, rfl⟩ := map_get hd
      obtain ⟨pa, rfl, hpt⟩ := dp_pair hdp
      replace hpt := kp.seqT hpt
      obtain ⟨vs, hvs, hall2⟩ := id ld
      have hvl := dpa_len hall2
      rw [List.length_map] at hvl
      have hjl := jnd_len ps i
      have hil : i < ps.length := (List.getElem?_eq_some_iff.mp hp).1
      walk_at "gs"
      refine i_dec (fun h0 => ?_) (fun h0 => ?_)
      · walk_at "gs"
        refine i_new fun q hq => ?_
        walk_at "gs"
        refine ne_nil ld (imms_d2 _) (shaped_pairs _) hq ?_
        walk_at "gs"
        refine i_boN (fun e => ?_) (fun e => ?_)
        · obtain ⟨f0, q0, hF⟩ := list_last (l := jnd (ps.take i)) (by
            intro z
            rw [z] at e
            cases e)
          rw [hF, List.map_append] at hall2
          obtain ⟨us, x, rfl, hu, hx2⟩ := dpa_last hall2
          obtain ⟨qa, rfl, hqa⟩ := dp_pair hx2
          rw [List.length_append, List.length_singleton] at hvl
          walk_at "gs"
          refine i_dec (fun h1 => ?_) (fun h1 => ?_)
          · walk_at "gs"
            refine i_new fun t ht => ?_
            walk_at "gs"
            rw [set_last]
            refine ⟨_, _, rfl, ?_, _, upd_same, ?_⟩
            · walk_at "g_kp"
            · have kl : Kp [l] H' (upd (upd (upd H' q (.lst [])) t (.tup [.int (q0.1 + p.1), .int p.2])) l
                  (.lst (us ++ [V.ref t]))) := by walk_at "g_kp"
              rw [jnd_take hp, hF, jst_same h0 h1, List.map_append]
              exact dpa_app (dpa_imm kl _ _ (imms_d2 _) hu) (dpa_one (dp_mk2 (by walk_at "g_st")))
          · walk_at "gs"
            refine i_dec (fun _ => ?_) (fun z => absurd h0 z)
            walk_at "gs"
            refine i_new fun t ht => ?_
            walk_at "gs"
            refine ⟨_, _, rfl, ?_, _, upd_same, ?_⟩
            · walk_at "g_kp"
            · have kl : Kp [l] H' (upd (upd (upd H' q (.lst [])) t (.tup [.int p.1, .int p.2])) l
                  (.lst (us ++ [V.ref qa] ++ [V.ref t]))) := by walk_at "g_kp"
              rw [jnd_take hp, hF, jst_other h0 h1, List.map_append, List.map_append]
              exact dpa_app (dpa_app (dpa_imm kl _ _ (imms_d2 _) hu) (dpa_one (dp_imm kl _ _ rfl hx2))) (dpa_one (dp_mk2 (by walk_at "g_st")))
        · walk_at "gs"
          refine i_dec (fun _ => ?_) (fun z => absurd h0 z)
          walk_at "gs"
          refine i_new fun t ht => ?_
          walk_at "gs"
          have hF : jnd (ps.take i) = [] := by
            cases z : jnd (ps.take i) with
            | nil => rfl
            | cons x y =>
              rw [z] at e
              cases e
          rw [hF] at hall2
          cases hall2
          refine ⟨_, _, rfl, ?_, _, upd_same, ?_⟩
          · walk_at "g_kp"
          · rw [jnd_take hp, hF, jst_nil h0]
            exact dpa_one (dp_mk2 (by walk_at "g_st"))
      · walk_at "gs"
        refine i_dec (fun z => absurd z h0) (fun _ => ?_)
        walk_at "gs"
        refine ⟨_, _, rfl, kp, ?_⟩
        rw [jnd_take hp, jst_no h0]
        exact ld
    · rintro σ H' ⟨u, v, rfl, kp, ld⟩
      walk_at "gs"
      rw [List.take_of_length_le (by omega)] at ld
      exact k l H' hl kp ld

/-! ### counting from the back -/
def wst (f : List (Int × Int)) (p : Int × Int) : List (Int × Int) :=
  match f with
  | [] => [(0 + p.1, p.2)]
  | q :: t => if q.2 = p.2 then (q.1 + p.1, p.2) :: t else (0 + p.1, p.2) :: q :: t
def pos (p : Int × Int) : Bool := decide (0 < p.1)
def wrt (ps : List (Int × Int)) : List (Int × Int) := (ps.reverse.filter pos).foldl wst []
def wr : List (Int × Int) → List (Int × Int)
  | [] => []
  | p :: ps => if 0 < p.1 then wst (wr ps) p else wr ps
theorem wrt_eq (ps : List (Int × Int)) : wrt ps = wr ps := by
  induction ps with
  | nil => rfl
  | cons p ps ih =>
    unfold wrt at *
    rw [List.reverse_cons, List.filter_append, List.foldl_append, ih]
    by_cases h : 0 < p.1
    · simp [wr, h, pos]
    · simp [wr, h, pos]
/-- what is put ahead of the rest -/
def glue (f : List (Int × Int)) : List (Int × Int) → List (Int × Int)
  | [] => f
  | q :: t => jst f q ++ t
theorem wr_pos : ∀ (ps : List (Int × Int)) (q : Int × Int), q ∈ wr ps → 0 < q.1
  | [], _, h => nomatch h
  | p :: ps, q, h => by
    unfold wr at h
    by_cases hp : 0 < p.1
    · rw [if_pos hp] at h
      cases e : wr ps with
      | nil =>
        rw [e] at h
        simp only [wst, List.mem_singleton] at h
        rw [h]
        show 0 < 0 + p.1
        omega
      | cons x t =>
        have hx : 0 < x.1 := wr_pos ps x (by rw [e]; exact List.mem_cons_self)
        rw [e] at h
        unfold wst at h
        simp only at h
        by_cases hq : x.2 = p.2
        · rw [if_pos hq] at h
          rcases List.mem_cons.mp h with z | z
          · rw [z]
            show 0 < x.1 + p.1
            omega
          · exact wr_pos ps q (by rw [e]; exact List.mem_cons_of_mem _ z)
        · rw [if_neg hq] at h
          rcases List.mem_cons.mp h with z | z
          · rw [z]
            show 0 < 0 + p.1
            omega
          · exact wr_pos ps q (by rw [e]; exact z)
    · rw [if_neg hp] at h
      exact wr_pos ps q h
theorem jst_cases (f : List (Int × Int)) (p : Int × Int) (h : 0 < p.1) :
    (∃ f0 q0, f = f0 ++ [q0] ∧ q0.2 = p.2 ∧ jst f p = f0 ++ [(q0.1 + p.1, p.2)]) ∨
    ((∀ f0 q0, f = f0 ++ [q0] → q0.2 ≠ p.2) ∧ jst f p = f ++ [p]) := by
  by_cases e : f = []
  · subst e
    exact .inr ⟨fun f0 q0 z => by simp at z, jst_nil h⟩
  · obtain ⟨f0, q0, rfl⟩ := list_last e
    by_cases c : q0.2 = p.2
    · exact .inl ⟨f0, q0, rfl, c, jst_same h c⟩
    · refine .inr ⟨fun g0 r0 z => ?_, jst_other h c⟩
      have z2 := List.append_inj_right' z rfl
      cases z2
      exact c
theorem jst_two (f : List (Int × Int)) (p q : Int × Int) (hp : 0 < p.1) (hq : 0 < q.1) (e : q.2 = p.2) :
    jst (jst f p) q = jst f (q.1 + p.1, p.2) := by
  have h3 : 0 < ((q.1 + p.1, p.2) : Int × Int).1 := by
    show 0 < q.1 + p.1
    omega
  rcases jst_cases f p hp with ⟨f0, q0, rfl, c, z⟩ | ⟨c, z⟩
  · rw [z, jst_same (q0 := (q0.1 + p.1, p.2)) (p := q) hq e.symm, jst_same h3 c]
    congr 2
    rw [e]
    congr 1
    show q0.1 + p.1 + q.1 = q0.1 + (q.1 + p.1)
    omega
  · rw [z, jst_same hq e.symm]
    rcases jst_cases f (q.1 + p.1, p.2) h3 with ⟨f0, q0, rfl, c2, z2⟩ | ⟨c2, z2⟩
    · exact absurd c2 (c f0 q0 rfl)
    · rw [z2, e]
      congr 3
      omega
theorem fold_glue : ∀ (ps f : List (Int × Int)), ps.foldl jst f = glue f (wr ps)
  | [], f => rfl
  | p :: ps, f => by
    rw [List.foldl_cons, fold_glue ps (jst f p)]
    by_cases hp : 0 < p.1
    · have e : wr (p :: ps) = wst (wr ps) p := by
        show (if 0 < p.1 then wst (wr ps) p else wr ps) = _
        rw [if_pos hp]
      rw [e]
      cases h : wr ps with
      | nil =>
        show jst f p = jst f (0 + p.1, p.2) ++ []
        rw [Int.zero_add, List.append_nil]
      | cons q t =>
        have hq : 0 < q.1 := wr_pos ps q (by rw [h]; exact List.mem_cons_self)
        unfold wst
        simp only
        by_cases c : q.2 = p.2
        · rw [if_pos c]
          show jst (jst f p) q ++ t = jst f (q.1 + p.1, p.2) ++ t
          rw [jst_two f p q hp hq c]
        · rw [if_neg c]
          show jst (jst f p) q ++ t = jst f (0 + p.1, p.2) ++ (q :: t)
          rw [Int.zero_add]
          have z : jst (jst f p) q = jst f p ++ [q] := by
            rcases jst_cases f p hp with ⟨f0, q0, rfl, d, z⟩ | ⟨d, z⟩
            · rw [z, jst_other (q0 := (q0.1 + p.1, p.2)) (p := q) hq (fun k => c k.symm)]
            · rw [z, jst_other hq (fun k => c k.symm)]
          rw [z, List.append_assoc]
          rfl
    · have e : wr (p :: ps) = wr ps := by
        show (if 0 < p.1 then wst (wr ps) p else wr ps) = _
        rw [if_neg hp]
      rw [e, jst_no hp]
theorem jnd_wr (ps : List (Int × Int)) : jnd ps = wr ps := by
  unfold jnd
  rw [fold_glue]
  cases h : wr ps with
  | nil => rfl
  | cons q t =>
    have hq : 0 < q.1 := wr_pos ps q (by rw [h]; exact List.mem_cons_self)
    show jst [] q ++ t = q :: t
    rw [jst_nil hq]
    rfl
theorem wr_len : ∀ ps : List (Int × Int), (wr ps).length ≤ ps.length
  | [] => Nat.le_refl _
  | p :: ps => by
    have q := wr_len ps
    unfold wr
    split
    · cases h : wr ps with
      | nil => simp [wst]
      | cons x t =>
        rw [h] at q
        simp only [wst, List.length_cons] at *
        split <;> simp only [List.length_cons] <;> omega
    · rw [List.length_cons]
      omega
/-- told again of what was told it is the same -/
theorem wst_wr (f : List (Int × Int)) (p : Int × Int) (hp : 0 < p.1) (hf : wr f = f)
    (hpos : ∀ q ∈ f, 0 < q.1) : wr (wst f p) = wst f p := by
  cases f with
  | nil =>
    show (if 0 < 0 + p.1 then wst [] (0 + p.1, p.2) else []) = [(0 + p.1, p.2)]
    rw [Int.zero_add, if_pos hp]
    simp [wst]
  | cons q t =>
    have hq := hpos q List.mem_cons_self
    have ht : wst (wr t) q = q :: t := by
      have z : (if 0 < q.1 then wst (wr t) q else wr t) = q :: t := hf
      rwa [if_pos hq] at z
    unfold wst
    simp only
    by_cases c : q.2 = p.2
    · rw [if_pos c]
      show (if 0 < q.1 + p.1 then wst (wr t) (q.1 + p.1, p.2) else wr t) = _
      rw [if_pos (by omega)]
      cases e : wr t with
      | nil =>
        rw [e] at ht
        simp only [wst, List.cons.injEq] at ht
        simp [wst, ← ht.2]
      | cons x u =>
        rw [e] at ht
        unfold wst at ht ⊢
        simp only at ht ⊢
        by_cases d : x.2 = q.2
        · rw [if_pos d] at ht
          have hu : wr t = t := by
            have l1 := wr_len t
            rw [e] at l1
            have l2 := congrArg List.length ht
            simp only [List.length_cons] at l1 l2
            omega
          rw [hu] at e
          subst e
          have l2 := congrArg List.length ht
          simp only [List.length_cons] at l2
          omega
        · rw [if_neg d] at ht
          rw [if_neg (by rw [← c]; exact d)]
          rw [Int.zero_add]
          have z := (List.cons.inj ht).2
          rw [z]
    · rw [if_neg c]
      show (if 0 < 0 + p.1 then wst (wr (q :: t)) (0 + p.1, p.2) else wr (q :: t)) = _
      rw [Int.zero_add, if_pos hp, hf]
      unfold wst
      simp only
      rw [if_neg c, Int.zero_add]
theorem wr_wr : ∀ ps : List (Int × Int), wr (wr ps) = wr ps
  | [] => rfl
  | p :: ps => by
    have e : wr (p :: ps) = if 0 < p.1 then wst (wr ps) p else wr ps := rfl
    rw [e]
    split
    · exact wst_wr _ _ (by assumption) (wr_wr ps) (wr_pos ps)
    · exact wr_wr ps

/-! ### runs and cells -/
def rle (cs : List Int) : List (Int × Int) := wr (cs.map tag)
theorem cells_nil : cells [] = [] := rfl
theorem cells_cons (p : Int × Int) (ps : List (Int × Int)) : cells (p :: ps) = List.replicate p.1.toNat p.2 ++ cells ps := rfl
theorem cells_app (ps qs : List (Int × Int)) : cells (ps ++ qs) = cells ps ++ cells qs := List.flatMap_append
theorem cells_tag : ∀ cs : List Int, cells (cs.map tag) = cs
  | [] => rfl
  | c :: cs => by
    rw [List.map_cons, cells_cons, cells_tag cs]
    rfl
theorem cells_wst (f : List (Int × Int)) (p : Int × Int) (hp : 0 < p.1) (hf : ∀ q ∈ f, 0 < q.1) :
    cells (wst f p) = List.replicate p.1.toNat p.2 ++ cells f := by
  cases f with
  | nil => simp [wst, cells_cons]
  | cons q t =>
    have hq := hf q List.mem_cons_self
    unfold wst
    simp only
    by_cases c : q.2 = p.2
    · rw [if_pos c, cells_cons, cells_cons]
      show List.replicate (q.1 + p.1).toNat p.2 ++ cells t = _
      have e : (q.1 + p.1).toNat = p.1.toNat + q.1.toNat := by omega
      rw [e, ← List.replicate_append_replicate, List.append_assoc, c]
    · rw [if_neg c, cells_cons]
      show List.replicate (0 + p.1).toNat p.2 ++ _ = _
      rw [Int.zero_add]
theorem cells_wr : ∀ ps : List (Int × Int), cells (wr ps) = cells ps
  | [] => rfl
  | p :: ps => by
    rw [cells_cons]
    unfold wr
    by_cases hp : 0 < p.1
    · rw [if_pos hp, cells_wst _ _ hp (wr_pos ps), cells_wr ps]
    · rw [if_neg hp, cells_wr ps]
      have e : p.1.toNat = 0 := by omega
      rw [e]
      rfl
theorem wst_more (f : List (Int × Int)) (n v : Int) (hn : 0 < n) : wst (wst f (n, v)) (1, v) = wst f (n + 1, v) := by
  cases f with
  | nil =>
    show wst [(0 + n, v)] (1, v) = [(0 + (n + 1), v)]
    unfold wst
    simp only [if_true]
    congr 2
    omega
  | cons q t =>
    by_cases c : q.2 = v
    · have e1 : wst (q :: t) (n, v) = (q.1 + n, v) :: t := by simp [wst, c]
      have e2 : wst (q :: t) (n + 1, v) = (q.1 + (n + 1), v) :: t := by simp [wst, c]
      have e3 : wst ((q.1 + n, v) :: t) (1, v) = (q.1 + n + 1, v) :: t := by simp [wst]
      rw [e1, e2, e3]
      congr 2
      omega
    · have e1 : wst (q :: t) (n, v) = (0 + n, v) :: q :: t := by simp [wst, c]
      have e2 : wst (q :: t) (n + 1, v) = (0 + (n + 1), v) :: q :: t := by simp [wst, c]
      have e3 : wst ((0 + n, v) :: q :: t) (1, v) = (0 + n + 1, v) :: q :: t := by simp [wst]
      rw [e1, e2, e3]
      congr 2
      omega
theorem wst_one (f : List (Int × Int)) (c : Int) : wr (tag c :: f) = wst (wr f) (1, c) := by
  show (if (0 : Int) < 1 then wst (wr f) (1, c) else wr f) = _
  rw [if_pos (by decide)]
theorem rle_rep (v : Int) (cs : List Int) : ∀ n : Nat, rle (List.replicate (n + 1) v ++ cs) = wst (rle cs) ((n : Int) + 1, v)
  | 0 => by
    show wr (tag v :: cs.map tag) = _
    rw [wst_one]
    rfl
  | n + 1 => by
    have ih := rle_rep v cs n
    have e : rle (List.replicate (n + 1 + 1) v ++ cs) = wst (rle (List.replicate (n + 1) v ++ cs)) (1, v) := by
      show wr (tag v :: (List.replicate (n + 1) v ++ cs).map tag) = _
      rw [wst_one]
      rfl
    rw [e, ih, wst_more _ _ _ (by omega)]
    congr 2
theorem wr_rle : ∀ ps : List (Int × Int), wr ps = rle (cells ps)
  | [] => rfl
  | p :: ps => by
    have ih := wr_rle ps
    rw [cells_cons]
    unfold wr
    by_cases hp : 0 < p.1
    · obtain ⟨n, hn⟩ : ∃ n : Nat, p.1.toNat = n + 1 := ⟨p.1.toNat - 1, by omega⟩
      rw [if_pos hp, hn, rle_rep, ih]
      congr 1
      have e : ((n : Int) + 1) = p.1 := by omega
      rw [e]
    · rw [if_neg hp]
      have e : p.1.toNat = 0 := by omega
      rw [e]
      exact ih
theorem cells_rle (cs : List Int) : cells (rle cs) = cs := by
  unfold rle
  rw [cells_wr, cells_tag]
theorem rle_len (cs : List Int) : (rle cs).length ≤ cs.length := by
  have h := wr_len (cs.map tag)
  rw [List.length_map] at h
  exact h
theorem rle_pos (cs : List Int) : ∀ q ∈ rle cs, 0 < q.1 := wr_pos _
theorem jnd_rle (ps : List (Int × Int)) : jnd ps = rle (cells ps) := by rw [jnd_wr, wr_rle]
theorem rle_inj {cs ds : List Int} (h : rle cs = rle ds) : cs = ds := by
  rw [← cells_rle cs, h, cells_rle]
theorem rle_ne {cs : List Int} (h : cs ≠ []) : rle cs ≠ [] := fun z => h (by rw [← cells_rle cs, z]; rfl)
/-- what of the pairs, that begin at a, lies between b and e -/
def cutF (b e : Int) : Int → List (Int × Int) → List (Int × Int)
  | _, [] => []
  | a, p :: t => (if max b a < min e (a + p.1) then [(min e (a + p.1) - max b a, p.2)] else []) ++ cutF b e (a + p.1) t
def cut (b e : Int) (ps : List (Int × Int)) : List (Int × Int) := cutF b e 0 ps
theorem cutF_len (b e : Int) : ∀ (a : Int) (ps : List (Int × Int)), (cutF b e a ps).length ≤ ps.length
  | _, [] => Nat.le_refl _
  | a, p :: t => by
    have h := cutF_len b e (a + p.1) t
    unfold cutF
    rw [List.length_append, List.length_cons]
    split <;> simp <;> omega
theorem cut_len (b e : Int) (ps : List (Int × Int)) : (cut b e ps).length ≤ ps.length := cutF_len b e 0 ps
theorem cutF_pos (b e : Int) : ∀ (a : Int) (ps : List (Int × Int)) (q : Int × Int), q ∈ cutF b e a ps → 0 < q.1
  | _, [], _, h => nomatch h
  | a, p :: t, q, h => by
    unfold cutF at h
    rcases List.mem_append.mp h with h | h
    · split at h
      · rw [List.mem_singleton.mp h]
        show 0 < min e (a + p.1) - max b a
        omega
      · exact nomatch h
    · exact cutF_pos b e (a + p.1) t q h
def wide (ps : List (Int × Int)) : Int := (ps.map (·.1)).sum
theorem cutF_app (b e : Int) : ∀ (a : Int) (ps : List (Int × Int)) (p : Int × Int), cutF b e a (ps ++ [p]) =
    cutF b e a ps ++ (if max b (a + wide ps) < min e (a + wide ps + p.1) then [(min e (a + wide ps + p.1) - max b (a + wide ps), p.2)] else [])
  | a, [], p => by
    have e0 : a + wide [] = a := Int.add_zero a
    rw [e0]
    show (if max b a < min e (a + p.1) then [(min e (a + p.1) - max b a, p.2)] else []) ++ [] = [] ++ _
    rw [List.append_nil, List.nil_append]
  | a, q :: t, p => by
    have ih := cutF_app b e (a + q.1) t p
    have e0 : a + wide (q :: t) = a + q.1 + wide t := by
      show a + (q.1 + wide t) = _
      omega
    rw [List.cons_append, e0]
    conv => lhs; unfold cutF
    rw [ih]
    conv => rhs; unfold cutF
    rw [List.append_assoc]
theorem cut_take {b e : Int} {ps : List (Int × Int)} {i : Nat} {p : Int × Int} (h : ps[i]? = some p) :
    cut b e (ps.take (i + 1)) = cut b e (ps.take i) ++ (if max b (wide (ps.take i)) < min e (wide (ps.take i) + p.1)
      then [(min e (wide (ps.take i) + p.1) - max b (wide (ps.take i)), p.2)] else []) := by
  unfold cut
  rw [List.take_add_one, h]
  have k := cutF_app b e 0 (ps.take i) p
  rw [Int.zero_add] at k
  exact k
theorem wide_take {ps : List (Int × Int)} {i : Nat} {p : Int × Int} (h : ps[i]? = some p) :
    wide (ps.take (i + 1)) = wide (ps.take i) + p.1 := by
  unfold wide
  rw [List.take_add_one, h, List.map_append, List.sum_append]
  simp
theorem cells_cutF (b e : Int) : ∀ (a : Int) (ps : List (Int × Int)), (∀ q ∈ ps, 0 ≤ q.1) →
    cells (cutF b e a ps) = ((cells ps).drop (b - a).toNat).take ((e - a).toNat - (b - a).toNat)
  | a, [], _ => by simp [cutF, cells]
  | a, p :: t, h => by
    have hp := h p List.mem_cons_self
    have ih := cells_cutF b e (a + p.1) t fun q hq => h q (List.mem_cons_of_mem _ hq)
    unfold cutF
    rw [cells_app, ih, cells_cons, List.drop_append, List.take_append, List.drop_replicate, List.take_replicate, List.length_replicate, List.length_replicate]
    congr 1
    · split
      · rw [cells_cons, cells_nil, List.append_nil]
        show List.replicate (min e (a + p.1) - max b a).toNat p.2 = _
        congr 1
        omega
      · have e0 : min ((e - a).toNat - (b - a).toNat) (p.1.toNat - (b - a).toNat) = 0 := by omega
        rw [e0]
        rfl
    · have e1 : (b - (a + p.1)).toNat = (b - a).toNat - p.1.toNat := by omega
      have e2 : (e - (a + p.1)).toNat - (b - (a + p.1)).toNat = (e - a).toNat - (b - a).toNat - (p.1.toNat - (b - a).toNat) := by omega
      rw [e2, e1]
theorem cells_cut {b e : Int} {ps : List (Int × Int)} (h : ∀ q ∈ ps, 0 ≤ q.1) :
    cells (cut b e ps) = ((cells ps).drop b.toNat).take (e.toNat - b.toNat) := by
  have k := cells_cutF b e 0 ps h
  rw [Int.sub_zero, Int.sub_zero] at k
  exact k
theorem cut_rle {b e : Int} {cs : List Int} : cells (cut b e (rle cs)) = (cs.drop b.toNat).take (e.toNat - b.toNat) := by
  rw [cells_cut fun q hq => Int.le_of_lt (rle_pos cs q hq), cells_rle]
theorem one_cell {ps : List (Int × Int)} {v : Int} (hp : ∀ q ∈ ps, 0 < q.1) (h : cells ps = [v]) : ps = [(1, v)] := by
  cases ps with
  | nil => cases h
  | cons p t =>
    have h0 := hp p List.mem_cons_self
    rw [cells_cons] at h
    have hl := congrArg List.length h
    rw [List.length_append, List.length_replicate, List.length_singleton] at hl
    have e1 : p.1.toNat = 1 := by omega
    have e2 : t = [] := by
      cases t with
      | nil => rfl
      | cons q u =>
        have h1 := hp q (List.mem_cons_of_mem _ List.mem_cons_self)
        rw [cells_cons, List.length_append, List.length_replicate] at hl
        omega
    rw [e1, e2, cells_nil, List.append_nil] at h
    cases h
    rw [e2]
    congr 1
    have e3 : p.1 = 1 := by omega
    rw [← e3]
theorem cut_at {cs : List Int} {c : Nat} {v : Int} (h : cs[c]? = some v) : cut c (c + 1) (rle cs) = [(1, v)] := by
  refine one_cell (cutF_pos _ _ _ _) ?_
  rw [cut_rle]
  obtain ⟨hc, e⟩ := List.getElem?_eq_some_iff.mp h
  have e1 : ((c : Int)).toNat = c := by omega
  have e2 : ((c : Int) + 1).toNat - c = 1 := by omega
  rw [e1, e2, List.drop_eq_getElem_cons hc, e]
  rfl
/-- laid over -/
def laid (cs : List Int) (b : Nat) (xs : List Int) (e : Nat) : List Int := cs.take b ++ xs ++ cs.drop e
theorem laid_rle {cs : List Int} {b e : Int} {ps : List (Int × Int)} :
    jnd (cut 0 b (rle cs) ++ ps ++ cut e cs.length (rle cs)) = rle (laid cs b.toNat (cells ps) e.toNat) := by
  rw [jnd_rle, cells_app, cells_app, cut_rle, cut_rle]
  unfold laid
  rw [List.take_of_length_le (l := cs.drop e.toNat) (by rw [List.length_drop]; omega)]
  rfl
theorem laid_len {cs xs : List Int} {b e : Nat} (h : b ≤ e) (he : e ≤ cs.length) (hx : xs.length = e - b) :
    (laid cs b xs e).length = cs.length := by
  unfold laid
  rw [List.length_append, List.length_append, List.length_take, List.length_drop, hx]
  omega

/-! ### numbers -/
def sp_is_number : Sp := fun vs H Q _ => ∃ n : Int, vs = [.int n] ∧ Q (.bl true) H
theorem sc_is_number : FnScope ["thing"] ["thing"] (defScope s_is_number) :=
  ⟨rfl, rfl, rfl, by decide +kernel, rfl, by decide +kernel, by decide +kernel⟩
theorem ok_is_number {P : Program} {w : World} {K : PySem.W.Frag} {mg : Str → Option Value} {base : Heap} (T : Txt K mg) :
    FnG P w K mg base 1 T.a_is_number T.d_is_number ["thing"] sp_is_number := by
  refine okD T.F_is_number sc_is_number (fun vs H Q E h => ?_) (fun cdv A outer s H vs Q E hr h => ?_)
  · first
      | (obtain ⟨_, rfl, _⟩ := h; rfl)
      | (obtain ⟨_, _, rfl, _⟩ := h; rfl)
      | (obtain ⟨_, _, _, rfl, _⟩ := h; rfl)
      | (obtain ⟨_, _, _, _, rfl, _⟩ := h; rfl)
      | (obtain ⟨_, _, _, _, _, rfl, _⟩ := h; rfl)
      | (obtain ⟨_, _, _, _, _, _, rfl, _⟩ := h; rfl)
      | (obtain ⟨_, _, _, _, _, _, _, rfl, _⟩ := h; rfl)
      | (obtain ⟨_, _, _, _, _, _, _, _, rfl, _⟩ := h; rfl)
      | (obtain ⟨_, _, _, _, _, _, _, _, _, rfl, _⟩ := h; rfl)
      | (obtain ⟨_, _, _, _, _, _, _, _, _, _, rfl, _⟩ := h; rfl)
      | (obtain ⟨_, _, _, _, _, _, _, _, _, _, _, rfl, _⟩ := h; rfl)
  · obtain ⟨n, rfl, k⟩ := h
    refine ⟨_, (pss_one (ps_ret (pe_and (pe_callB (k_isi (K := K) rfl) (by rfl) T.n_isinstance (by decide +kernel) (pa_cons (pv 0) (pa_cons (pe_bltn (v := .ty "int") (by rfl) T.n_int (by decide +kernel) rfl) pa_nil))) (pe_one (pe_not (pe_callB (k_isi (K := K) rfl) (by rfl) T.n_isinstance (by decide +kernel) (pa_cons (pv 0) (pa_cons (pe_bltn (v := .ty "bool") (by rfl) T.n_bool (by decide +kernel) rfl) pa_nil)))))))), ?_⟩
    dsimp only [cxOf, st_1, st_2, st_3, st_4, st_5, st_6, List.length_cons, List.length_nil, List.replicate_succ, List.replicate_zero, Nat.reduceAdd, Nat.reduceSub]
    walk_at "gs"
    refine i_isD (.int n) (show kitB "int" "int" = some true by decide +kernel) ?_
    walk_at "gs"
    refine i_isD (.int n) (show kitB "int" "bool" = some false by decide +kernel) ?_
    walk_at "gs"
    exact k
def sp_is_whole : Sp := fun vs H Q _ => ∃ n a b : Int, vs = [.int n, .int a, .int b] ∧ Q (.bl (decide (a ≤ n ∧ n ≤ b))) H
theorem sc_is_whole : FnScope ["thing", "least", "most"] ["thing", "least", "most"] (defScope s_is_whole) :=
  ⟨rfl, rfl, rfl, by decide +kernel, rfl, by decide +kernel, by decide +kernel⟩
theorem ok_is_whole {P : Program} {w : World} {K : PySem.W.Frag} {mg : Str → Option Value} {base : Heap} (T : Txt K mg) :
    FnG P w K mg base 2 T.a_is_whole T.d_is_whole ["thing", "least", "most"] sp_is_whole := by
  refine okD T.F_is_whole sc_is_whole (fun vs H Q E h => ?_) (fun cdv A outer s H vs Q E hr h => ?_)
  · first
      | (obtain ⟨_, rfl, _⟩ := h; rfl)
      | (obtain ⟨_, _, rfl, _⟩ := h; rfl)
      | (obtain ⟨_, _, _, rfl, _⟩ := h; rfl)
      | (obtain ⟨_, _, _, _, rfl, _⟩ := h; rfl)
      | (obtain ⟨_, _, _, _, _, rfl, _⟩ := h; rfl)
      | (obtain ⟨_, _, _, _, _, _, rfl, _⟩ := h; rfl)
      | (obtain ⟨_, _, _, _, _, _, _, rfl, _⟩ := h; rfl)
      | (obtain ⟨_, _, _, _, _, _, _, _, rfl, _⟩ := h; rfl)
      | (obtain ⟨_, _, _, _, _, _, _, _, _, rfl, _⟩ := h; rfl)
      | (obtain ⟨_, _, _, _, _, _, _, _, _, _, rfl, _⟩ := h; rfl)
      | (obtain ⟨_, _, _, _, _, _, _, _, _, _, _, rfl, _⟩ := h; rfl)
  · obtain ⟨n, a, b, rfl, k⟩ := h
    refine ⟨_, (pss_one (ps_ret (pe_and (d1 (ok_is_number T) (hr.mono (by decide)) (by rfl) T.m_is_number T.F_is_number.kp T.b_is_number passL (pa_cons (pv 0) pa_nil)) (pe_one (pe_chain op_le op_le (pv 1) (pv 0) (pv 2)))))), ?_⟩
    dsimp only [cxOf, st_1, st_2, st_3, st_4, st_5, st_6, List.length_cons, List.length_nil, List.replicate_succ, List.replicate_zero, Nat.reduceAdd, Nat.reduceSub]
    walk_at "gs"
    refine ⟨n, rfl, ?_⟩
    walk_at "gs"
    refine i_dec (fun c => ?_) (fun c => ?_)
    · walk_at "gs"
      have e : decide (n ≤ b) = decide (a ≤ n ∧ n ≤ b) := by simp only [c, true_and]
      rw [e]
      exact k
    · have e : false = decide (a ≤ n ∧ n ≤ b) := by simp only [c, false_and, decide_false]
      rw [e]
      exact k
def sp_is_size : Sp := fun vs H Q _ => ∃ n : Int, vs = [.int n] ∧ Q (.bl (decide (1 ≤ n ∧ n ≤ 1000000000000000000))) H
theorem sc_is_size : FnScope ["thing"] ["thing"] (defScope s_is_size) :=
  ⟨rfl, rfl, rfl, by decide +kernel, rfl, by decide +kernel, by decide +kernel⟩
theorem ok_is_size {P : Program} {w : World} {K : PySem.W.Frag} {mg : Str → Option Value} {base : Heap} (T : Txt K mg) :
    FnG P w K mg base 3 T.a_is_size T.d_is_size ["thing"] sp_is_size := by
  refine okD T.F_is_size sc_is_size (fun vs H Q E h => ?_) (fun cdv A outer s H vs Q E hr h => ?_)
  · first
      | (obtain ⟨_, rfl, _⟩ := h; rfl)
      | (obtain ⟨_, _, rfl, _⟩ := h; rfl)
      | (obtain ⟨_, _, _, rfl, _⟩ := h; rfl)
      | (obtain ⟨_, _, _, _, rfl, _⟩ := h; rfl)
      | (obtain ⟨_, _, _, _, _, rfl, _⟩ := h; rfl)
      | (obtain ⟨_, _, _, _, _, _, rfl, _⟩ := h; rfl)
      | (obtain ⟨_, _, _, _, _, _, _, rfl, _⟩ := h; rfl)
      | (obtain ⟨_, _, _, _, _, _, _, _, rfl, _⟩ := h; rfl)
      | (obtain ⟨_, _, _, _, _, _, _, _, _, rfl, _⟩ := h; rfl)
      | (obtain ⟨_, _, _, _, _, _, _, _, _, _, rfl, _⟩ := h; rfl)
      | (obtain ⟨_, _, _, _, _, _, _, _, _, _, _, rfl, _⟩ := h; rfl)
  · obtain ⟨n, rfl, k⟩ := h
    refine ⟨_, (pss_one (ps_ret (d1 (ok_is_whole T) (hr.mono (by decide)) (by rfl) T.m_is_whole T.F_is_whole.kp T.b_is_whole passL (pa_cons (pv 0) (pa_cons pe_int (pa_cons (pe_glob (v := V.int 1000000000000000000) rfl T.g_LARGEST ⟨_, rfl⟩) pa_nil)))))), ?_⟩
    dsimp only [cxOf, st_1, st_2, st_3, st_4, st_5, st_6, List.length_cons, List.length_nil, List.replicate_succ, List.replicate_zero, Nat.reduceAdd, Nat.reduceSub]
    walk_at "gs"
    exact ⟨n, 1, _, rfl, k⟩
def sp_want_size : Sp := fun vs H Q _ => ∃ n : Int, vs = [.int n] ∧ (1 ≤ n ∧ n ≤ 1000000000000000000) ∧ Q .non H
theorem sc_want_size : FnScope ["thing"] ["thing"] (defScope s_want_size) :=
  ⟨rfl, rfl, rfl, by decide +kernel, rfl, by decide +kernel, by decide +kernel⟩
theorem ok_want_size {P : Program} {w : World} {K : PySem.W.Frag} {mg : Str → Option Value} {base : Heap} (T : Txt K mg) :
    FnG P w K mg base 4 T.a_want_size T.d_want_size ["thing"] sp_want_size := by
  refine okD T.F_want_size sc_want_size (fun vs H Q E h => ?_) (fun cdv A outer s H vs Q E hr h => ?_)
  · first
      | (obtain ⟨_, rfl, _⟩ := h; rfl)
      | (obtain ⟨_, _, rfl, _⟩ := h; rfl)
      | (obtain ⟨_, _, _, rfl, _⟩ := h; rfl)
      | (obtain ⟨_, _, _, _, rfl, _⟩ := h; rfl)
      | (obtain ⟨_, _, _, _, _, rfl, _⟩ := h; rfl)
      | (obtain ⟨_, _, _, _, _, _, rfl, _⟩ := h; rfl)
      | (obtain ⟨_, _, _, _, _, _, _, rfl, _⟩ := h; rfl)
      | (obtain ⟨_, _, _, _, _, _, _, _, rfl, _⟩ := h; rfl)
      | (obtain ⟨_, _, _, _, _, _, _, _, _, rfl, _⟩ := h; rfl)
      | (obtain ⟨_, _, _, _, _, _, _, _, _, _, rfl, _⟩ := h; rfl)
      | (obtain ⟨_, _, _, _, _, _, _, _, _, _, _, rfl, _⟩ := h; rfl)
  · obtain ⟨n, rfl, z, k⟩ := h
    refine ⟨_, (pss_one (ps_if (pt_not (pt_val (d1 (ok_is_size T) (hr.mono (by decide)) (by rfl) T.m_is_size T.F_is_size.kp T.b_is_size passL (pa_cons (pv 0) pa_nil)))) (pss_one ps_never) pss_nil)), ?_⟩
    dsimp only [cxOf, st_1, st_2, st_3, st_4, st_5, st_6, List.length_cons, List.length_nil, List.replicate_succ, List.replicate_zero, Nat.reduceAdd, Nat.reduceSub]
    walk_at "gs"
    refine ⟨n, rfl, ?_⟩
    walk_at "gs"
    refine i_decN (fun c => absurd z c) (fun _ => ?_)
    walk_at "gs"
    exact k
def sp_want_number : Sp := fun vs H Q _ => ∃ n : Int, vs = [.int n] ∧ Q .non H
theorem sc_want_number : FnScope ["thing"] ["thing"] (defScope s_want_number) :=
  ⟨rfl, rfl, rfl, by decide +kernel, rfl, by decide +kernel, by decide +kernel⟩
theorem ok_want_number {P : Program} {w : World} {K : PySem.W.Frag} {mg : Str → Option Value} {base : Heap} (T : Txt K mg) :
    FnG P w K mg base 2 T.a_want_number T.d_want_number ["thing"] sp_want_number := by
  refine okD T.F_want_number sc_want_number (fun vs H Q E h => ?_) (fun cdv A outer s H vs Q E hr h => ?_)
  · first
      | (obtain ⟨_, rfl, _⟩ := h; rfl)
      | (obtain ⟨_, _, rfl, _⟩ := h; rfl)
      | (obtain ⟨_, _, _, rfl, _⟩ := h; rfl)
      | (obtain ⟨_, _, _, _, rfl, _⟩ := h; rfl)
      | (obtain ⟨_, _, _, _, _, rfl, _⟩ := h; rfl)
      | (obtain ⟨_, _, _, _, _, _, rfl, _⟩ := h; rfl)
      | (obtain ⟨_, _, _, _, _, _, _, rfl, _⟩ := h; rfl)
      | (obtain ⟨_, _, _, _, _, _, _, _, rfl, _⟩ := h; rfl)
      | (obtain ⟨_, _, _, _, _, _, _, _, _, rfl, _⟩ := h; rfl)
      | (obtain ⟨_, _, _, _, _, _, _, _, _, _, rfl, _⟩ := h; rfl)
      | (obtain ⟨_, _, _, _, _, _, _, _, _, _, _, rfl, _⟩ := h; rfl)
  · obtain ⟨n, rfl, k⟩ := h
    refine ⟨_, (pss_one (ps_if (pt_not (pt_val (d1 (ok_is_number T) (hr.mono (by decide)) (by rfl) T.m_is_number T.F_is_number.kp T.b_is_number passL (pa_cons (pv 0) pa_nil)))) (pss_one ps_never) pss_nil)), ?_⟩
    dsimp only [cxOf, st_1, st_2, st_3, st_4, st_5, st_6, List.length_cons, List.length_nil, List.replicate_succ, List.replicate_zero, Nat.reduceAdd, Nat.reduceSub]
    walk_at "gs"
    refine ⟨n, rfl, ?_⟩
    walk_at "gs"
    exact k
def sp_want_cell : Sp := fun vs H Q _ => ∃ c n : Int, vs = [.int c, .int n] ∧ (0 ≤ c ∧ c < n) ∧ Q .non H
theorem sc_want_cell : FnScope ["thing", "size"] ["thing", "size"] (defScope s_want_cell) :=
  ⟨rfl, rfl, rfl, by decide +kernel, rfl, by decide +kernel, by decide +kernel⟩
theorem ok_want_cell {P : Program} {w : World} {K : PySem.W.Frag} {mg : Str → Option Value} {base : Heap} (T : Txt K mg) :
    FnG P w K mg base 3 T.a_want_cell T.d_want_cell ["thing", "size"] sp_want_cell := by
  refine okD T.F_want_cell sc_want_cell (fun vs H Q E h => ?_) (fun cdv A outer s H vs Q E hr h => ?_)
  · first
      | (obtain ⟨_, rfl, _⟩ := h; rfl)
      | (obtain ⟨_, _, rfl, _⟩ := h; rfl)
      | (obtain ⟨_, _, _, rfl, _⟩ := h; rfl)
      | (obtain ⟨_, _, _, _, rfl, _⟩ := h; rfl)
      | (obtain ⟨_, _, _, _, _, rfl, _⟩ := h; rfl)
      | (obtain ⟨_, _, _, _, _, _, rfl, _⟩ := h; rfl)
      | (obtain ⟨_, _, _, _, _, _, _, rfl, _⟩ := h; rfl)
      | (obtain ⟨_, _, _, _, _, _, _, _, rfl, _⟩ := h; rfl)
      | (obtain ⟨_, _, _, _, _, _, _, _, _, rfl, _⟩ := h; rfl)
      | (obtain ⟨_, _, _, _, _, _, _, _, _, _, rfl, _⟩ := h; rfl)
      | (obtain ⟨_, _, _, _, _, _, _, _, _, _, _, rfl, _⟩ := h; rfl)
  · obtain ⟨c, n, rfl, z, k⟩ := h
    refine ⟨_, (pss_one (ps_if (pt_not (pt_val (d1 (ok_is_whole T) (hr.mono (by decide)) (by rfl) T.m_is_whole T.F_is_whole.kp T.b_is_whole passL (pa_cons (pv 0) (pa_cons pe_int (pa_cons (pe_op op_sub (pv 1) pe_int) pa_nil)))))) (pss_one ps_never) pss_nil)), ?_⟩
    dsimp only [cxOf, st_1, st_2, st_3, st_4, st_5, st_6, List.length_cons, List.length_nil, List.replicate_succ, List.replicate_zero, Nat.reduceAdd, Nat.reduceSub]
    walk_at "gs"
    refine ⟨c, 0, n - 1, rfl, ?_⟩
    walk_at "gs"
    refine i_decN (fun d => absurd (by omega) d) (fun _ => ?_)
    walk_at "gs"
    exact k
def sp_want_stretch : Sp := fun vs H Q _ => ∃ b e n : Int, vs = [.int b, .int e, .int n] ∧ (0 ≤ b ∧ b ≤ e ∧ e ≤ n) ∧ Q .non H
theorem sc_want_stretch : FnScope ["begin", "end", "size"] ["begin", "end", "size"] (defScope s_want_stretch) :=
  ⟨rfl, rfl, rfl, by decide +kernel, rfl, by decide +kernel, by decide +kernel⟩
theorem ok_want_stretch {P : Program} {w : World} {K : PySem.W.Frag} {mg : Str → Option Value} {base : Heap} (T : Txt K mg) :
    FnG P w K mg base 3 T.a_want_stretch T.d_want_stretch ["begin", "end", "size"] sp_want_stretch := by
  refine okD T.F_want_stretch sc_want_stretch (fun vs H Q E h => ?_) (fun cdv A outer s H vs Q E hr h => ?_)
  · first
      | (obtain ⟨_, rfl, _⟩ := h; rfl)
      | (obtain ⟨_, _, rfl, _⟩ := h; rfl)
      | (obtain ⟨_, _, _, rfl, _⟩ := h; rfl)
      | (obtain ⟨_, _, _, _, rfl, _⟩ := h; rfl)
      | (obtain ⟨_, _, _, _, _, rfl, _⟩ := h; rfl)
      | (obtain ⟨_, _, _, _, _, _, rfl, _⟩ := h; rfl)
      | (obtain ⟨_, _, _, _, _, _, _, rfl, _⟩ := h; rfl)
      | (obtain ⟨_, _, _, _, _, _, _, _, rfl, _⟩ := h; rfl)
      | (obtain ⟨_, _, _, _, _, _, _, _, _, rfl, _⟩ := h; rfl)
      | (obtain ⟨_, _, _, _, _, _, _, _, _, _, rfl, _⟩ := h; rfl)
      | (obtain ⟨_, _, _, _, _, _, _, _, _, _, _, rfl, _⟩ := h; rfl)
  · obtain ⟨b, e, n, rfl, z, k⟩ := h
    refine ⟨_, (pss_one (ps_if (PW.pt (pw_or (pt_not (pt_val (d1 (ok_is_whole T) (hr.mono (by decide)) (by rfl) T.m_is_whole T.F_is_whole.kp T.b_is_whole passL (pa_cons (pv 0) (pa_cons pe_int (pa_cons (pv 2) pa_nil)))))) (pw_or1 (pt_not (pt_val (d1 (ok_is_whole T) (hr.mono (by decide)) (by rfl) T.m_is_whole T.F_is_whole.kp T.b_is_whole passL (pa_cons (pv 1) (pa_cons (pv 0) (pa_cons (pv 2) pa_nil))))))))) (pss_one ps_never) pss_nil)), ?_⟩
    dsimp only [cxOf, st_1, st_2, st_3, st_4, st_5, st_6, List.length_cons, List.length_nil, List.replicate_succ, List.replicate_zero, Nat.reduceAdd, Nat.reduceSub]
    walk_at "gs"
    refine ⟨b, 0, n, rfl, ?_⟩
    walk_at "gs"
    refine i_decN (fun d => absurd (by omega) d) (fun _ => ?_)
    walk_at "gs"
    refine ⟨e, b, n, rfl, ?_⟩
    walk_at "gs"
    refine i_decN (fun d => absurd (by omega) d) (fun _ => ?_)
    walk_at "gs"
    exact k

/-! ### cutting out -/
def sp_cut_out (K : PySem.W.Frag) : Sp := fun vs H Q _ => ∃ (a : Addr) (b e : Int) (ps : List (Int × Int)),
  vs = [.ref a, .int b, .int e] ∧ Dp K H (.ref a) (.list (ps.map d2)) ∧ ps.length ≤ 100000 ∧
  ∀ l H', Fr H l → Kp [] H H' → LD K H' l ((cut b e ps).map d2) → Q (.ref l) H'
theorem sc_cut_out : FnScope ["pairs", "begin", "end", "found", "at", "many", "number", "low", "high"] ["pairs", "begin", "end"] (defScope s_cut_out) :=
  ⟨rfl, rfl, rfl, by decide +kernel, rfl, by decide +kernel, by decide +kernel⟩
theorem ok_cut_out {P : Program} {w : World} {K : PySem.W.Frag} {mg : Str → Option Value} {base : Heap} (T : Txt K mg) :
    FnG P w K mg base 1 T.a_cut_out T.d_cut_out ["pairs", "begin", "end"] (sp_cut_out K) := by
  refine okD T.F_cut_out sc_cut_out (fun vs H Q E h => ?_) (fun cdv A outer s H vs Q E hr h => ?_)
  · first
      | (obtain ⟨_, rfl, _⟩ := h; rfl)
      | (obtain ⟨_, _, rfl, _⟩ := h; rfl)
      | (obtain ⟨_, _, _, rfl, _⟩ := h; rfl)
      | (obtain ⟨_, _, _, _, rfl, _⟩ := h; rfl)
      | (obtain ⟨_, _, _, _, _, rfl, _⟩ := h; rfl)
      | (obtain ⟨_, _, _, _, _, _, rfl, _⟩ := h; rfl)
      | (obtain ⟨_, _, _, _, _, _, _, rfl, _⟩ := h; rfl)
      | (obtain ⟨_, _, _, _, _, _, _, _, rfl, _⟩ := h; rfl)
      | (obtain ⟨_, _, _, _, _, _, _, _, _, rfl, _⟩ := h; rfl)
      | (obtain ⟨_, _, _, _, _, _, _, _, _, _, rfl, _⟩ := h; rfl)
      | (obtain ⟨_, _, _, _, _, _, _, _, _, _, _, rfl, _⟩ := h; rfl)
  · obtain ⟨a, b, e, ps, rfl, ha, hps, k⟩ := h
    cases ha
    rename_i xs hsq hall
    have hlen := dpa_len hall
    rw [List.length_map] at hlen
    have cl_Memory := T.cl_Memory
    have na_Memory_pairs := T.na_Memory_pairs
    have na_Memory_wide := T.na_Memory_wide
    refine ⟨_, (pss_cons (ps_set (i := 3) sc_cut_out.nd rfl (Or.inl rfl) (pe_lst pa_nil))
      (pss_cons (ps_set (i := 4) sc_cut_out.nd rfl (Or.inl rfl) pe_int)
      (pss_cons (ps_for (passes_of rfl) rfl (k_plist (K := K) rfl (pv 0)) (k_gtup (K := K) 2 rfl rfl (pgs_cons (pg_name (i := 5) sc_cut_out.nd rfl (Or.inl rfl)) (pgs_cons (pg_name (i := 6) sc_cut_out.nd rfl (Or.inl rfl)) pgs_nil)))
      (pss_cons (ps_par (i := 7) (j := 8) (by rfl) sc_cut_out.nd rfl rfl (by decide) rfl rfl (pa_cons (pe_callB (c_max2 rfl) (by rfl) T.n_max (by decide +kernel) (pa_cons (pv 1) (pa_cons (pv 4) pa_nil))) (pa_cons (pe_callB (c_min2 rfl) (by rfl) T.n_min (by decide +kernel) (pa_cons (pv 2) (pa_cons (pe_op (k_add (K := K) rfl) (pv 4) (pv 5)) pa_nil))) pa_nil)) (by rfl))
      (pss_cons (ps_if (pt_cmpR op_lt (pv 7) (pv 8) (nomark _)) (pss_one (ps_expr (pe_bm PySem.F.plainAttrs_list PySem.F.slot_list_append PySem.F.type_list_append mt_append (pv 3) (pa_cons (pe_tup (pa_cons (pe_op op_sub (pv 8) (pv 7)) (pa_cons (pv 6) pa_nil))) pa_nil)))) pss_nil)
      (pss_one (ps_aug (i := 4) sc_cut_out.nd rfl (Or.inl rfl) (pv 5) ip_add)))))
      (pss_one (ps_ret (pv 3)))))), ?_⟩
    dsimp only [cxOf, st_1, st_2, st_3, st_4, st_5, st_6, List.length_cons, List.length_nil, List.replicate_succ, List.replicate_zero, Nat.reduceAdd, Nat.reduceSub]
    walk_at "gs"
    refine i_new fun l hl => ?_
    walk_at "gs"
    refine i_each ((Kp.new hl).seqL (ws := []) List.not_mem_nil hsq) (fun i σ H' => ∃ u v w x, σ = [some (.ref a), some (.int b), some (.int e), some (.ref l), some (.int (wide (ps.take i))), u, v, w, x] ∧ Kp [] H H' ∧
      LD K H' l ((cut b e (ps.take i)).map d2)) ?_ ?_ ?_ ?_
    · exact ⟨none, none, none, none, rfl, Kp.new hl, ⟨[], upd_same, .nil⟩⟩
    · rintro i σ H' _ ⟨u, v, w, x, rfl, kp, ld⟩
      exact kp.seqL List.not_mem_nil hsq
    · rintro i x σ H' hx ⟨u, v, w, y, rfl, kp, ld⟩
      obtain ⟨d, hd, hdp⟩ := dpa_getV hall hx
      obtain ⟨p, hp, rfl⟩ := map_get hd
      obtain ⟨pa, rfl, hpt⟩ := dp_pair hdp
      replace hpt := kp.seqT hpt
      obtain ⟨vs, hvs, hall2⟩ := id ld
      have hvl := dpa_len hall2
      rw [List.length_map] at hvl
      have hcl := cut_len b e (ps.take i)
      rw [List.length_take] at hcl
      have hil : i < ps.length := (List.getElem?_eq_some_iff.mp hp).1
      walk_at "gs"
      refine i_dec (fun c => ?_) (fun c => ?_)
      · walk_at "gs"
        refine i_new fun t ht => ?_
        walk_at "gs"
        rw [wide_take hp, cut_take hp, if_pos c, List.map_append]
        refine ⟨_, _, _, _, rfl, by walk_at "g_kp", ?_⟩
        exact ld_push (ws := [l]) (H0 := H') (by walk_at "g_kp") hall2 (imms_d2 _) upd_same (dp_mk2 (m := min e (wide (ps.take i) + p.1) - max b (wide (ps.take i))) (n := p.2) (by walk_at "g_st"))
      · walk_at "gs"
        rw [wide_take hp, cut_take hp, if_neg c, List.append_nil]
        exact ⟨_, _, _, _, rfl, kp, ld⟩
    · rintro σ H' ⟨u, v, w, x, rfl, kp, ld⟩
      walk_at "gs"
      rw [List.take_of_length_le (by omega)] at ld
      exact k l H' hl kp ld

/-! ### a memory -/
def mfs (n : Int) (l : Addr) : List (Str × V) := [("wide", .int n), ("pairs", .ref l)]
def MemAt (K : PySem.W.Frag) (C : Addr) (H : Hp) (m : Addr) (cs : List Int) : Prop :=
  ∃ dx l, H m = some (.ins C dx (mfs cs.length l)) ∧ LD K H l ((rle cs).map d2)
/-- another thing that is written -/
def Oth (H : Hp) (m p : Addr) : Prop := (∃ i xs, H p = some (.lst (.int i :: xs))) ∨ (p ≠ m ∧ ∃ C dx fs, H p = some (.ins C dx fs))
section
variable {K : PySem.W.Frag} {C : Addr} {H H' : Hp} {m p l : Addr} {cs ds : List Int} {ws : List Addr} {o : HO}
theorem ld_ne_int {i : Int} {xs : List V} (h : LD K H l ((rle cs).map d2)) (e : H p = some (.lst (.int i :: xs))) : l ≠ p := by
  intro z
  obtain ⟨vs, q, a⟩ := h
  rw [z, e] at q
  cases q
  cases w : rle cs with
  | nil =>
    rw [w] at a
    cases a
  | cons x t =>
    rw [w] at a
    cases a
    rename_i a b
    cases a
theorem MemAt.kp (h : MemAt K C H m cs) (k : Kp ws H H') (n : ∀ p ∈ ws, Oth H m p) : MemAt K C H' m cs := by
  obtain ⟨dx, l, hm, ld⟩ := h
  refine ⟨dx, l, k.at_ _ _ hm ?_, LD.kp ld k (imms_d2 _) ?_⟩
  · intro z
    rcases n m z with ⟨i, xs, e⟩ | ⟨q, _⟩
    · rw [hm] at e
      cases e
    · exact q rfl
  · intro z
    rcases n l z with ⟨i, xs, e⟩ | ⟨q, D, dy, fs, e⟩
    · exact ld_ne_int ld e rfl
    · obtain ⟨vs, e2, _⟩ := ld
      rw [e] at e2
      cases e2
theorem mem_kp0 (h : MemAt K C H m cs) (k : Kp [] H H') : MemAt K C H' m cs := h.kp k fun p hp => nomatch hp
theorem mem_kp1 (h : MemAt K C H m cs) (k : Kp [p] H H') (n : Oth H m p) : MemAt K C H' m cs :=
  h.kp k fun q hq => by
    rw [List.mem_singleton.mp hq]
    exact n
theorem mem_upd (h : MemAt K C H m cs) (f : Fr H p) : MemAt K C (upd H p o) m cs := mem_kp0 h (Kp.new f)
theorem oth_pot (h : PotAt H p) : Oth H m p := by
  obtain ⟨x, y, e, _⟩ := h
  exact .inl ⟨_, _, e⟩
theorem oth_mem (h : MemAt K C H p ds) (n : p ≠ m) : Oth H m p := by
  obtain ⟨dx, l, e, _⟩ := h
  exact .inr ⟨n, _, _, _, e⟩
theorem tr_mem (h : MemAt K C H m cs) : Tr H m := by
  obtain ⟨dx, l, e, _⟩ := h
  exact ⟨_, e⟩
theorem pot_ne_mem (h : PotAt H p) (g : MemAt K C H m cs) : p ≠ m := by
  obtain ⟨x, y, e, _⟩ := h
  obtain ⟨dx, l, e2, _⟩ := g
  intro z
  rw [z, e2] at e
  cases e
theorem pot_kp_mem (h : PotAt H p) (g : MemAt K C H m cs) (k : Kp [m] H H') : PotAt H' p := h.kp k (not_one (pot_ne_mem h g))
end
theorem one_few {p : Int × Int} : [p].length ≤ 10000 := by
  rw [List.length_singleton]
  decide
def sp_init (K : PySem.W.Frag) (C : Addr) : Sp := fun vs H Q _ => ∃ (m dx : Addr) (n v : Int), vs = [.ref m, .int n, .int v] ∧
  H m = some (.ins C dx []) ∧ (1 ≤ n ∧ n ≤ 1000000000000000000) ∧
  ∀ H', Kp [m] H H' → MemAt K C H' m (List.replicate n.toNat v) → Q .non H'
theorem rle_one {n v : Int} (h : 1 ≤ n) : rle (List.replicate n.toNat v) = [(n, v)] := by
  have e := rle_rep v [] (n.toNat - 1)
  have e2 : n.toNat - 1 + 1 = n.toNat := by omega
  rw [e2, List.append_nil] at e
  rw [e]
  show [(0 + (((n.toNat - 1 : Nat) : Int) + 1), v)] = _
  congr 2
  omega
theorem sc_Memory_init : FnScope ["self", "size", "number"] ["self", "size", "number"] (defScope s_Memory_init) :=
  ⟨rfl, rfl, rfl, by decide +kernel, rfl, by decide +kernel, by decide +kernel⟩
theorem ok_Memory_init {P : Program} {w : World} {K : PySem.W.Frag} {mg : Str → Option Value} {base : Heap} (T : Txt K mg) :
    FnG P w K mg base 5 T.a_Memory_init T.d_Memory_init ["self", "size", "number"] (sp_init K T.c_Memory) := by
  refine okD T.F_Memory_init sc_Memory_init (fun vs H Q E h => ?_) (fun cdv A outer s H vs Q E hr h => ?_)
  · first
      | (obtain ⟨_, rfl, _⟩ := h; rfl)
      | (obtain ⟨_, _, rfl, _⟩ := h; rfl)
      | (obtain ⟨_, _, _, rfl, _⟩ := h; rfl)
      | (obtain ⟨_, _, _, _, rfl, _⟩ := h; rfl)
      | (obtain ⟨_, _, _, _, _, rfl, _⟩ := h; rfl)
      | (obtain ⟨_, _, _, _, _, _, rfl, _⟩ := h; rfl)
      | (obtain ⟨_, _, _, _, _, _, _, rfl, _⟩ := h; rfl)
      | (obtain ⟨_, _, _, _, _, _, _, _, rfl, _⟩ := h; rfl)
      | (obtain ⟨_, _, _, _, _, _, _, _, _, rfl, _⟩ := h; rfl)
      | (obtain ⟨_, _, _, _, _, _, _, _, _, _, rfl, _⟩ := h; rfl)
      | (obtain ⟨_, _, _, _, _, _, _, _, _, _, _, rfl, _⟩ := h; rfl)
  · obtain ⟨m, dx, n, v, rfl, hm, z, k⟩ := h
    have cl_Memory := T.cl_Memory
    have na_Memory_pairs := T.na_Memory_pairs
    have na_Memory_wide := T.na_Memory_wide
    refine ⟨_, (pss_cons (ps_expr (d1 (ok_want_size T) (hr.mono (by decide)) (by rfl) T.m_want_size T.F_want_size.kp T.b_want_size passL (pa_cons (pv 1) pa_nil)))
      (pss_cons (ps_expr (d1 (ok_want_number T) (hr.mono (by decide)) (by rfl) T.m_want_number T.F_want_number.kp T.b_want_number passL (pa_cons (pv 2) pa_nil)))
      (pss_cons (k_sfld (K := K) rfl (pv 0) (pv 1) rfl)
      (pss_one (k_sfld (K := K) rfl (pv 0) (pe_lst (pa_cons (pe_tup (pa_cons (pv 1) (pa_cons (pv 2) pa_nil))) pa_nil)) rfl))))), ?_⟩
    dsimp only [cxOf, st_1, st_2, st_3, st_4, st_5, st_6, List.length_cons, List.length_nil, List.replicate_succ, List.replicate_zero, Nat.reduceAdd, Nat.reduceSub]
    walk_at "gs"
    refine ⟨n, rfl, z, ?_⟩
    walk_at "gs"
    refine ⟨v, rfl, ?_⟩
    walk_at "gs"
    refine i_new fun t ht => ?_
    walk_at "gs"
    refine i_new fun l hl => ?_
    have ntm : t ≠ m := by walk_at "g_ne"
    have nlm : l ≠ m := by walk_at "g_ne"
    have nlt : t ≠ l := by walk_at "g_ne"
    walk_at "gs"
    refine k _ (by walk_at "g_kp") ⟨dx, l, ?_, ?_⟩
    · rw [List.length_replicate]
      have e : ((n.toNat : Nat) : Int) = n := by omega
      rw [e]
      exact upd_same
    · rw [rle_one z.1]
      have e1 := ntm
      refine ⟨_, ?_, dpa_one (dp_mk2 (a := t) (m := n) (n := v) (SqT.of ?_))⟩
      · refine upd_nn ?_ ?_
        · exact nlm
        · exact upd_same
      · refine upd_nn ?_ ?_
        · exact ntm
        · refine upd_nn ?_ ?_
          · exact nlt
          · exact upd_same
def sp_msize (K : PySem.W.Frag) (C : Addr) : Sp := fun vs H Q _ => ∃ (m : Addr) (cs : List Int), vs = [.ref m] ∧ MemAt K C H m cs ∧
  Q (.int cs.length) H
theorem sc_Memory_size : FnScope ["self"] ["self"] (defScope s_Memory_size) :=
  ⟨rfl, rfl, rfl, by decide +kernel, rfl, by decide +kernel, by decide +kernel⟩
theorem ok_Memory_size {P : Program} {w : World} {K : PySem.W.Frag} {mg : Str → Option Value} {base : Heap} (T : Txt K mg) :
    FnG P w K mg base 1 T.a_Memory_size T.d_Memory_size ["self"] (sp_msize K T.c_Memory) := by
  refine okD T.F_Memory_size sc_Memory_size (fun vs H Q E h => ?_) (fun cdv A outer s H vs Q E hr h => ?_)
  · first
      | (obtain ⟨_, rfl, _⟩ := h; rfl)
      | (obtain ⟨_, _, rfl, _⟩ := h; rfl)
      | (obtain ⟨_, _, _, rfl, _⟩ := h; rfl)
      | (obtain ⟨_, _, _, _, rfl, _⟩ := h; rfl)
      | (obtain ⟨_, _, _, _, _, rfl, _⟩ := h; rfl)
      | (obtain ⟨_, _, _, _, _, _, rfl, _⟩ := h; rfl)
      | (obtain ⟨_, _, _, _, _, _, _, rfl, _⟩ := h; rfl)
      | (obtain ⟨_, _, _, _, _, _, _, _, rfl, _⟩ := h; rfl)
      | (obtain ⟨_, _, _, _, _, _, _, _, _, rfl, _⟩ := h; rfl)
      | (obtain ⟨_, _, _, _, _, _, _, _, _, _, rfl, _⟩ := h; rfl)
      | (obtain ⟨_, _, _, _, _, _, _, _, _, _, _, rfl, _⟩ := h; rfl)
  · obtain ⟨m, cs, rfl, ⟨dx, l, hm, ld⟩, k⟩ := h
    have cl_Memory := T.cl_Memory
    have na_Memory_pairs := T.na_Memory_pairs
    have na_Memory_wide := T.na_Memory_wide
    refine ⟨_, (pss_one (ps_ret (k_fld (K := K) rfl (pv 0) rfl))), ?_⟩
    dsimp only [cxOf, st_1, st_2, st_3, st_4, st_5, st_6, List.length_cons, List.length_nil, List.replicate_succ, List.replicate_zero, Nat.reduceAdd, Nat.reduceSub]
    walk_at "gs"
    exact k
def sp_runs (K : PySem.W.Frag) (C : Addr) : Sp := fun vs H Q _ => ∃ (m : Addr) (cs : List Int), vs = [.ref m] ∧ MemAt K C H m cs ∧
  ∀ l H', Fr H l → Kp [] H H' → LD K H' l ((rle cs).map d2) → Q (.ref l) H'
theorem sc_Memory_runs : FnScope ["self"] ["self"] (defScope s_Memory_runs) :=
  ⟨rfl, rfl, rfl, by decide +kernel, rfl, by decide +kernel, by decide +kernel⟩
theorem ok_Memory_runs {P : Program} {w : World} {K : PySem.W.Frag} {mg : Str → Option Value} {base : Heap} (T : Txt K mg) :
    FnG P w K mg base 1 T.a_Memory_runs T.d_Memory_runs ["self"] (sp_runs K T.c_Memory) := by
  refine okD T.F_Memory_runs sc_Memory_runs (fun vs H Q E h => ?_) (fun cdv A outer s H vs Q E hr h => ?_)
  · first
      | (obtain ⟨_, rfl, _⟩ := h; rfl)
      | (obtain ⟨_, _, rfl, _⟩ := h; rfl)
      | (obtain ⟨_, _, _, rfl, _⟩ := h; rfl)
      | (obtain ⟨_, _, _, _, rfl, _⟩ := h; rfl)
      | (obtain ⟨_, _, _, _, _, rfl, _⟩ := h; rfl)
      | (obtain ⟨_, _, _, _, _, _, rfl, _⟩ := h; rfl)
      | (obtain ⟨_, _, _, _, _, _, _, rfl, _⟩ := h; rfl)
      | (obtain ⟨_, _, _, _, _, _, _, _, rfl, _⟩ := h; rfl)
      | (obtain ⟨_, _, _, _, _, _, _, _, _, rfl, _⟩ := h; rfl)
      | (obtain ⟨_, _, _, _, _, _, _, _, _, _, rfl, _⟩ := h; rfl)
      | (obtain ⟨_, _, _, _, _, _, _, _, _, _, _, rfl, _⟩ := h; rfl)
  · obtain ⟨m, cs, rfl, ⟨dx, l, hm, ld⟩, k⟩ := h
    obtain ⟨vs, hv, hall⟩ := id ld
    have cl_Memory := T.cl_Memory
    have na_Memory_pairs := T.na_Memory_pairs
    have na_Memory_wide := T.na_Memory_wide
    refine ⟨_, (pss_one (ps_ret (pe_callTy (k_list (K := K) rfl) (by rfl) T.n_list (by decide +kernel) (pa_cons (k_fld (K := K) rfl (pv 0) rfl) pa_nil)))), ?_⟩
    dsimp only [cxOf, st_1, st_2, st_3, st_4, st_5, st_6, List.length_cons, List.length_nil, List.replicate_succ, List.replicate_zero, Nat.reduceAdd, Nat.reduceSub]
    walk_at "gs"
    refine i_new fun q hq => ?_
    walk_at "gs"
    exact k q _ hq (Kp.new hq) ⟨_, upd_same, dpa_imm (Kp.new (ws := []) hq) _ _ (imms_d2 _) hall⟩
def sp_mat (K : PySem.W.Frag) (C : Addr) : Sp := fun vs H Q _ => ∃ (m : Addr) (c : Nat) (cs : List Int) (v : Int), vs = [.ref m, .int c] ∧
  MemAt K C H m cs ∧ (rle cs).length ≤ 10000 ∧ cs[c]? = some v ∧ ∀ H', Kp [] H H' → Q (.int v) H'
theorem sc_Memory_at : FnScope ["self", "cell"] ["self", "cell"] (defScope s_Memory_at) :=
  ⟨rfl, rfl, rfl, by decide +kernel, rfl, by decide +kernel, by decide +kernel⟩
theorem ok_Memory_at {P : Program} {w : World} {K : PySem.W.Frag} {mg : Str → Option Value} {base : Heap} (T : Txt K mg) :
    FnG P w K mg base 4 T.a_Memory_at T.d_Memory_at ["self", "cell"] (sp_mat K T.c_Memory) := by
  refine okD T.F_Memory_at sc_Memory_at (fun vs H Q E h => ?_) (fun cdv A outer s H vs Q E hr h => ?_)
  · first
      | (obtain ⟨_, rfl, _⟩ := h; rfl)
      | (obtain ⟨_, _, rfl, _⟩ := h; rfl)
      | (obtain ⟨_, _, _, rfl, _⟩ := h; rfl)
      | (obtain ⟨_, _, _, _, rfl, _⟩ := h; rfl)
      | (obtain ⟨_, _, _, _, _, rfl, _⟩ := h; rfl)
      | (obtain ⟨_, _, _, _, _, _, rfl, _⟩ := h; rfl)
      | (obtain ⟨_, _, _, _, _, _, _, rfl, _⟩ := h; rfl)
      | (obtain ⟨_, _, _, _, _, _, _, _, rfl, _⟩ := h; rfl)
      | (obtain ⟨_, _, _, _, _, _, _, _, _, rfl, _⟩ := h; rfl)
      | (obtain ⟨_, _, _, _, _, _, _, _, _, _, rfl, _⟩ := h; rfl)
      | (obtain ⟨_, _, _, _, _, _, _, _, _, _, _, rfl, _⟩ := h; rfl)
  · obtain ⟨m, c, cs, v, rfl, ⟨dx, l, hm, ld⟩, hn, hv, k⟩ := h
    have hc : c < cs.length := (List.getElem?_eq_some_iff.mp hv).1
    have cl_Memory := T.cl_Memory
    have na_Memory_pairs := T.na_Memory_pairs
    have na_Memory_wide := T.na_Memory_wide
    refine ⟨_, (pss_cons (ps_expr (d1 (ok_want_cell T) (hr.mono (by decide)) (by rfl) T.m_want_cell T.F_want_cell.kp T.b_want_cell passL (pa_cons (pv 1) (pa_cons (k_fld (K := K) rfl (pv 0) rfl) pa_nil))))
      (pss_one (ps_ret (pe_ix (k_ix (K := K) rfl) (pe_ix (k_ix (K := K) rfl) (d1 (ok_cut_out T) (hr.mono (by decide)) (by rfl) T.m_cut_out T.F_cut_out.kp T.b_cut_out passL (pa_cons (k_fld (K := K) rfl (pv 0) rfl) (pa_cons (pv 1) (pa_cons (pe_op (k_add (K := K) rfl) (pv 1) pe_int) pa_nil)))) pe_int (fun _ _ => rfl)) pe_int (fun _ _ => rfl))))), ?_⟩
    dsimp only [cxOf, st_1, st_2, st_3, st_4, st_5, st_6, List.length_cons, List.length_nil, List.replicate_succ, List.replicate_zero, Nat.reduceAdd, Nat.reduceSub]
    walk_at "gs"
    refine ⟨c, cs.length, rfl, by omega, ?_⟩
    walk_at "gs"
    refine ⟨l, c, c + 1, rle cs, rfl, ld.dp, by omega, fun f H1 hf k1 lf => ?_⟩
    rw [cut_at hv] at lf
    obtain ⟨us, hu, ha⟩ := lf
    cases ha
    rename_i x us hx hus
    cases hus
    obtain ⟨t, rfl, ht⟩ := dp_pair hx
    walk_at "gs"
    exact k H1 k1
def sp_lay (K : PySem.W.Frag) (C : Addr) : Sp := fun vs H Q _ => ∃ (m x : Addr) (b e : Int) (cs : List Int) (ps : List (Int × Int)),
  vs = [.ref m, .int b, .ref x, .int e] ∧ MemAt K C H m cs ∧ LD K H x (ps.map d2) ∧ (rle cs).length ≤ 10000 ∧ ps.length ≤ 10000 ∧
  (0 ≤ b ∧ b ≤ e ∧ e ≤ cs.length) ∧ (cells ps).length = (e - b).toNat ∧
  ∀ H', Kp [m] H H' → MemAt K C H' m (laid cs b.toNat (cells ps) e.toNat) → Q .non H'
theorem sc_Memory_lay : FnScope ["self", "begin", "pairs", "end", "ahead", "behind"] ["self", "begin", "pairs", "end"] (defScope s_Memory_lay) :=
  ⟨rfl, rfl, rfl, by decide +kernel, rfl, by decide +kernel, by decide +kernel⟩
theorem ok_Memory_lay {P : Program} {w : World} {K : PySem.W.Frag} {mg : Str → Option Value} {base : Heap} (T : Txt K mg) :
    FnG P w K mg base 2 T.a_Memory_lay T.d_Memory_lay ["self", "begin", "pairs", "end"] (sp_lay K T.c_Memory) := by
  refine okD T.F_Memory_lay sc_Memory_lay (fun vs H Q E h => ?_) (fun cdv A outer s H vs Q E hr h => ?_)
  · first
      | (obtain ⟨_, rfl, _⟩ := h; rfl)
      | (obtain ⟨_, _, rfl, _⟩ := h; rfl)
      | (obtain ⟨_, _, _, rfl, _⟩ := h; rfl)
      | (obtain ⟨_, _, _, _, rfl, _⟩ := h; rfl)
      | (obtain ⟨_, _, _, _, _, rfl, _⟩ := h; rfl)
      | (obtain ⟨_, _, _, _, _, _, rfl, _⟩ := h; rfl)
      | (obtain ⟨_, _, _, _, _, _, _, rfl, _⟩ := h; rfl)
      | (obtain ⟨_, _, _, _, _, _, _, _, rfl, _⟩ := h; rfl)
      | (obtain ⟨_, _, _, _, _, _, _, _, _, rfl, _⟩ := h; rfl)
      | (obtain ⟨_, _, _, _, _, _, _, _, _, _, rfl, _⟩ := h; rfl)
      | (obtain ⟨_, _, _, _, _, _, _, _, _, _, _, rfl, _⟩ := h; rfl)
  · obtain ⟨m, x, b, e, cs, ps, rfl, ⟨dx, l, hm, ld⟩, lx, hn, hp, hb, hlen, k⟩ := h
    have n1 := cut_len 0 b (rle cs)
    have n2 := cut_len e cs.length (rle cs)
    have cl_Memory := T.cl_Memory
    have na_Memory_pairs := T.na_Memory_pairs
    have na_Memory_wide := T.na_Memory_wide
    refine ⟨_, (pss_cons (ps_set (i := 4) sc_Memory_lay.nd rfl (Or.inl rfl) (d1 (ok_cut_out T) (hr.mono (by decide)) (by rfl) T.m_cut_out T.F_cut_out.kp T.b_cut_out passL (pa_cons (k_fld (K := K) rfl (pv 0) rfl) (pa_cons pe_int (pa_cons (pv 1) pa_nil)))))
      (pss_cons (ps_set (i := 5) sc_Memory_lay.nd rfl (Or.inl rfl) (d1 (ok_cut_out T) (hr.mono (by decide)) (by rfl) T.m_cut_out T.F_cut_out.kp T.b_cut_out passL (pa_cons (k_fld (K := K) rfl (pv 0) rfl) (pa_cons (pv 3) (pa_cons (k_fld (K := K) rfl (pv 0) rfl) pa_nil)))))
      (pss_one (k_sfld (K := K) rfl (pv 0) (d1 (ok_joined T) (hr.mono (by decide)) (by rfl) T.m_joined T.F_joined.kp T.b_joined passL (pa_cons (pe_op (k_add (K := K) rfl) (pe_op (k_add (K := K) rfl) (pv 4) (pv 2)) (pv 5)) pa_nil)) rfl)))), ?_⟩
    dsimp only [cxOf, st_1, st_2, st_3, st_4, st_5, st_6, List.length_cons, List.length_nil, List.replicate_succ, List.replicate_zero, Nat.reduceAdd, Nat.reduceSub]
    walk_at "gs"
    refine ⟨l, 0, b, rle cs, rfl, ld.dp, by omega, fun f H1 hf k1 lf => ?_⟩
    have ld1 : LD K H1 l ((rle cs).map d2) := by walk_at "g_ld"
    have lx1 : LD K H1 x (ps.map d2) := by walk_at "g_ld"
    walk_at "gs"
    refine ⟨l, e, cs.length, rle cs, rfl, ld1.dp, by omega, fun g H2 hg k2 lg => ?_⟩
    have lx2 : LD K H2 x (ps.map d2) := by walk_at "g_ld"
    have lf2 : LD K H2 f ((cut 0 b (rle cs)).map d2) := by walk_at "g_ld"
    obtain ⟨xv, hx, ax⟩ := lx2
    obtain ⟨fv, hfv, af⟩ := lf2
    obtain ⟨gv, hgv, ag⟩ := lg
    have lx3 := dpa_len ax
    have lf3 := dpa_len af
    have lg3 := dpa_len ag
    rw [List.length_map] at lx3 lf3 lg3
    walk_at "gs"
    refine i_new fun s hs => ?_
    walk_at "gs"
    refine i_new fun u hu => ?_
    walk_at "gs"
    have kk : Kp [] H2 (upd (upd H2 s (.lst (fv ++ xv))) u (.lst (fv ++ xv ++ gv))) := by walk_at "g_kp"
    refine ⟨u, cut 0 b (rle cs) ++ ps ++ cut e cs.length (rle cs), rfl, ?_, ?_, fun j H3 hj k3 lj => ?_⟩
    · refine LD.dp ⟨_, upd_same, ?_⟩
      rw [List.map_append, List.map_append]
      exact dpa_imm kk _ _ (by rw [← List.map_append, ← List.map_append]; exact imms_d2 _) (dpa_app (dpa_app af ax) ag)
    · rw [List.length_append, List.length_append]
      omega
    · rw [laid_rle] at lj
      walk_at "gs"
      refine k _ (by walk_at "g_kp") ⟨dx, j, ?_, ?_⟩
      · rw [laid_len (by omega) (by omega) (by omega)]
        exact upd_same
      · walk_at "g_ld"

def sp_put (K : PySem.W.Frag) (C : Addr) : Sp := fun vs H Q _ => ∃ (m : Addr) (c v : Int) (cs : List Int),
  vs = [.ref m, .int c, .int v] ∧ MemAt K C H m cs ∧ (rle cs).length ≤ 10000 ∧ (0 ≤ c ∧ c < cs.length) ∧
  ∀ H', Kp [m] H H' → MemAt K C H' m (laid cs c.toNat [v] (c + 1).toNat) → Q .non H'
theorem sc_Memory_put : FnScope ["self", "cell", "number"] ["self", "cell", "number"] (defScope s_Memory_put) :=
  ⟨rfl, rfl, rfl, by decide +kernel, rfl, by decide +kernel, by decide +kernel⟩
theorem ok_Memory_put {P : Program} {w : World} {K : PySem.W.Frag} {mg : Str → Option Value} {base : Heap} (T : Txt K mg) :
    FnG P w K mg base 4 T.a_Memory_put T.d_Memory_put ["self", "cell", "number"] (sp_put K T.c_Memory) := by
  refine okD T.F_Memory_put sc_Memory_put (fun vs H Q E h => ?_) (fun cdv A outer s H vs Q E hr h => ?_)
  · first
      | (obtain ⟨_, rfl, _⟩ := h; rfl)
      | (obtain ⟨_, _, rfl, _⟩ := h; rfl)
      | (obtain ⟨_, _, _, rfl, _⟩ := h; rfl)
      | (obtain ⟨_, _, _, _, rfl, _⟩ := h; rfl)
      | (obtain ⟨_, _, _, _, _, rfl, _⟩ := h; rfl)
      | (obtain ⟨_, _, _, _, _, _, rfl, _⟩ := h; rfl)
      | (obtain ⟨_, _, _, _, _, _, _, rfl, _⟩ := h; rfl)
      | (obtain ⟨_, _, _, _, _, _, _, _, rfl, _⟩ := h; rfl)
      | (obtain ⟨_, _, _, _, _, _, _, _, _, rfl, _⟩ := h; rfl)
      | (obtain ⟨_, _, _, _, _, _, _, _, _, _, rfl, _⟩ := h; rfl)
      | (obtain ⟨_, _, _, _, _, _, _, _, _, _, _, rfl, _⟩ := h; rfl)
  · obtain ⟨m, c, v, cs, rfl, hM, hn, hc, k⟩ := h
    obtain ⟨dx, l, hm, ld⟩ := id hM
    have cl_Memory := T.cl_Memory
    have na_Memory_pairs := T.na_Memory_pairs
    have na_Memory_wide := T.na_Memory_wide
    refine ⟨_, (pss_cons (ps_expr (d1 (ok_want_cell T) (hr.mono (by decide)) (by rfl) T.m_want_cell T.F_want_cell.kp T.b_want_cell passL (pa_cons (pv 1) (pa_cons (k_fld (K := K) rfl (pv 0) rfl) pa_nil))))
      (pss_cons (ps_expr (d1 (ok_want_number T) (hr.mono (by decide)) (by rfl) T.m_want_number T.F_want_number.kp T.b_want_number passL (pa_cons (pv 2) pa_nil)))
      (pss_one (ps_expr (dm T.cl_Memory T.me_Memory_lay (ok_Memory_lay T) (hr.mono (by decide)) T.b_Memory_lay passL (pv 0) (pa_cons (pv 1) (pa_cons (pe_lst (pa_cons (pe_tup (pa_cons pe_int (pa_cons (pv 2) pa_nil))) pa_nil)) (pa_cons (pe_op (k_add (K := K) rfl) (pv 1) pe_int) pa_nil)))))))), ?_⟩
    dsimp only [cxOf, st_1, st_2, st_3, st_4, st_5, st_6, List.length_cons, List.length_nil, List.replicate_succ, List.replicate_zero, Nat.reduceAdd, Nat.reduceSub]
    walk_at "gs"
    refine ⟨c, cs.length, rfl, by omega, ?_⟩
    walk_at "gs"
    refine ⟨v, rfl, ?_⟩
    walk_at "gs"
    refine i_new fun t ht => ?_
    walk_at "gs"
    refine i_new fun x hx => ?_
    walk_at "gs"
    have e0 : cells [((1 : Int), v)] = [v] := rfl
    refine ⟨m, x, c, c + 1, cs, [(1, v)], rfl, ?_, ⟨_, upd_same, dpa_one (dp_mk2 (a := t) (m := 1) (n := v) (by walk_at "g_st"))⟩,
      hn, one_few, by omega, by rw [e0, List.length_singleton]; omega, fun H' k1 hM1 => ?_⟩
    · exact mem_upd (mem_upd hM (by walk_at "g_fr")) (by walk_at "g_fr")
    · rw [e0] at hM1
      walk_at "gs"
      exact k H' (by walk_at "g_kp") hM1
def sp_fill (K : PySem.W.Frag) (C : Addr) : Sp := fun vs H Q _ => ∃ (m : Addr) (b e v : Int) (cs : List Int),
  vs = [.ref m, .int b, .int e, .int v] ∧ MemAt K C H m cs ∧ (rle cs).length ≤ 10000 ∧ (0 ≤ b ∧ b ≤ e ∧ e ≤ cs.length) ∧
  ∀ H', Kp [m] H H' → MemAt K C H' m (laid cs b.toNat (List.replicate (e - b).toNat v) e.toNat) → Q .non H'

def sp_bring (K : PySem.W.Frag) (C : Addr) : Sp := fun vs H Q _ => ∃ (m : Addr) (b e t : Int) (src : V) (s : Addr) (cs ds : List Int),
  vs = [.ref m, .int b, .int e, .int t, src] ∧ MemAt K C H m cs ∧ MemAt K C H s ds ∧
  ((src = .non ∧ m = s ∧ cs = ds) ∨ src = .ref s) ∧ ds.length = cs.length ∧ (rle cs).length ≤ 10000 ∧ (rle ds).length ≤ 10000 ∧
  (0 ≤ b ∧ b ≤ e ∧ e ≤ cs.length) ∧ (0 ≤ t ∧ t ≤ cs.length - (e - b)) ∧
  ∀ H', Kp [m] H H' → MemAt K C H' m (laid cs t.toNat ((ds.drop b.toNat).take (e.toNat - b.toNat)) (t + e - b).toNat) → Q .non H'
theorem sc_Memory_bring : FnScope ["self", "begin", "end", "to", "source", "given"] ["self", "begin", "end", "to", "source"] (defScope s_Memory_bring) :=
  ⟨rfl, rfl, rfl, by decide +kernel, rfl, by decide +kernel, by decide +kernel⟩
theorem ok_Memory_bring {P : Program} {w : World} {K : PySem.W.Frag} {mg : Str → Option Value} {base : Heap} (T : Txt K mg) :
    FnG P w K mg base 4 T.a_Memory_bring T.d_Memory_bring ["self", "begin", "end", "to", "source"] (sp_bring K T.c_Memory) := by
  refine okD T.F_Memory_bring sc_Memory_bring (fun vs H Q E h => ?_) (fun cdv A outer s H vs Q E hr h => ?_)
  · first
      | (obtain ⟨_, rfl, _⟩ := h; rfl)
      | (obtain ⟨_, _, rfl, _⟩ := h; rfl)
      | (obtain ⟨_, _, _, rfl, _⟩ := h; rfl)
      | (obtain ⟨_, _, _, _, rfl, _⟩ := h; rfl)
      | (obtain ⟨_, _, _, _, _, rfl, _⟩ := h; rfl)
      | (obtain ⟨_, _, _, _, _, _, rfl, _⟩ := h; rfl)
      | (obtain ⟨_, _, _, _, _, _, _, rfl, _⟩ := h; rfl)
      | (obtain ⟨_, _, _, _, _, _, _, _, rfl, _⟩ := h; rfl)
      | (obtain ⟨_, _, _, _, _, _, _, _, _, rfl, _⟩ := h; rfl)
      | (obtain ⟨_, _, _, _, _, _, _, _, _, _, rfl, _⟩ := h; rfl)
      | (obtain ⟨_, _, _, _, _, _, _, _, _, _, _, rfl, _⟩ := h; rfl)
  · obtain ⟨m, b, e, t, src, s, cs, ds, rfl, hM, hS, hs, hl, hn, hn2, hb, ht, k⟩ := h
    obtain ⟨dx, l, hm, ld⟩ := id hM
    have cl_Memory := T.cl_Memory
    have na_Memory_pairs := T.na_Memory_pairs
    have na_Memory_wide := T.na_Memory_wide
    refine ⟨_, (pss_cons (ps_expr (d1 (ok_want_stretch T) (hr.mono (by decide)) (by rfl) T.m_want_stretch T.F_want_stretch.kp T.b_want_stretch passL (pa_cons (pv 1) (pa_cons (pv 2) (pa_cons (k_fld (K := K) rfl (pv 0) rfl) pa_nil)))))
      (pss_cons (ps_if (pt_not (pt_val (d1 (ok_is_whole T) (hr.mono (by decide)) (by rfl) T.m_is_whole T.F_is_whole.kp T.b_is_whole passL (pa_cons (pv 3) (pa_cons pe_int (pa_cons (pe_op op_sub (k_fld (K := K) rfl (pv 0) rfl) (pe_op op_sub (pv 2) (pv 1))) pa_nil)))))) (pss_one ps_never) pss_nil)
      (pss_cons (ps_set (i := 5) sc_Memory_bring.nd rfl (Or.inl rfl) (pe_ifExp (pt_cmpR op_isN1 (pv 4) pe_non (nomark _)) (pv 0) (pv 4)))
      (pss_cons (ps_if (pt_cmpR (k_ne (K := K) rfl hr.r.units) (dm0 T.cl_Memory T.me_Memory_size (ok_Memory_size T) (hr.mono (by decide)) T.b_Memory_size passL (pv 5)) (k_fld (K := K) rfl (pv 0) rfl) (nomark _)) (pss_one ps_never) pss_nil)
      (pss_one (ps_expr (dm T.cl_Memory T.me_Memory_lay (ok_Memory_lay T) (hr.mono (by decide)) T.b_Memory_lay passL (pv 0) (pa_cons (pv 3) (pa_cons (d1 (ok_cut_out T) (hr.mono (by decide)) (by rfl) T.m_cut_out T.F_cut_out.kp T.b_cut_out passL (pa_cons (dm0 T.cl_Memory T.me_Memory_runs (ok_Memory_runs T) (hr.mono (by decide)) T.b_Memory_runs passL (pv 5)) (pa_cons (pv 1) (pa_cons (pv 2) pa_nil)))) (pa_cons (pe_op op_sub (pe_op (k_add (K := K) rfl) (pv 3) (pv 2)) (pv 1)) pa_nil)))))))))), ?_⟩
    dsimp only [cxOf, st_1, st_2, st_3, st_4, st_5, st_6, List.length_cons, List.length_nil, List.replicate_succ, List.replicate_zero, Nat.reduceAdd, Nat.reduceSub]
    walk_at "gs"
    refine ⟨b, e, cs.length, rfl, by omega, ?_⟩
    walk_at "gs"
    refine ⟨t, 0, cs.length - (e - b), rfl, ?_⟩
    walk_at "gs"
    refine i_decN (fun d => absurd (by omega) d) (fun _ => ?_)
    walk_at "gs"
    rcases hs with ⟨e1, e2, e3⟩ | e1
    · subst e1
      subst e2
      subst e3
      walk_at "gs"
      refine ⟨_, _, rfl, hS, ?_⟩
      walk_at "gs"
      refine i_decN (fun d => absurd (by omega) d) (fun _ => ?_)
      walk_at "gs"
      refine ⟨_, _, rfl, hS, fun l1 H1 hl1 k1 ld1 => ?_⟩
      walk_at "gs"
      refine ⟨l1, b, e, _, rfl, ld1.dp, by omega, fun l2 H2 hl2 k2 ld2 => ?_⟩
      walk_at "gs"
      refine ⟨m, l2, t, t + e - b, cs, _, rfl, mem_kp0 (mem_kp0 hM k1) k2, ld2, hn, Nat.le_trans (cut_len _ _ _) hn2, by omega, ?_, fun H' k3 hM' => ?_⟩
      · rw [cut_rle, List.length_take, List.length_drop]
        omega
      · walk_at "gs"
        rw [cut_rle] at hM'
        exact k H' (by walk_at "g_kp") hM'
    · subst e1
      obtain ⟨dx2, l2, hms, lds⟩ := id hS
      walk_at "gs"
      refine ⟨_, _, rfl, hS, ?_⟩
      walk_at "gs"
      refine i_decN (fun d => absurd (by omega) d) (fun _ => ?_)
      walk_at "gs"
      refine ⟨_, _, rfl, hS, fun l1 H1 hl1 k1 ld1 => ?_⟩
      walk_at "gs"
      refine ⟨l1, b, e, _, rfl, ld1.dp, by omega, fun l2 H2 hl2 k2 ld2 => ?_⟩
      walk_at "gs"
      refine ⟨m, l2, t, t + e - b, cs, _, rfl, mem_kp0 (mem_kp0 hM k1) k2, ld2, hn, Nat.le_trans (cut_len _ _ _) hn2, by omega, ?_, fun H' k3 hM' => ?_⟩
      · rw [cut_rle, List.length_take, List.length_drop]
        omega
      · walk_at "gs"
        rw [cut_rle] at hM'
        exact k H' (by walk_at "g_kp") hM'

def sp_law_place : Sp := fun vs H Q _ => ∃ (p : Addr) (n : Int), vs = [.ref p, .int n] ∧ PotAt H p ∧ (0 ≤ n ∧ n ≤ 1000000000000000000) ∧
  ∀ r H', 0 ≤ r → r ≤ n → PotAt H' p → Kp [p] H H' → Q (.int r) H'
theorem sc_law_place : FnScope ["_law_pot_here", "_law_most", "_law_way"] ["_law_pot_here", "_law_most"] (defScope s_law_place) :=
  ⟨rfl, rfl, rfl, by decide +kernel, rfl, by decide +kernel, by decide +kernel⟩
theorem ok_law_place {P : Program} {w : World} {K : PySem.W.Frag} {mg : Str → Option Value} {base : Heap} (T : Txt K mg) :
    FnG P w K mg base 2 T.a_law_place T.d_law_place ["_law_pot_here", "_law_most"] sp_law_place := by
  refine okD T.F_law_place sc_law_place (fun vs H Q E h => ?_) (fun cdv A outer s H vs Q E hr h => ?_)
  · first
      | (obtain ⟨_, rfl, _⟩ := h; rfl)
      | (obtain ⟨_, _, rfl, _⟩ := h; rfl)
      | (obtain ⟨_, _, _, rfl, _⟩ := h; rfl)
      | (obtain ⟨_, _, _, _, rfl, _⟩ := h; rfl)
      | (obtain ⟨_, _, _, _, _, rfl, _⟩ := h; rfl)
      | (obtain ⟨_, _, _, _, _, _, rfl, _⟩ := h; rfl)
      | (obtain ⟨_, _, _, _, _, _, _, rfl, _⟩ := h; rfl)
      | (obtain ⟨_, _, _, _, _, _, _, _, rfl, _⟩ := h; rfl)
      | (obtain ⟨_, _, _, _, _, _, _, _, _, rfl, _⟩ := h; rfl)
      | (obtain ⟨_, _, _, _, _, _, _, _, _, _, rfl, _⟩ := h; rfl)
      | (obtain ⟨_, _, _, _, _, _, _, _, _, _, _, rfl, _⟩ := h; rfl)
  · obtain ⟨p, n, rfl, hp, hn, k⟩ := h
    refine ⟨_, (pss_cons (ps_set (i := 2) sc_law_place.nd rfl (Or.inl rfl) (d1 (ok_law_draw T) (hr.mono (by decide)) (by rfl) T.m_law_draw T.F_law_draw.kp T.b_law_draw passL (pa_cons (pv 0) (pa_cons pe_int pa_nil))))
      (pss_cons (ps_if (pt_cmpR op_lt (pv 2) pe_int (nomark _)) (pss_one (ps_ret (pe_ix (k_ix (K := K) rfl) (pe_lst (pa_cons pe_int (pa_cons (pv 1) pa_nil))) (pv 2) (fun _ _ => rfl)))) pss_nil)
      (pss_one (ps_ret (pe_ifExp (pt_cmpR op_lt (pv 2) pe_int (nomark _)) (pe_callB (c_min2 rfl) (by rfl) T.n_min (by decide +kernel) (pa_cons (pv 1) (pa_cons (d1 (ok_law_draw T) (hr.mono (by decide)) (by rfl) T.m_law_draw T.F_law_draw.kp T.b_law_draw passL (pa_cons (pv 0) (pa_cons pe_int pa_nil))) pa_nil))) (d1 (ok_law_draw T) (hr.mono (by decide)) (by rfl) T.m_law_draw T.F_law_draw.kp T.b_law_draw passL (pa_cons (pv 0) (pa_cons (pe_op (k_add (K := K) rfl) (pv 1) pe_int) pa_nil)))))))), ?_⟩
    dsimp only [cxOf, st_1, st_2, st_3, st_4, st_5, st_6, List.length_cons, List.length_nil, List.replicate_succ, List.replicate_zero, Nat.reduceAdd, Nat.reduceSub]
    walk_at "gs"
    refine use_draw hp (by decide) (by decide) (fun w H1 a1 a2 hp1 k1 => ?_)
    walk_at "gs"
    refine i_dec (fun c => ?_) (fun c => ?_)
    · walk_at "gs"
      refine i_new fun t ht => ?_
      obtain ⟨r, hat, hr⟩ : ∃ r : Int, atI [V.int 0, V.int n] w = some (.int r) ∧ (0 ≤ r ∧ r ≤ n) := by
        have e : w = 0 ∨ w = 1 := by omega
        rcases e with rfl | rfl
        · exact ⟨0, rfl, by omega⟩
        · exact ⟨n, rfl, by omega⟩
      walk_at "gs"
      exact k _ _ hr.1 hr.2 (by walk_at "g_pot") (by walk_at "g_kp")
    · walk_at "gs"
      refine i_dec (fun d => ?_) (fun d => ?_)
      · walk_at "gs"
        refine use_draw hp1 (by decide) (by decide) (fun r H2 b1 b2 hp2 k2 => ?_)
        walk_at "gs"
        exact k _ _ (by omega) (by omega) hp2 (by walk_at "g_kp")
      · walk_at "gs"
        refine use_draw hp1 (by omega) (by omega) (fun r H2 b1 b2 hp2 k2 => ?_)
        exact k _ _ (by omega) (by omega) hp2 (by walk_at "g_kp")
theorem use_place {H : Hp} {Q : VK} {E : XK} {p : Addr} {n : Int} (hp : PotAt H p) (h0 : 0 ≤ n) (h1 : n ≤ 1000000000000000000)
    (k : ∀ r H', 0 ≤ r → r ≤ n → PotAt H' p → Kp [p] H H' → Q (.int r) H') :
    sp_law_place [.ref p, .int n] H Q E := ⟨p, n, rfl, hp, ⟨h0, h1⟩, k⟩

def sp_law_stretch : Sp := fun vs H Q _ => ∃ (p : Addr) (n : Int), vs = [.ref p, .int n] ∧ PotAt H p ∧ (0 ≤ n ∧ n ≤ 1000000000000000000) ∧
  ∀ t a b H', Fr H t → H' t = some (.tup [.int a, .int b]) → (0 ≤ a ∧ a ≤ b ∧ b ≤ n) → PotAt H' p → Kp [p] H H' → Q (.ref t) H'
theorem sc_law_stretch : FnScope ["_law_pot_here", "_law_most", "_law_low"] ["_law_pot_here", "_law_most"] (defScope s_law_stretch) :=
  ⟨rfl, rfl, rfl, by decide +kernel, rfl, by decide +kernel, by decide +kernel⟩
theorem ok_law_stretch {P : Program} {w : World} {K : PySem.W.Frag} {mg : Str → Option Value} {base : Heap} (T : Txt K mg) :
    FnG P w K mg base 3 T.a_law_stretch T.d_law_stretch ["_law_pot_here", "_law_most"] sp_law_stretch := by
  refine okD T.F_law_stretch sc_law_stretch (fun vs H Q E h => ?_) (fun cdv A outer s H vs Q E hr h => ?_)
  · first
      | (obtain ⟨_, rfl, _⟩ := h; rfl)
      | (obtain ⟨_, _, rfl, _⟩ := h; rfl)
      | (obtain ⟨_, _, _, rfl, _⟩ := h; rfl)
      | (obtain ⟨_, _, _, _, rfl, _⟩ := h; rfl)
      | (obtain ⟨_, _, _, _, _, rfl, _⟩ := h; rfl)
      | (obtain ⟨_, _, _, _, _, _, rfl, _⟩ := h; rfl)
      | (obtain ⟨_, _, _, _, _, _, _, rfl, _⟩ := h; rfl)
      | (obtain ⟨_, _, _, _, _, _, _, _, rfl, _⟩ := h; rfl)
      | (obtain ⟨_, _, _, _, _, _, _, _, _, rfl, _⟩ := h; rfl)
      | (obtain ⟨_, _, _, _, _, _, _, _, _, _, rfl, _⟩ := h; rfl)
      | (obtain ⟨_, _, _, _, _, _, _, _, _, _, _, rfl, _⟩ := h; rfl)
  · obtain ⟨p, n, rfl, hp, hn, k⟩ := h
    refine ⟨_, (pss_cons (ps_set (i := 2) sc_law_stretch.nd rfl (Or.inl rfl) (d1 (ok_law_place T) (hr.mono (by decide)) (by rfl) T.m_law_place T.F_law_place.kp T.b_law_place passL (pa_cons (pv 0) (pa_cons (pv 1) pa_nil))))
      (pss_one (ps_ret (pe_tup (pa_cons (pv 2) (pa_cons (pe_op (k_add (K := K) rfl) (pv 2) (d1 (ok_law_place T) (hr.mono (by decide)) (by rfl) T.m_law_place T.F_law_place.kp T.b_law_place passL (pa_cons (pv 0) (pa_cons (pe_op op_sub (pv 1) (pv 2)) pa_nil)))) pa_nil)))))), ?_⟩
    dsimp only [cxOf, st_1, st_2, st_3, st_4, st_5, st_6, List.length_cons, List.length_nil, List.replicate_succ, List.replicate_zero, Nat.reduceAdd, Nat.reduceSub]
    walk_at "gs"
    refine use_place hp hn.1 hn.2 (fun a H1 a1 a2 hp1 k1 => ?_)
    walk_at "gs"
    refine use_place hp1 (by omega) (by omega) (fun d H2 b1 b2 hp2 k2 => ?_)
    walk_at "gs"
    refine i_new fun t ht => ?_
    exact k t a (a + d) _ (k1.free (k2.free ht)) upd_same (by omega) (by walk_at "g_pot") (by walk_at "g_kp")
theorem use_stretch {H : Hp} {Q : VK} {E : XK} {p : Addr} {n : Int} (hp : PotAt H p) (h0 : 0 ≤ n) (h1 : n ≤ 1000000000000000000)
    (k : ∀ t a b H', Fr H t → H' t = some (.tup [.int a, .int b]) → (0 ≤ a ∧ a ≤ b ∧ b ≤ n) → PotAt H' p → Kp [p] H H' → Q (.ref t) H') :
    sp_law_stretch [.ref p, .int n] H Q E := ⟨p, n, rfl, hp, ⟨h0, h1⟩, k⟩

def sp_law_runs_of (K : PySem.W.Frag) : Sp := fun vs H Q _ => ∃ (a : Addr) (cs : List Int),
  vs = [.ref a] ∧ SqL K H a (cs.map V.int) ∧ cs.length ≤ 100000 ∧
  ∀ l H', Fr H l → Kp [] H H' → LD K H' l ((rle cs).map d2) → Q (.ref l) H'
theorem tag_pos (c : Int) : 0 < (tag c).1 := by
  show (0 : Int) < 1
  decide
theorem sc_law_runs_of : FnScope ["_law_cells_told", "_law_found", "_law_what"] ["_law_cells_told"] (defScope s_law_runs_of) :=
  ⟨rfl, rfl, rfl, by decide +kernel, rfl, by decide +kernel, by decide +kernel⟩
theorem ok_law_runs_of {P : Program} {w : World} {K : PySem.W.Frag} {mg : Str → Option Value} {base : Heap} (T : Txt K mg) :
    FnG P w K mg base 1 T.a_law_runs_of T.d_law_runs_of ["_law_cells_told"] (sp_law_runs_of K) := by
  refine okD T.F_law_runs_of sc_law_runs_of (fun vs H Q E h => ?_) (fun cdv A outer s H vs Q E hr h => ?_)
  · first
      | (obtain ⟨_, rfl, _⟩ := h; rfl)
      | (obtain ⟨_, _, rfl, _⟩ := h; rfl)
      | (obtain ⟨_, _, _, rfl, _⟩ := h; rfl)
      | (obtain ⟨_, _, _, _, rfl, _⟩ := h; rfl)
      | (obtain ⟨_, _, _, _, _, rfl, _⟩ := h; rfl)
      | (obtain ⟨_, _, _, _, _, _, rfl, _⟩ := h; rfl)
      | (obtain ⟨_, _, _, _, _, _, _, rfl, _⟩ := h; rfl)
      | (obtain ⟨_, _, _, _, _, _, _, _, rfl, _⟩ := h; rfl)
      | (obtain ⟨_, _, _, _, _, _, _, _, _, rfl, _⟩ := h; rfl)
      | (obtain ⟨_, _, _, _, _, _, _, _, _, _, rfl, _⟩ := h; rfl)
      | (obtain ⟨_, _, _, _, _, _, _, _, _, _, _, rfl, _⟩ := h; rfl)
  · obtain ⟨a, cs, rfl, hsq, hps, k⟩ := h
    have cl_Memory := T.cl_Memory
    have na_Memory_pairs := T.na_Memory_pairs
    have na_Memory_wide := T.na_Memory_wide
    refine ⟨_, (pss_cons (ps_set (i := 1) sc_law_runs_of.nd rfl (Or.inl rfl) (pe_lst pa_nil))
      (pss_cons (ps_for (passes_of rfl) rfl (k_plist (K := K) rfl (pv 0)) (pg_name (i := 2) sc_law_runs_of.nd rfl (Or.inl rfl))
      (pss_one (ps_if (PW.pt (pw_and (pt_cmpR (k_ne (K := K) rfl hr.r.units) (pv 1) (pe_lst pa_nil) (nomark _)) (pw_and1 (pt_cmpR (k_eq (K := K) rfl hr.r.units) (pe_ix (k_ix (K := K) rfl) (pe_ix (k_ix (K := K) rfl) (pv 1) (pe_un un_neg pe_int) (fun _ _ => rfl)) pe_int (fun _ _ => rfl)) (pv 2) (nomark _))))) (pss_one (ps_asg (pe_tup (pa_cons (pe_op (k_add (K := K) rfl) (pe_ix (k_ix (K := K) rfl) (pe_ix (k_ix (K := K) rfl) (pv 1) (pe_un un_neg pe_int) (fun _ _ => rfl)) pe_int (fun _ _ => rfl)) pe_int) (pa_cons (pv 2) pa_nil))) (pg_sub (pv 1) (pe_un un_neg pe_int) set_list))) (pss_one (ps_expr (pe_bm PySem.F.plainAttrs_list PySem.F.slot_list_append PySem.F.type_list_append mt_append (pv 1) (pa_cons (pe_tup (pa_cons pe_int (pa_cons (pv 2) pa_nil))) pa_nil)))))))
      (pss_one (ps_ret (pv 1))))), ?_⟩
    dsimp only [cxOf, st_1, st_2, st_3, st_4, st_5, st_6, List.length_cons, List.length_nil, List.replicate_succ, List.replicate_zero, Nat.reduceAdd, Nat.reduceSub]
    walk_at "gs"
    refine i_new fun l hl => ?_
    walk_at "gs"
    refine i_each ((Kp.new hl).seqL (ws := []) List.not_mem_nil hsq) (fun i σ H' => ∃ u, σ = [some (.ref a), some (.ref l), u] ∧ Kp [] H H' ∧
      LD K H' l ((jnd ((cs.map tag).take i)).map d2)) ?_ ?_ ?_ ?_
    · exact ⟨none, rfl, Kp.new hl, ⟨[], upd_same, .nil⟩⟩
    · rintro i σ H' _ ⟨u, rfl, kp, ld⟩
      exact kp.seqL List.not_mem_nil hsq
    · rintro i x σ H' hx ⟨u, rfl, kp, ld⟩
      obtain ⟨c, hc, rfl⟩ := map_get hx
      have hp : (cs.map tag)[i]? = some (tag c) := by rw [List.getElem?_map, hc]; rfl
      obtain ⟨vs, hvs, hall2⟩ := id ld
      have hvl := dpa_len hall2
      rw [List.length_map] at hvl
      have hjl := jnd_len (cs.map tag) i
      have hil : i < cs.length := (List.getElem?_eq_some_iff.mp hc).1
      walk_at "gs"
      refine i_new fun q hq => ?_
      walk_at "gs"
      refine ne_nil ld (imms_d2 _) (shaped_pairs _) hq ?_
      walk_at "gs"
      refine i_boN (fun e => ?_) (fun e => ?_)
      · obtain ⟨f0, q0, hF⟩ := list_last (l := jnd ((cs.map tag).take i)) (by
          intro z
          rw [z] at e
          cases e)
        rw [hF, List.map_append] at hall2
        obtain ⟨us, x, rfl, hu, hx2⟩ := dpa_last hall2
        obtain ⟨qa, rfl, hqa⟩ := dp_pair hx2
        rw [List.length_append, List.length_singleton] at hvl
        walk_at "gs"
        refine i_dec (fun h1 => ?_) (fun h1 => ?_)
        · walk_at "gs"
          refine i_new fun t ht => ?_
          walk_at "gs"
          rw [set_last]
          rw [jnd_take hp, hF, jst_same (p := tag c) (tag_pos c) h1, List.map_append]
          refine ⟨_, rfl, by walk_at "g_kp", ?_⟩
          exact ld_push (ws := [l]) (H0 := H') (by walk_at "g_kp") hu (imms_d2 _) upd_same (dp_mk2 (a := t) (m := q0.1 + 1) (n := c) (by walk_at "g_st"))
        · walk_at "gs"
          refine i_new fun t ht => ?_
          walk_at "gs"
          rw [jnd_take hp, hF, jst_other (p := tag c) (tag_pos c) h1, List.map_append, List.map_append]
          refine ⟨_, rfl, by walk_at "g_kp", ?_⟩
          exact ld_push (ws := [l]) (H0 := H') (by walk_at "g_kp") (dpa_app hu (dpa_one hx2)) (by rw [← List.map_append]; exact imms_d2 _) upd_same (dp_mk2 (a := t) (m := 1) (n := c) (by walk_at "g_st"))
      · walk_at "gs"
        refine i_new fun t ht => ?_
        walk_at "gs"
        have hF : jnd ((cs.map tag).take i) = [] := by
          cases z : jnd ((cs.map tag).take i) with
          | nil => rfl
          | cons x y =>
            rw [z] at e
            cases e
        rw [hF] at hall2
        cases hall2
        rw [jnd_take hp, hF, jst_nil (p := tag c) (tag_pos c)]
        exact ⟨_, rfl, by walk_at "g_kp", _, upd_same, dpa_one (dp_mk2 (a := t) (m := 1) (n := c) (by walk_at "g_st"))⟩
    · rintro σ H' ⟨u, rfl, kp, ld⟩
      walk_at "gs"
      rw [List.take_of_length_le (by rw [List.length_map, List.length_map]; omega), jnd_wr] at ld
      exact k l H' hl kp ld

/-! ### two memories beside two lists -/
def chg (c : Nat → List Int) (j : Nat) (x : List Int) : Nat → List Int := fun i => if i = j then x else c i
structure Two (K : PySem.W.Frag) (C p B L : Addr) (m q : Nat → Addr) (w : Nat) (c : Nat → List Int) (H : Hp) : Prop where
  pot : PotAt H p
  mem : ∀ j, j < 2 → MemAt K C H (m j) (c j)
  lst : ∀ j, j < 2 → H (q j) = some (.lst ((c j).map V.int))
  len : ∀ j, j < 2 → (c j).length = w
  hB : H B = some (.lst [.ref (m 0), .ref (m 1)])
  hL : H L = some (.lst [.ref (q 0), .ref (q 1)])
structure Apart (p : Addr) (m q : Nat → Addr) (w : Nat) : Prop where
  w0 : 1 ≤ w
  w1 : w ≤ 48
  nm : ∀ i j, i < 2 → j < 2 → i ≠ j → m i ≠ m j
  nq : ∀ i j, i < 2 → j < 2 → i ≠ j → q i ≠ q j
  np : ∀ j, j < 2 → q j ≠ p
def five (p : Addr) (m q : Nat → Addr) : List Addr := [p, m 0, m 1, q 0, q 1]
section
variable {K : PySem.W.Frag} {C p B L : Addr} {m q : Nat → Addr} {w j : Nat} {c : Nat → List Int} {H H' : Hp} {ws : List Addr}
theorem ints_cons {cs : List Int} (h : 1 ≤ cs.length) : ∃ i xs, cs.map V.int = .int i :: xs := by
  cases cs with
  | nil => cases h
  | cons i t => exact ⟨i, _, rfl⟩
theorem Two.loose (t : Two K C p B L m q w c H) (a : Apart p m q w) (hj : j < 2) : ∃ i xs, H (q j) = some (.lst (.int i :: xs)) := by
  obtain ⟨i, xs, e⟩ := ints_cons (cs := c j) (by rw [t.len j hj]; exact a.w0)
  exact ⟨i, xs, by rw [t.lst j hj, e]⟩
theorem Two.ins (t : Two K C p B L m q w c H) (hj : j < 2) : ∃ dx fs, H (m j) = some (.ins C dx fs) := by
  obtain ⟨dx, l, e, _⟩ := t.mem j hj
  exact ⟨dx, _, e⟩
theorem two_ne {a b : Addr} {u v : HO} (h1 : H a = some u) (h2 : H b = some v) (n : u ≠ v) : a ≠ b := by
  intro z
  rw [z, h2] at h1
  cases h1
  exact n rfl
theorem not_three {a b c d : Addr} (h : a ≠ b) (h2 : a ≠ c) (h3 : a ≠ d) : a ∉ [b, c, d] := fun z => by
  rcases List.mem_cons.mp z with e | e
  · exact h e
  · exact not_two h2 h3 e
theorem Two.kpp (t : Two K C p B L m q w c H) (a : Apart p m q w) (k : Kp [p] H H') (hp : PotAt H' p) : Two K C p B L m q w c H' := by
  obtain ⟨x, y, e, _⟩ := id t.pot
  refine ⟨hp, fun j hj => mem_kp1 (t.mem j hj) k (oth_pot t.pot), fun j hj => k.at_ _ _ (t.lst j hj) (not_one (a.np j hj)), t.len,
    k.at_ _ _ t.hB (not_one (two_ne t.hB e fun z => nomatch z)), k.at_ _ _ t.hL (not_one (two_ne t.hL e fun z => nomatch z))⟩
theorem Two.kp0 (t : Two K C p B L m q w c H) (k : Kp [] H H') : Two K C p B L m q w c H' :=
  ⟨t.pot.kp k not_nil, fun j hj => mem_kp0 (t.mem j hj) k, fun j hj => k.at_ _ _ (t.lst j hj) not_nil, t.len,
    k.at_ _ _ t.hB not_nil, k.at_ _ _ t.hL not_nil⟩
theorem Two.set (t : Two K C p B L m q w c H) (a : Apart p m q w) (hj : j < 2) {x : List Int} (hx : x.length = w)
    (k : Kp [p, m j, q j] H H') (hp : PotAt H' p) (hm : MemAt K C H' (m j) x) (hq : H' (q j) = some (.lst (x.map V.int))) :
    Two K C p B L m q w (chg c j x) H' := by
  obtain ⟨i0, xs0, e0⟩ := t.loose a hj
  obtain ⟨dx, fs, e1⟩ := t.ins hj
  obtain ⟨y0, y1, e2, _⟩ := id t.pot
  refine ⟨hp, fun i hi => ?_, fun i hi => ?_, fun i hi => ?_, ?_, ?_⟩
  · unfold chg
    by_cases z : i = j
    · rw [if_pos z, z]
      exact hm
    · rw [if_neg z]
      refine (t.mem i hi).kp k fun b hb => ?_
      rcases List.mem_cons.mp hb with rfl | hb
      · exact oth_pot t.pot
      rcases List.mem_cons.mp hb with rfl | hb
      · exact .inr ⟨a.nm j i hj hi (Ne.symm z), _, _, _, e1⟩
      · rw [List.mem_singleton.mp hb]
        exact .inl ⟨_, _, e0⟩
  · unfold chg
    by_cases z : i = j
    · rw [if_pos z, z]
      exact hq
    · rw [if_neg z]
      exact k.at_ _ _ (t.lst i hi) (not_three (a.np i hi) (two_ne (t.lst i hi) e1 fun z => nomatch z) (a.nq i j hi hj z))
  · unfold chg
    by_cases z : i = j
    · rw [if_pos z]
      exact hx
    · rw [if_neg z]
      exact t.len i hi
  · exact k.at_ _ _ t.hB (not_three (two_ne t.hB e2 fun z => nomatch z) (two_ne t.hB e1 fun z => nomatch z) (two_ne t.hB e0 fun z => nomatch z))
  · exact k.at_ _ _ t.hL (not_three (two_ne t.hL e2 fun z => nomatch z) (two_ne t.hL e1 fun z => nomatch z) (two_ne t.hL e0 fun z => nomatch z))
theorem Two.few (t : Two K C p B L m q w c H) (a : Apart p m q w) (hj : j < 2) : (rle (c j)).length ≤ 10000 := by
  have h := rle_len (c j)
  have h2 := t.len j hj
  have h3 := a.w1
  omega
theorem five_p : p ∈ five p m q := List.mem_cons_self
theorem five_m (hj : j < 2) : m j ∈ five p m q := by
  have e : j = 0 ∨ j = 1 := by omega
  rcases e with rfl | rfl <;> simp [five]
theorem five_q (hj : j < 2) : q j ∈ five p m q := by
  have e : j = 0 ∨ j = 1 := by omega
  rcases e with rfl | rfl <;> simp [five]
theorem five_kp (k : Kp [p] H H') : Kp (five p m q) H H' := k.mono fun b hb => by
  rw [List.mem_singleton.mp hb]
  exact five_p
theorem five_mq (hj : j < 2) (k : Kp [p, m j, q j] H H') : Kp (five p m q) H H' := k.mono fun b hb => by
  rcases List.mem_cons.mp hb with rfl | hb
  · exact five_p
  rcases List.mem_cons.mp hb with rfl | hb
  · exact five_m hj
  · rw [List.mem_singleton.mp hb]
    exact five_q hj
theorem tri {a b : Addr} {H0 H1 H2 H3 : Hp} (k1 : Kp [p] H0 H1) (k2 : Kp [b] H1 H2) (k3 : Kp [a] H2 H3) : Kp [p, a, b] H0 H3 :=
  Kp.trans (k1.mono fun x hx => by rw [List.mem_singleton.mp hx]; simp) (Kp.trans (k2.mono fun x hx => by rw [List.mem_singleton.mp hx]; simp)
    (k3.mono fun x hx => by rw [List.mem_singleton.mp hx]; simp))
theorem tri2 {a b : Addr} {H0 H1 H2 H3 : Hp} (k1 : Kp [b] H0 H1) (k2 : Kp [p] H1 H2) (k3 : Kp [a] H2 H3) : Kp [p, a, b] H0 H3 :=
  Kp.trans (k1.mono fun x hx => by rw [List.mem_singleton.mp hx]; simp) (Kp.trans (k2.mono fun x hx => by rw [List.mem_singleton.mp hx]; simp)
    (k3.mono fun x hx => by rw [List.mem_singleton.mp hx]; simp))
theorem laid_set {cs : List Int} {j : Nat} {v : Int} (h : j < cs.length) : laid cs j [v] (j + 1) = cs.set j v := by
  unfold laid
  rw [List.set_eq_take_append_cons_drop, if_pos h, List.append_assoc]
  rfl
theorem map_laid {cs x : List Int} {b e : Nat} : (laid cs b x e).map V.int = (cs.map V.int).take b ++ x.map V.int ++ (cs.map V.int).drop e := by
  unfold laid
  rw [List.map_append, List.map_append, List.map_take, List.map_drop]
end
/-! ### one deed -/
def sp_law_done (K : PySem.W.Frag) (C : Addr) : Sp := fun vs H Q _ => ∃ (p B L : Addr) (m q : Nat → Addr) (w : Nat) (c : Nat → List Int),
  vs = [.ref p, .ref B, .ref L] ∧ Two K C p B L m q w c H ∧ Apart p m q w ∧
  ∀ c' H', Two K C p B L m q w c' H' → Kp (five p m q) H H' → Q .non H'
theorem sc_law_done : FnScope ["_law_pot_here", "_law_both", "_law_lists", "_law_wide", "_law_which", "_law_at", "_law_what", "_law_low", "_law_high", "_law_goal", "_law_of_which", "_law_piece"] ["_law_pot_here", "_law_both", "_law_lists"] (defScope s_law_done) :=
  ⟨rfl, rfl, rfl, by decide +kernel, rfl, by decide +kernel, by decide +kernel⟩
theorem ok_law_done {P : Program} {w : World} {K : PySem.W.Frag} {mg : Str → Option Value} {base : Heap} (T : Txt K mg) :
    FnG P w K mg base 5 T.a_law_done T.d_law_done ["_law_pot_here", "_law_both", "_law_lists"] (sp_law_done K T.c_Memory) := by
  refine okD T.F_law_done sc_law_done (fun vs H Q E h => ?_) (fun cdv A outer s H vs Q E hr h => ?_)
  · first
      | (obtain ⟨_, rfl, _⟩ := h; rfl)
      | (obtain ⟨_, _, rfl, _⟩ := h; rfl)
      | (obtain ⟨_, _, _, rfl, _⟩ := h; rfl)
      | (obtain ⟨_, _, _, _, rfl, _⟩ := h; rfl)
      | (obtain ⟨_, _, _, _, _, rfl, _⟩ := h; rfl)
      | (obtain ⟨_, _, _, _, _, _, rfl, _⟩ := h; rfl)
      | (obtain ⟨_, _, _, _, _, _, _, rfl, _⟩ := h; rfl)
      | (obtain ⟨_, _, _, _, _, _, _, _, rfl, _⟩ := h; rfl)
      | (obtain ⟨_, _, _, _, _, _, _, _, _, rfl, _⟩ := h; rfl)
      | (obtain ⟨_, _, _, _, _, _, _, _, _, _, rfl, _⟩ := h; rfl)
      | (obtain ⟨_, _, _, _, _, _, _, _, _, _, _, rfl, _⟩ := h; rfl)
  · obtain ⟨p, B, L, m, q, w, c, rfl, t, ap, k⟩ := h
    have hB := t.hB
    have hL := t.hL
    have hq0 := t.lst 0 (by decide)
    have hw0 := ap.w0
    have hw1 := ap.w1
    have cl_Memory := T.cl_Memory
    have na_Memory_pairs := T.na_Memory_pairs
    have na_Memory_wide := T.na_Memory_wide
    refine ⟨_, (pss_cons (ps_set (i := 3) sc_law_done.nd rfl (Or.inl rfl) (pe_callB (k_len (K := K) rfl) (by rfl) T.n_len (by decide +kernel) (pa_cons (pe_ix (k_ix (K := K) rfl) (pv 2) pe_int (fun _ _ => rfl)) pa_nil)))
      (pss_cons (ps_set (i := 4) sc_law_done.nd rfl (Or.inl rfl) (d1 (ok_law_draw T) (hr.mono (by decide)) (by rfl) T.m_law_draw T.F_law_draw.kp T.b_law_draw passL (pa_cons (pv 0) (pa_cons pe_int pa_nil))))
      (pss_cons (ps_if (pt_cmpR (k_eq (K := K) rfl hr.r.units) (d1 (ok_law_draw T) (hr.mono (by decide)) (by rfl) T.m_law_draw T.F_law_draw.kp T.b_law_draw passL (pa_cons (pv 0) (pa_cons pe_int pa_nil))) pe_int (nomark _)) (pss_cons (ps_par (i := 5) (j := 6) (by rfl) sc_law_done.nd rfl rfl (by decide) rfl rfl (pa_cons (d1 (ok_law_draw T) (hr.mono (by decide)) (by rfl) T.m_law_draw T.F_law_draw.kp T.b_law_draw passL (pa_cons (pv 0) (pa_cons (pv 3) pa_nil))) (pa_cons (d1 (ok_law_draw T) (hr.mono (by decide)) (by rfl) T.m_law_draw T.F_law_draw.kp T.b_law_draw passL (pa_cons (pv 0) (pa_cons pe_int pa_nil))) pa_nil)) (by rfl))
      (pss_cons (ps_asg (pv 6) (pg_sub (pe_ix (k_ix (K := K) rfl) (pv 2) (pv 4) (fun _ _ => rfl)) (pv 5) set_list))
      (pss_one (ps_ret (dm T.cl_Memory T.me_Memory_put (ok_Memory_put T) (hr.mono (by decide)) T.b_Memory_put passL (pe_ix (k_ix (K := K) rfl) (pv 1) (pv 4) (fun _ _ => rfl)) (pa_cons (pv 5) (pa_cons (pv 6) pa_nil))))))) pss_nil)
      (pss_cons (ps_asg (d1 (ok_law_stretch T) (hr.mono (by decide)) (by rfl) T.m_law_stretch T.F_law_stretch.kp T.b_law_stretch passL (pa_cons (pv 0) (pa_cons (pv 3) pa_nil))) (k_gtup (K := K) 2 rfl rfl (pgs_cons (pg_name (i := 7) sc_law_done.nd rfl (Or.inl rfl)) (pgs_cons (pg_name (i := 8) sc_law_done.nd rfl (Or.inl rfl)) pgs_nil))))
      (pss_cons (ps_par (i := 9) (j := 10) (by rfl) sc_law_done.nd rfl rfl (by decide) rfl rfl (pa_cons (d1 (ok_law_place T) (hr.mono (by decide)) (by rfl) T.m_law_place T.F_law_place.kp T.b_law_place passL (pa_cons (pv 0) (pa_cons (pe_op op_sub (pv 3) (pe_op op_sub (pv 8) (pv 7))) pa_nil))) (pa_cons (d1 (ok_law_draw T) (hr.mono (by decide)) (by rfl) T.m_law_draw T.F_law_draw.kp T.b_law_draw passL (pa_cons (pv 0) (pa_cons pe_int pa_nil))) pa_nil)) (by rfl))
      (pss_cons (ps_set (i := 11) sc_law_done.nd rfl (Or.inl rfl) (pe_slice (k_sl (K := K) rfl) (pe_ix (k_ix (K := K) rfl) (pv 2) (pv 10) (fun _ _ => rfl)) (po_some (pv 7)) (po_some (pv 8))))
      (pss_cons (ps_asg (pv 11) (pg_cut (pe_ix (k_ix (K := K) rfl) (pv 2) (pv 4) (fun _ _ => rfl)) (po_some (pv 9)) (po_some (pe_op op_sub (pe_op (k_add (K := K) rfl) (pv 9) (pv 8)) (pv 7)))))
      (pss_cons (ps_if (PW.pt (pw_and (pt_cmpR (k_eq (K := K) rfl hr.r.units) (pv 10) (pv 4) (nomark _)) (pw_and1 (pt_cmpR (k_eq (K := K) rfl hr.r.units) (d1 (ok_law_draw T) (hr.mono (by decide)) (by rfl) T.m_law_draw T.F_law_draw.kp T.b_law_draw passL (pa_cons (pv 0) (pa_cons pe_int pa_nil))) pe_int (nomark _))))) (pss_one (ps_ret (km T.cl_Memory T.me_Memory_bring (ok_Memory_bring T) (hr.mono (by decide)) T.kb_Memory_bring_4_source passL (pe_ix (k_ix (K := K) rfl) (pv 1) (pv 4) (fun _ _ => rfl)) (pa_cons (pv 7) (pa_cons (pv 8) (pa_cons (pv 9) pa_nil))) (pk_cons pe_non pk_nil)))) pss_nil)
      (pss_one (ps_ret (km T.cl_Memory T.me_Memory_bring (ok_Memory_bring T) (hr.mono (by decide)) T.kb_Memory_bring_4_source passL (pe_ix (k_ix (K := K) rfl) (pv 1) (pv 4) (fun _ _ => rfl)) (pa_cons (pv 7) (pa_cons (pv 8) (pa_cons (pv 9) pa_nil))) (pk_cons (pe_ix (k_ix (K := K) rfl) (pv 1) (pv 10) (fun _ _ => rfl)) pk_nil)))))))))))), ?_⟩
    dsimp only [cxOf, st_1, st_2, st_3, st_4, st_5, st_6, List.length_cons, List.length_nil, List.replicate_succ, List.replicate_zero, Nat.reduceAdd, Nat.reduceSub]
    walk_at "gs"
    rw [List.length_map, t.len 0 (by decide)]
    refine use_draw t.pot (by decide) (by decide) (fun r H1 a1 a2 hp1 k1 => ?_)
    have t1 := t.kpp ap k1 hp1
    have hj : r.toNat < 2 := by omega
    walk_at "gs"
    refine use_draw hp1 (by decide) (by decide) (fun r2 H2 b1 b2 hp2 k2 => ?_)
    have t2 := t1.kpp ap k2 hp2
    walk_at "gs"
    refine i_dec (fun z => ?_) (fun z => ?_)
    · walk_at "gs"
      refine use_draw hp2 (by omega) (by omega) (fun at_ H3 c1 c2 hp3 k3 => ?_)
      have t3 := t2.kpp ap k3 hp3
      walk_at "gs"
      refine use_draw hp3 (by omega) (by omega) (fun what H4 d1 d2 hp4 k4 => ?_)
      have t4 := t3.kpp ap k4 hp4
      have hL4 := t4.hL
      have hB4 := t4.hB
      have hat : atI [V.ref (q 0), V.ref (q 1)] r = some (.ref (q r.toNat)) := at_two (f := fun j => .ref (q j)) a1 a2
      have hat2 : atI [V.ref (m 0), V.ref (m 1)] r = some (.ref (m r.toNat)) := at_two (f := fun j => .ref (m j)) a1 a2
      have hq4 := t4.lst _ hj
      walk_at "gs"
      refine i_setL hq4 (ix_int c1 (by rw [List.length_map, t4.len _ hj]; exact c2)) ?_
      have kl : Kp [q r.toNat] H4 (upd H4 (q r.toNat) (.lst (((c r.toNat).map V.int).set at_.toNat (.int what)))) :=
        Kp.mut hq4 (fun z => z) List.mem_cons_self
      obtain ⟨i0, xs0, e0⟩ := t4.loose ap hj
      obtain ⟨dx, fs, em⟩ := t4.ins hj
      have hm5 := mem_kp1 (t4.mem _ hj) kl (.inl ⟨_, _, e0⟩)
      have nmq : m r.toNat ≠ q r.toNat := two_ne em e0 fun z => nomatch z
      obtain ⟨dx2, l2, hmi, ld2⟩ := id hm5
      have nBq : B ≠ q r.toNat := two_ne hB4 e0 fun z => nomatch z
      walk_at "gs"
      refine ⟨_, at_, what, _, rfl, hm5, t4.few ap hj, ⟨c1, by rw [t4.len _ hj]; exact c2⟩, fun H5 k5 hm6 => ?_⟩
      have e1 : (at_ + 1).toNat = at_.toNat + 1 := by omega
      rw [e1, laid_set (by rw [t4.len _ hj]; omega)] at hm6
      have kk : Kp [p, m r.toNat, q r.toNat] H4 H5 := tri (p := p) Kp.refl kl k5
      have hp5 : PotAt H5 p := pot_kp_mem (hp4.kp kl (not_one (Ne.symm (ap.np _ hj)))) hm5 k5
      have t5 := t4.set ap hj (x := (c r.toNat).set at_.toNat what) (by rw [List.length_set]; exact t4.len _ hj) kk hp5 hm6 (by
        rw [List.map_set]
        exact k5.at_ _ _ upd_same (not_one (Ne.symm nmq)))
      exact k _ H5 t5 (Kp.trans (five_kp k1) (Kp.trans (five_kp k2) (Kp.trans (five_kp k3) (Kp.trans (five_kp k4) (five_mq hj kk)))))
    · walk_at "gs"
      refine use_stretch hp2 (by omega) (by omega) (fun tt lo hi H3 ht3 hT hlh hp3 k3 => ?_)
      have t3 := t2.kpp ap k3 hp3
      walk_at "gs"
      refine use_place hp3 (by omega) (by omega) (fun g H4 c1 c2 hp4 k4 => ?_)
      have t4 := t3.kpp ap k4 hp4
      walk_at "gs"
      refine use_draw hp4 (by omega) (by omega) (fun o H5 d1 d2 hp5 k5 => ?_)
      have t5 := t4.kpp ap k5 hp5
      have ho : o.toNat < 2 := by omega
      have hL5 := t5.hL
      have hB5 := t5.hB
      have ar : atI [V.ref (q 0), V.ref (q 1)] r = some (.ref (q r.toNat)) := at_two (f := fun j => .ref (q j)) a1 a2
      have ar2 : atI [V.ref (m 0), V.ref (m 1)] r = some (.ref (m r.toNat)) := at_two (f := fun j => .ref (m j)) a1 a2
      have ao : atI [V.ref (q 0), V.ref (q 1)] o = some (.ref (q o.toNat)) := at_two (f := fun j => .ref (q j)) d1 d2
      have ao2 : atI [V.ref (m 0), V.ref (m 1)] o = some (.ref (m o.toNat)) := at_two (f := fun j => .ref (m j)) d1 d2
      have hq5 := t5.lst _ hj
      have hqo := t5.lst _ ho
      have lr := t5.len _ hj
      have lo_ := t5.len _ ho
      walk_at "gs"
      refine i_new fun y hy => ?_
      have hcut : 0 ≤ lo ∧ lo ≤ hi ∧ hi ≤ (((c o.toNat).map V.int).length : Int) := by
        rw [List.length_map, lo_]
        exact hlh
      rw [cutV_mid hcut]
      have t6 := t5.kp0 (Kp.new hy (o := .lst ((((c o.toNat).map V.int).drop lo.toNat).take (hi.toNat - lo.toNat))))
      have hq6 := t6.lst _ hj
      have hL6 := t6.hL
      walk_at "gs"
      refine i_cutS hq6 upd_same (fr_ne hq5 hy) (by rw [List.length_map, lr]; omega) ?_ ?_
      · rw [List.length_take, List.length_drop, List.length_map, List.length_map, lr, lo_]
        omega
      have ex : (((c o.toNat).map V.int).drop lo.toNat).take (hi.toNat - lo.toNat) =
          (((c o.toNat).drop lo.toNat).take (hi.toNat - lo.toNat)).map V.int := by rw [List.map_take, List.map_drop]
      rw [ex, ← map_laid]
      have hlx : (((c o.toNat).drop lo.toNat).take (hi.toNat - lo.toNat)).length = (g + hi - lo).toNat - g.toNat := by
        rw [List.length_take, List.length_drop, lo_]
        omega
      rw [ex] at t6 hq6 hL6
      have npq := ap.np _ hj
      obtain ⟨pc, hpc⟩ : ∃ pc, pc = ((c o.toNat).drop lo.toNat).take (hi.toNat - lo.toNat) := ⟨_, rfl⟩
      rw [← hpc] at t6 hq6 hL6 hlx ⊢
      obtain ⟨x, hx⟩ : ∃ x, x = laid (c r.toNat) g.toNat pc (g + hi - lo).toNat := ⟨_, rfl⟩
      have hxl : x.length = w := by
        rw [hx, laid_len (by omega) (by omega) hlx, lr]
      rw [← hx]
      obtain ⟨H6, h6⟩ : ∃ H6, H6 = upd H5 y (.lst (pc.map V.int)) := ⟨_, rfl⟩
      rw [← h6] at t6 hq6 hL6 ⊢
      have k6 : Kp [p] H5 H6 := by
        rw [h6]
        exact Kp.new hy
      obtain ⟨H7, h7⟩ : ∃ H7, H7 = upd H6 (q r.toNat) (.lst (x.map V.int)) := ⟨_, rfl⟩
      have kl : Kp [q r.toNat] H6 H7 := by
        rw [h7]
        exact Kp.mut hq6 (fun z => z) List.mem_cons_self
      have hq7 : H7 (q r.toNat) = some (.lst (x.map V.int)) := by
        rw [h7]
        exact upd_same
      rw [← h7]
      obtain ⟨i0, xs0, e0⟩ := t6.loose ap hj
      obtain ⟨dx, fs, em⟩ := t6.ins hj
      have nmq : m r.toNat ≠ q r.toNat := two_ne em e0 fun z => nomatch z
      have nBq : B ≠ q r.toNat := two_ne t6.hB e0 fun z => nomatch z
      have hm7 := mem_kp1 (t6.mem _ hj) kl (.inl ⟨_, _, e0⟩)
      have hs7 := mem_kp1 (t6.mem _ ho) kl (.inl ⟨_, _, e0⟩)
      have hB7 := kl.at_ _ _ t6.hB (not_one nBq)
      have hp7 := t6.pot.kp kl (not_one (Ne.symm npq))
      have few1 := t6.few ap hj
      have few2 := t6.few ap ho
      have fin : ∀ H8 H9, Kp [p] H7 H8 → PotAt H8 p → Kp [m r.toNat] H8 H9 → MemAt K T.c_Memory H9 (m r.toNat) x → Q .non H9 := by
        intro H8 H9 k8 hp8 k9 hm9
        have hm8 := mem_kp1 hm7 k8 (oth_pot hp7)
        have kk : Kp [p, m r.toNat, q r.toNat] H6 H9 := tri2 kl k8 k9
        have nqm : q r.toNat ≠ m r.toNat := Ne.symm nmq
        have hq9 := k9.at_ _ _ (k8.at_ _ _ hq7 (not_one npq)) (not_one nqm)
        have t9 := t6.set ap hj hxl kk (pot_kp_mem hp8 hm8 k9) hm9 hq9
        exact k _ _ t9 (Kp.trans (five_kp k1) (Kp.trans (five_kp k2) (Kp.trans (five_kp k3) (Kp.trans (five_kp k4) (Kp.trans (five_kp k5)
          (Kp.trans (five_kp k6) (five_mq hj kk)))))))
      have fin2 : ∀ H8, Kp [p] H7 H8 → PotAt H8 p → ∀ (E : XK) (src : V), ((src = .non ∧ m r.toNat = m o.toNat ∧ c r.toNat = c o.toNat) ∨ src = .ref (m o.toNat)) →
          sp_bring K T.c_Memory [.ref (m r.toNat), .int lo, .int hi, .int g, src] H8 Q E := by
        intro H8 k8 hp8 E src hsrc
        refine ⟨_, _, _, _, _, m o.toNat, c r.toNat, c o.toNat, rfl, mem_kp1 hm7 k8 (oth_pot hp7), mem_kp1 hs7 k8 (oth_pot hp7), hsrc, by omega, few1, few2,
          by omega, by omega, fun H9 k9 hm9 => fin H8 H9 k8 hp8 k9 ?_⟩
        rw [← hpc, ← hx] at hm9
        exact hm9
      obtain ⟨dxm, lm, hmi, ldm⟩ := id hm7
      have nBp : B ≠ p := by
        obtain ⟨y0, y1, ep, _⟩ := id hp7
        exact two_ne hB7 ep fun z => nomatch z
      have npm : m r.toNat ≠ p := Ne.symm (pot_ne_mem hp7 hm7)
      walk_at "gs"
      have same : o = r → ((V.non = V.non) ∧ m r.toNat = m o.toNat ∧ c r.toNat = c o.toNat) := by
        rintro rfl
        exact ⟨rfl, rfl, rfl⟩
      have go : ∀ H8, Kp [p] H7 H8 → PotAt H8 p → True := fun _ _ _ => trivial
      refine i_dec (fun z2 => ?_) (fun z2 => ?_)
      · walk_at "gs"
        refine use_draw hp7 (by omega) (by omega) (fun u H8 e1 e2 hp8 k8 => ?_)
        walk_at "gs"
        refine i_dec (fun z3 => ?_) (fun z3 => ?_)
        · walk_at "gs"
          exact fin2 H8 k8 hp8 _ _ (.inl (same z2))
        · walk_at "gs"
          exact fin2 H8 k8 hp8 _ _ (.inr rfl)
      · walk_at "gs"
        exact fin2 H7 Kp.refl hp7 _ _ (.inr rfl)

theorem dpa_ints {K : PySem.W.Frag} {H : Hp} : ∀ ns : List Int, DpAll K H (ns.map V.int) (ns.map PyData.int)
  | [] => .nil
  | n :: ns => .cons (.int n) (dpa_ints ns)
theorem dp_ints {K : PySem.W.Frag} {H : Hp} {a : Addr} {ns : List Int} (h : SqL K H a (ns.map V.int)) :
    Dp K H (.ref a) (.list (ns.map PyData.int)) := .lst h (dpa_ints ns)
theorem canLay_ints : ∀ ns : List Int, PyData.canLayAll0 (ns.map PyData.int) = true
  | [] => rfl
  | n :: ns => by
    have h := canLay_ints ns
    simp only [List.map_cons, PyData.canLayAll0, h, Bool.and_true]
    rfl
theorem depth_ints : ∀ ns : List Int, PyData.depthAll (ns.map PyData.int) ≤ 0
  | [] => Nat.le_refl _
  | n :: ns => by
    have h := depth_ints ns
    simp only [List.map_cons, PyData.depthAll, PyData.depth]
    omega
theorem shaped_ints (ns : List Int) : SeqAt.shaped (.list (ns.map PyData.int)) = true := by
  have h := depth_ints ns
  refine shaped_of (canLay_ints ns) ?_
  simp only [PyData.depth]
  omega
theorem two_at {f : Nat → V} {i : Nat} {x : V} (h : [f 0, f 1][i]? = some x) : i < 2 ∧ x = f i := by
  match i, h with
  | 0, h => exact ⟨by decide, (Option.some.inj h).symm⟩
  | 1, h => exact ⟨by decide, (Option.some.inj h).symm⟩
def sp_law_stands (K : PySem.W.Frag) (C : Addr) : Sp := fun vs H Q _ => ∃ (p B L : Addr) (m q : Nat → Addr) (w : Nat) (c : Nat → List Int),
  vs = [.ref B, .ref L] ∧ Two K C p B L m q w c H ∧ Apart p m q w ∧ ∀ H', Kp [] H H' → Q (.bl true) H'
theorem sc_law_stands : FnScope ["_law_both", "_law_lists", "_law_one", "_law_cells_told", "_law_at"] ["_law_both", "_law_lists"] (defScope s_law_stands) :=
  ⟨rfl, rfl, rfl, by decide +kernel, rfl, by decide +kernel, by decide +kernel⟩
theorem ok_law_stands {P : Program} {w : World} {K : PySem.W.Frag} {mg : Str → Option Value} {base : Heap} (T : Txt K mg) :
    FnG P w K mg base 5 T.a_law_stands T.d_law_stands ["_law_both", "_law_lists"] (sp_law_stands K T.c_Memory) := by
  refine okD T.F_law_stands sc_law_stands (fun vs H Q E h => ?_) (fun cdv A outer s H vs Q E hr h => ?_)
  · first
      | (obtain ⟨_, rfl, _⟩ := h; rfl)
      | (obtain ⟨_, _, rfl, _⟩ := h; rfl)
      | (obtain ⟨_, _, _, rfl, _⟩ := h; rfl)
      | (obtain ⟨_, _, _, _, rfl, _⟩ := h; rfl)
      | (obtain ⟨_, _, _, _, _, rfl, _⟩ := h; rfl)
      | (obtain ⟨_, _, _, _, _, _, rfl, _⟩ := h; rfl)
      | (obtain ⟨_, _, _, _, _, _, _, rfl, _⟩ := h; rfl)
      | (obtain ⟨_, _, _, _, _, _, _, _, rfl, _⟩ := h; rfl)
      | (obtain ⟨_, _, _, _, _, _, _, _, _, rfl, _⟩ := h; rfl)
      | (obtain ⟨_, _, _, _, _, _, _, _, _, _, rfl, _⟩ := h; rfl)
      | (obtain ⟨_, _, _, _, _, _, _, _, _, _, _, rfl, _⟩ := h; rfl)
  · obtain ⟨p, B, L, m, q, w, c, rfl, t, ap, k⟩ := h
    have hB := t.hB
    have hL := t.hL
    have hw1 := ap.w1
    have cl_Memory := T.cl_Memory
    have na_Memory_pairs := T.na_Memory_pairs
    have na_Memory_wide := T.na_Memory_wide
    refine ⟨_, (pss_cons (ps_for (passes_of rfl) rfl (k_pzip (K := K) rfl (by rfl) T.n_zip (pa_cons (pv 0) (pa_cons (pv 1) pa_nil))) (k_gtup (K := K) 2 rfl rfl (pgs_cons (pg_name (i := 2) sc_law_stands.nd rfl (Or.inr rfl)) (pgs_cons (pg_name (i := 3) sc_law_stands.nd rfl (Or.inl rfl)) pgs_nil)))
      (pss_one (ps_if (PW.pt (pw_or (pt_cmpR (k_ne (K := K) rfl hr.r.units) (pe_lc (own := [("_law_at", 4)]) (g := (gName 4)) (tt := tYes) rfl sc_law_stands.nd (pi_range1 (by rfl) T.n_range (pa_cons (pe_callB (k_len (K := K) rfl) (by rfl) T.n_len (by decide +kernel) (pa_cons (pv 3) pa_nil)) pa_nil)) (blkOk_by (own := [("_law_at", 4)]) (N := ["_law_both", "_law_lists", "_law_one", "_law_cells_told", "_law_at"]) (sc := defScope s_law_stands) (by decide +kernel)) (fun _ _ _ _ _ => (pg_name (i := 4) sc_law_stands.nd rfl (Or.inl rfl))) (fun _ _ _ _ _ => pts_nil) (fun _ _ _ _ _ => (dm T.cl_Memory T.me_Memory_at (ok_Memory_at T) (hr.mono (by decide)) T.b_Memory_at passL (pv 2) (pa_cons (pv 4) pa_nil)))) (pv 3) (nomark _)) (pw_or1 (pt_cmpR (k_ne (K := K) rfl hr.r.units) (dm0 T.cl_Memory T.me_Memory_runs (ok_Memory_runs T) (hr.mono (by decide)) T.b_Memory_runs passL (pv 2)) (d1 (ok_law_runs_of T) (hr.mono (by decide)) (by rfl) T.m_law_runs_of T.F_law_runs_of.kp T.b_law_runs_of passL (pa_cons (pv 3) pa_nil)) (nomark _))))) (pss_one (ps_ret pe_bl)) pss_nil)))
      (pss_one (ps_ret pe_bl))), ?_⟩
    dsimp only [cxOf, st_1, st_2, st_3, st_4, st_5, st_6, List.length_cons, List.length_nil, List.replicate_succ, List.replicate_zero, Nat.reduceAdd, Nat.reduceSub]
    walk_at "gs"
    refine i_both (SqL.of hB) (SqL.of hL) (fun i σ H' => ∃ u v, σ = [some (.ref B), some (.ref L), u, v, none] ∧ Kp [] H H') ?_ ?_ ?_ ?_
    · exact ⟨none, none, rfl, Kp.refl⟩
    · rintro i σ H' ⟨u, v, rfl, kp⟩
      exact ⟨SqL.of (kp.at_ _ _ hB not_nil), SqL.of (kp.at_ _ _ hL not_nil)⟩
    · rintro i x y tt σ H' hx hy ⟨u, v, rfl, kp⟩ ht
      obtain ⟨hi, rfl⟩ := two_at (f := fun j => .ref (m j)) hx
      obtain ⟨_, rfl⟩ := two_at (f := fun j => .ref (q j)) hy
      have t2 := t.kp0 (Kp.trans kp (Kp.new ht (o := .tup [.ref (m i), .ref (q i)])))
      have hq := t2.lst i hi
      have hl := t2.len i hi
      have hm := t2.mem i hi
      have few := t2.few ap hi
      have hT : SqT K (upd H' tt (.tup [.ref (m i), .ref (q i)])) tt [.ref (m i), .ref (q i)] := SqT.of upd_same
      walk_at "gs"
      rw [List.length_map]
      refine i_reps (by omega) (by omega) (fun D j H2 => Kp [] (upd H' tt (.tup [.ref (m i), .ref (q i)])) H2 ∧
        H2 D = some (.lst (((c i).take j).map V.int))) ?_ ?_ ?_
      · intro D hD
        exact ⟨Kp.new hD, upd_same⟩
      · rintro D j H2 hD hj ⟨k2, hL2⟩
        have hv : (c i)[j]? = some ((c i)[j]'(by omega)) := List.getElem?_eq_getElem (by omega)
        obtain ⟨dx, l, hmi, ldm⟩ := mem_kp0 hm k2
        walk_at "gs"
        refine ⟨_, j, c i, _, rfl, mem_kp0 hm k2, few, hv, fun H4 k4 => ?_⟩
        refine ⟨_, k4.at_ _ _ hL2 not_nil, ?_, ?_, ?_⟩
        · refine small_sz ?_
          rw [List.length_map, List.length_take]
          omega
        · exact Kp.upd (Kp.trans k2 k4) hD
        · rw [List.take_add_one, hv, List.map_append]
          exact upd_same
      · rintro D H2 hD ⟨k2, hD2⟩
        rw [List.take_of_length_le (by omega)] at hD2
        have hq2 := k2.at_ _ _ hq not_nil
        walk_at "gs"
        refine ne_same (dp_ints (SqL.of hD2)) (dp_ints (SqL.of hq2)) (shaped_ints _) ?_
        walk_at "gs"
        have hm2 := mem_kp0 hm k2
        obtain ⟨dx, l, hmi, ldm⟩ := id hm2
        walk_at "gs"
        refine ⟨_, _, rfl, hm2, fun l1 H3 hl1 k3 ld1 => ?_⟩
        walk_at "gs"
        refine ⟨_, _, rfl, SqL.of (k3.at_ _ _ hq2 not_nil), by omega, fun l2 H4 hl2 k4 ld2 => ?_⟩
        have ld3 : LD K H4 l1 ((rle (c i)).map d2) := by walk_at "g_ld"
        walk_at "gs"
        refine ne_same ld3.dp ld2.dp (shaped_pairs _) ?_
        walk_at "gs"
        exact ⟨_, _, rfl, Kp.trans kp (Kp.trans (Kp.new ht) (Kp.trans k2 (Kp.trans k3 k4)))⟩
    · rintro σ H' ⟨u, v, rfl, kp⟩
      walk_at "gs"
      exact k H' kp

theorem i_made {C : Addr} {sp : Sp} {E : XK} {H : Hp} {Q : VK} {vs : Addr → List V}
    (h : ∀ x dx, Fr H x → Fr H dx → dx ≠ x → sp (vs x) (upd (upd H dx (.own x)) x (.ins C dx [])) (fun v H2 => v = .non ∧ Q (.ref x) H2) E) :
    Made C sp E H Q vs := fun x dx hx hd n => h x dx ⟨hx⟩ ⟨hd⟩ n
theorem i_mulR {H : Hp} {Q : VK} {l : Addr} {v : V} {n : Int} (h : H l = some (.lst [v])) (h0 : 0 ≤ n) (h1 : n ≤ 1000000)
    (q : New H fun p => Q (.ref p) (upd H p (.lst (List.replicate n.toNat v)))) : uMul (.ref l) (.int n) H Q :=
  .inr (.inr (i_rep h h0 h1 q))
theorem kp_made {H H3 : Hp} {x dx : Addr} {o1 o2 : HO} (hx : Fr H x) (hd : Fr H dx) (k : Kp [x] (upd (upd H dx o1) x o2) H3) : Kp [] H H3 :=
  Kp.drop (Kp.trans (Kp.wide (Kp.upd (Kp.upd Kp.refl hd) hx)) k) hx
def sp_law (K : PySem.W.Frag) : Sp := fun vs H Q _ => ∃ (a : Addr) (ns : List Int),
  vs = [.ref a] ∧ SqL K H a (ns.map V.int) ∧ ns.length ≤ 63 ∧ ∀ H', Q (.bl true) H'
def pick (a b : Addr) : Nat → Addr
  | 0 => a
  | _ => b
theorem birth {K : PySem.W.Frag} {C : Addr} {H0 H2 H4 : Hp} {p B L m0 m1 q0 q1 z0 z1 : Addr} {w : Nat} (w0 : 1 ≤ w) (w1 : w ≤ 48)
    (hp : PotAt H4 p) (M0 : MemAt K C H4 m0 (List.replicate w 0)) (M1 : MemAt K C H4 m1 (List.replicate w 0)) (n01 : m0 ≠ m1)
    (fp : Fr H0 p) (k02 : Kp [p] H0 H2) (k24 : Kp [] H2 H4) (f0 : Fr H2 m0) (f1 : Fr H2 m1) (fB : Fr H4 B)
    (fz0 : Fr (upd H4 B (.lst [.ref m0, .ref m1])) z0)
    (fq0 : Fr (upd (upd H4 B (.lst [.ref m0, .ref m1])) z0 (.lst [.int 0])) q0)
    (fz1 : Fr (upd (upd (upd H4 B (.lst [.ref m0, .ref m1])) z0 (.lst [.int 0])) q0 (.lst (List.replicate w (.int 0)))) z1)
    (fq1 : Fr (upd (upd (upd (upd H4 B (.lst [.ref m0, .ref m1])) z0 (.lst [.int 0])) q0 (.lst (List.replicate w (.int 0)))) z1 (.lst [.int 0])) q1)
    (fL : Fr (upd (upd (upd (upd (upd H4 B (.lst [.ref m0, .ref m1])) z0 (.lst [.int 0])) q0 (.lst (List.replicate w (.int 0)))) z1 (.lst [.int 0])) q1
      (.lst (List.replicate w (.int 0)))) L) :
    ∃ m q, Two K C p B L m q w (fun _ => List.replicate w 0) (upd (upd (upd (upd (upd (upd H4 B (.lst [.ref m0, .ref m1])) z0 (.lst [.int 0])) q0
      (.lst (List.replicate w (.int 0)))) z1 (.lst [.int 0])) q1 (.lst (List.replicate w (.int 0)))) L (.lst [.ref q0, .ref q1])) ∧
      Apart p m q w ∧ (∀ b ∈ five p m q, Fr H0 b) ∧ Kp (five p m q) H0 (upd (upd (upd (upd (upd (upd H4 B (.lst [.ref m0, .ref m1])) z0 (.lst [.int 0])) q0
      (.lst (List.replicate w (.int 0)))) z1 (.lst [.int 0])) q1 (.lst (List.replicate w (.int 0)))) L (.lst [.ref q0, .ref q1])) := by
  have nqq : q0 ≠ q1 := by walk_at "g_ne"
  have nqp0 : q0 ≠ p := by walk_at "g_ne"
  have nqp1 : q1 ≠ p := by walk_at "g_ne"
  have k46 : Kp [] H4 (upd (upd (upd (upd (upd (upd H4 B (.lst [.ref m0, .ref m1])) z0 (.lst [.int 0])) q0
      (.lst (List.replicate w (.int 0)))) z1 (.lst [.int 0])) q1 (.lst (List.replicate w (.int 0)))) L (.lst [.ref q0, .ref q1])) := by walk_at "g_kp"
  have e0 : (List.replicate w (0 : Int)).map V.int = List.replicate w (V.int 0) := by rw [List.map_replicate]
  have two : ∀ {P : Nat → Prop}, P 0 → P 1 → ∀ j, j < 2 → P j := fun {P} a b j hj => by
    have e : j = 0 ∨ j = 1 := by omega
    rcases e with rfl | rfl
    · exact a
    · exact b
  refine ⟨pick m0 m1, pick q0 q1, ⟨hp.kp k46 not_nil, two (mem_kp0 M0 k46) (mem_kp0 M1 k46), two ?_ ?_, fun _ _ => List.length_replicate, ?_, ?_⟩,
    ⟨w0, w1, ?_, ?_, two nqp0 nqp1⟩, ?_, ?_⟩
  · rw [e0]
    show upd _ _ _ q0 = _
    walk_at "g_hp"
  · rw [e0]
    show upd _ _ _ q1 = _
    walk_at "g_hp"
  · show upd _ _ _ B = some (.lst [.ref m0, .ref m1])
    walk_at "g_hp"
  · show upd _ _ _ L = some (.lst [.ref q0, .ref q1])
    walk_at "g_hp"
  · intro i j hi hj n
    have e : (i = 0 ∧ j = 1) ∨ (i = 1 ∧ j = 0) := by omega
    rcases e with ⟨rfl, rfl⟩ | ⟨rfl, rfl⟩
    · exact n01
    · exact Ne.symm n01
  · intro i j hi hj n
    have e : (i = 0 ∧ j = 1) ∨ (i = 1 ∧ j = 0) := by omega
    rcases e with ⟨rfl, rfl⟩ | ⟨rfl, rfl⟩
    · exact nqq
    · exact Ne.symm nqq
  · intro b hb
    have hq0 : Fr H4 q0 := by walk_at "g_fr"
    have hq1 : Fr H4 q1 := by walk_at "g_fr"
    simp only [five, List.mem_cons, List.not_mem_nil, or_false] at hb
    rcases hb with rfl | rfl | rfl | rfl | rfl
    · exact fp
    · exact k02.free f0
    · exact k02.free f1
    · exact k02.free (k24.free hq0)
    · exact k02.free (k24.free hq1)
  · exact Kp.trans (five_kp k02) (Kp.wide (Kp.trans k24 k46))
theorem sc_law : FnScope ["_law_script", "_law_k", "_law_pot_here", "_law_wide", "_law_both", "_law_lists", "_law_at", "_law_what", "_law_turn"] ["_law_script"] (defScope s_law) :=
  ⟨rfl, rfl, rfl, by decide +kernel, rfl, by decide +kernel, by decide +kernel⟩
theorem ok_law {P : Program} {w : World} {K : PySem.W.Frag} {mg : Str → Option Value} {base : Heap} (T : Txt K mg) :
    FnG P w K mg base 7 T.a_law T.d_law ["_law_script"] (sp_law K) := by
  refine okD T.F_law sc_law (fun vs H Q E h => ?_) (fun cdv A outer s H vs Q E hr h => ?_)
  · first
      | (obtain ⟨_, rfl, _⟩ := h; rfl)
      | (obtain ⟨_, _, rfl, _⟩ := h; rfl)
      | (obtain ⟨_, _, _, rfl, _⟩ := h; rfl)
      | (obtain ⟨_, _, _, _, rfl, _⟩ := h; rfl)
      | (obtain ⟨_, _, _, _, _, rfl, _⟩ := h; rfl)
      | (obtain ⟨_, _, _, _, _, _, rfl, _⟩ := h; rfl)
      | (obtain ⟨_, _, _, _, _, _, _, rfl, _⟩ := h; rfl)
      | (obtain ⟨_, _, _, _, _, _, _, _, rfl, _⟩ := h; rfl)
      | (obtain ⟨_, _, _, _, _, _, _, _, _, rfl, _⟩ := h; rfl)
      | (obtain ⟨_, _, _, _, _, _, _, _, _, _, rfl, _⟩ := h; rfl)
      | (obtain ⟨_, _, _, _, _, _, _, _, _, _, _, rfl, _⟩ := h; rfl)
  · obtain ⟨a, ns, rfl, hsq, hns, k⟩ := h
    have cl_Memory := T.cl_Memory
    have na_Memory_pairs := T.na_Memory_pairs
    have na_Memory_wide := T.na_Memory_wide
    refine ⟨_, (pss_cons (ps_for (passes_of rfl) rfl (pi_range1 (by rfl) T.n_range (pa_cons (pe_callB (c_max2 rfl) (by rfl) T.n_max (by decide +kernel) (pa_cons pe_int (pa_cons (pe_callB (c_min2 rfl) (by rfl) T.n_min (by decide +kernel) (pa_cons (pe_callB (k_len (K := K) rfl) (by rfl) T.n_len (by decide +kernel) (pa_cons (pv 0) pa_nil)) (pa_cons pe_int pa_nil))) pa_nil))) pa_nil)) (pg_name (i := 1) sc_law.nd rfl (Or.inl rfl))
      (pss_cons (ps_set (i := 2) sc_law.nd rfl (Or.inl rfl) (d1 (ok_law_pot T) (hr.mono (by decide)) (by rfl) T.m_law_pot T.F_law_pot.kp T.b_law_pot passL (pa_cons (pv 0) (pa_cons (pv 1) pa_nil))))
      (pss_cons (ps_set (i := 3) sc_law.nd rfl (Or.inl rfl) (pe_op (k_add (K := K) rfl) pe_int (d1 (ok_law_draw T) (hr.mono (by decide)) (by rfl) T.m_law_draw T.F_law_draw.kp T.b_law_draw passL (pa_cons (pv 2) (pa_cons pe_int pa_nil)))))
      (pss_cons (ps_par (i := 4) (j := 5) (by rfl) sc_law.nd rfl rfl (by decide) rfl rfl (pa_cons (pe_lst (pa_cons (mk1 T.mk_Memory (ok_Memory_init T) (hr.mono (by decide)) (by rfl) T.mg_Memory T.b_Memory_init passL (pa_cons (pv 3) pa_nil)) (pa_cons (mk1 T.mk_Memory (ok_Memory_init T) (hr.mono (by decide)) (by rfl) T.mg_Memory T.b_Memory_init passL (pa_cons (pv 3) pa_nil)) pa_nil))) (pa_cons (pe_lst (pa_cons (pe_op o_mul (pe_lst (pa_cons pe_int pa_nil)) (pv 3)) (pa_cons (pe_op o_mul (pe_lst (pa_cons pe_int pa_nil)) (pv 3)) pa_nil))) pa_nil)) (by rfl))
      (pss_cons (ps_for (passes_of rfl) rfl (pi_range1 (by rfl) T.n_range (pa_cons (pv 3) pa_nil)) (pg_name (i := 6) sc_law.nd rfl (Or.inl rfl))
      (pss_cons (ps_set (i := 7) sc_law.nd rfl (Or.inl rfl) (d1 (ok_law_draw T) (hr.mono (by decide)) (by rfl) T.m_law_draw T.F_law_draw.kp T.b_law_draw passL (pa_cons (pv 2) (pa_cons pe_int pa_nil))))
      (pss_cons (ps_expr (dm T.cl_Memory T.me_Memory_put (ok_Memory_put T) (hr.mono (by decide)) T.b_Memory_put passL (pe_ix (k_ix (K := K) rfl) (pv 4) pe_int (fun _ _ => rfl)) (pa_cons (pv 6) (pa_cons (pv 7) pa_nil))))
      (pss_one (ps_asg (pv 7) (pg_sub (pe_ix (k_ix (K := K) rfl) (pv 5) pe_int (fun _ _ => rfl)) (pv 6) set_list))))))
      (pss_one (ps_for (passes_of rfl) rfl (pi_range1 (by rfl) T.n_range (pa_cons (pe_op (k_add (K := K) rfl) pe_int (d1 (ok_law_draw T) (hr.mono (by decide)) (by rfl) T.m_law_draw T.F_law_draw.kp T.b_law_draw passL (pa_cons (pv 2) (pa_cons pe_int pa_nil)))) pa_nil)) (pg_name (i := 8) sc_law.nd rfl (Or.inl rfl))
      (pss_one (ps_if (PW.pt (pw_or (pt_cmpR op_notN1 (d1 (ok_law_done T) (hr.mono (by decide)) (by rfl) T.m_law_done T.F_law_done.kp T.b_law_done passL (pa_cons (pv 2) (pa_cons (pv 4) (pa_cons (pv 5) pa_nil)))) pe_non (nomark _)) (pw_or1 (pt_not (pt_val (d1 (ok_law_stands T) (hr.mono (by decide)) (by rfl) T.m_law_stands T.F_law_stands.kp T.b_law_stands passL (pa_cons (pv 4) (pa_cons (pv 5) pa_nil)))))))) (pss_one (ps_ret pe_bl)) pss_nil)))))))))
      (pss_one (ps_ret pe_bl))), ?_⟩
    dsimp only [cxOf, st_1, st_2, st_3, st_4, st_5, st_6, List.length_cons, List.length_nil, List.replicate_succ, List.replicate_zero, Nat.reduceAdd, Nat.reduceSub]
    walk_at "gs"
    rw [List.length_map]
    refine i_turns (by omega) (by omega) (fun i σ H' => ∃ x1 x2 x3 x4 x5 x6 x7 x8, σ = [some (.ref a), x1, x2, x3, x4, x5, x6, x7, x8] ∧ Kp [] H H') ?_ ?_ ?_
    · exact ⟨none, none, none, none, none, none, none, none, rfl, Kp.refl⟩
    · rintro i σ H' hi ⟨x1, x2, x3, x4, x5, x6, x7, x8, rfl, kp⟩
      walk_at "gs"
      refine ⟨a, ns, i, rfl, kp.seqL not_nil hsq, by omega, fun p H1 hp k1 hpot => ?_⟩
      walk_at "gs"
      refine use_draw hpot (by decide) (by decide) (fun w0 H2 a1 a2 hp2 k2 => ?_)
      walk_at "gs"
      refine i_made fun m0 d0 hm0 hd0 nd0 => ?_
      refine ⟨m0, d0, 1 + w0, 0, rfl, upd_same, by omega, fun H3 k3 M0 => ⟨rfl, ?_⟩⟩
      have k03 := kp_made hm0 hd0 k3
      walk_at "gs"
      refine i_made fun m1 d1 hm1 hd1 nd1 => ?_
      refine ⟨m1, d1, 1 + w0, 0, rfl, upd_same, by omega, fun H4 k4 M1 => ⟨rfl, ?_⟩⟩
      have k34 := kp_made hm1 hd1 k4
      have M04 := mem_kp0 M0 k34
      have hp4 : PotAt H4 p := (hp2.kp k03 not_nil).kp k34 not_nil
      have n01 : m0 ≠ m1 := fr_tr (tr_mem M0) hm1
      walk_at "gs"
      refine i_new fun B fB => ?_
      walk_at "gs"
      refine i_new fun z0 fz0 => ?_
      walk_at "gs"
      refine i_mulR upd_same (by omega) (by omega) ?_
      refine i_new fun q0 fq0 => ?_
      walk_at "gs"
      refine i_new fun z1 fz1 => ?_
      walk_at "gs"
      refine i_mulR upd_same (by omega) (by omega) ?_
      refine i_new fun q1 fq1 => ?_
      walk_at "gs"
      refine i_new fun L fL => ?_
      walk_at "gs"
      obtain ⟨w, hw⟩ : ∃ w : Nat, 1 + w0 = (w : Int) := ⟨(1 + w0).toNat, by omega⟩
      rw [hw] at M1 M04 fz1 fq1 fL ⊢
      rw [Int.toNat_natCast] at M1 M04 fz1 fq1 fL ⊢
      obtain ⟨m, q, t0, ap, fr5, kk⟩ := birth (K := K) (C := T.c_Memory) (w := w) (by omega) (by omega) hp4 M04 M1 n01 hp (Kp.trans (Kp.wide k1) k2) (Kp.trans k03 k34) hm0
        (k03.free hm1) fB fz0 fq0 fz1 fq1 fL
      obtain ⟨H5, h5⟩ : ∃ H5, H5 = upd (upd (upd (upd (upd (upd H4 B (.lst [.ref m0, .ref m1])) z0 (.lst [.int 0])) q0
          (.lst (List.replicate w (.int 0)))) z1 (.lst [.int 0])) q1 (.lst (List.replicate w (.int 0)))) L (.lst [.ref q0, .ref q1]) := ⟨_, rfl⟩
      rw [← h5] at t0 kk ⊢
      have hw48 : w ≤ 48 := by omega
      refine i_turns (by omega) (by omega) (fun j σ H6 => ∃ y6 y7 c, σ = [some (.ref a), some (.int i), some (.ref p), some (.int w), some (.ref B), some (.ref L), y6, y7, x8] ∧
        Two K T.c_Memory p B L m q w c H6 ∧ Kp (five p m q) H' H6) ?_ ?_ ?_
      · exact ⟨_, _, _, rfl, t0, kk⟩
      · rintro j σ H6 hj ⟨y6, y7, c, rfl, t, k6⟩
        have hj0 : (0 : Nat) < 2 := by decide
        walk_at "gs"
        refine use_draw t.pot (by decide) (by decide) (fun what H7 b1 b2 hp7 k7 => ?_)
        have t7 := t.kpp ap k7 hp7
        have hB7 := t7.hB
        have hM7 := t7.mem 0 hj0
        have l7 := t7.len 0 hj0
        obtain ⟨dxm, lm, hmi, ldm⟩ := id hM7
        have hq7 := t7.lst 0 hj0
        obtain ⟨i0, xs0, e0⟩ := t7.loose ap hj0
        have nqm : q 0 ≠ m 0 := two_ne hq7 hmi fun z => nomatch z
        walk_at "gs"
        refine ⟨_, j, what, _, rfl, hM7, t7.few ap hj0, by omega, fun H8 k8 hM8 => ?_⟩
        have e1 : ((j : Int) + 1).toNat = j + 1 := by omega
        rw [e1, Int.toNat_natCast, laid_set (by omega)] at hM8
        have hq8 := k8.at_ _ _ hq7 (not_one nqm)
        have e8 := k8.at_ _ _ e0 (not_one nqm)
        have hL8 := k8.at_ _ _ t7.hL (not_one (two_ne t7.hL hmi fun z => nomatch z))
        have hp8 : PotAt H8 p := pot_kp_mem hp7 hM7 k8
        walk_at "gs"
        refine i_setL hq8 (ix_nat (by rw [List.length_map]; omega)) ?_
        have kl : Kp [q 0] H8 (upd H8 (q 0) (.lst (((c 0).map V.int).set j (.int what)))) := Kp.mut hq8 (fun z => z) List.mem_cons_self
        have kk3 : Kp [p, m 0, q 0] H7 (upd H8 (q 0) (.lst (((c 0).map V.int).set j (.int what)))) :=
          Kp.trans (k8.mono fun x hx => by rw [List.mem_singleton.mp hx]; simp) (kl.mono fun x hx => by rw [List.mem_singleton.mp hx]; simp)
        refine ⟨_, _, _, rfl, t7.set ap hj0 (x := (c 0).set j what) (by rw [List.length_set]; exact l7) kk3 (hp8.kp kl (not_one (Ne.symm (ap.np 0 hj0))))
          (mem_kp1 hM8 kl (.inl ⟨_, _, e8⟩)) (by rw [List.map_set]; exact upd_same), Kp.trans k6 (Kp.trans (five_kp k7) (five_mq hj0 kk3))⟩
      · rintro σ H6 ⟨y6, y7, c, rfl, t, k6⟩
        walk_at "gs"
        refine use_draw t.pot (by decide) (by decide) (fun many H7 b1 b2 hp7 k7 => ?_)
        have t7 := t.kpp ap k7 hp7
        walk_at "gs"
        refine i_turns (by omega) (by omega) (fun j σ H8 => ∃ y8 c, σ = [some (.ref a), some (.int i), some (.ref p), some (.int w), some (.ref B), some (.ref L), y6, y7, y8] ∧
          Two K T.c_Memory p B L m q w c H8 ∧ Kp (five p m q) H' H8) ?_ ?_ ?_
        · exact ⟨_, _, rfl, t7, Kp.trans k6 (five_kp k7)⟩
        · rintro j σ H8 hj ⟨y8, c8, rfl, t8, k8⟩
          walk_at "gs"
          refine ⟨p, B, L, m, q, w, c8, rfl, t8, ap, fun c9 H9 t9 k9 => ?_⟩
          walk_at "gs"
          refine ⟨p, B, L, m, q, w, c9, rfl, t9, ap, fun H10 k10 => ?_⟩
          walk_at "gs"
          exact ⟨_, _, rfl, t9.kp0 k10, Kp.trans k8 (Kp.trans k9 (Kp.wide k10))⟩
        · rintro σ H8 ⟨y8, c8, rfl, t8, k8⟩
          exact ⟨_, _, _, _, _, _, _, _, rfl, Kp.trans kp (k8.dropAll fun b hb => .inr (fr5 b hb))⟩
    · rintro σ H' ⟨x1, x2, x3, x4, x5, x6, x7, x8, rfl, kp⟩
      walk_at "gs"
      exact k _
theorem law_end {K : PySem.W.Frag} {H : Hp} {a : Addr} {ns : List Int} (hl : ns.length ≤ 63)
    (_ : ∀ z ∈ ns, Builtin.Int.intBits z ≤ 1048576) (_ : Only H) (hs : SqL K H a (ns.map V.int)) :
    sp_law K [.ref a] H (fun v _ => v = .bl true) fun _ _ _ => False :=
  ⟨a, ns, rfl, hs, hl, fun _ => rfl⟩
theorem all_mk {l : PySem.W.OpenLaw} {w : World} {K : PySem.W.Frag} {h : Heap}
    {mg : Str → Option Value} {fa : Addr} (X : K.In h) (N : h.Ns mainGlobals mg)
    (hfa : mg "law" = some (.ref fa))
    {C0 : Addr} (ac0 : PySem.W.nsIn K mainGlobals "Memory" = some (some (.ref C0)))
    {f0 : Addr} {od0 an0 : Option Addr} {sl0 : Array (Option Value)} {oc0 kV0 dc0 pm0 cd0 ct0 : Value}
    {f1 : Addr} {od1 an1 : Option Addr} {sl1 : Array (Option Value)} {oc1 kV1 dc1 pm1 cd1 ct1 : Value}
    {f2 : Addr} {od2 an2 : Option Addr} {sl2 : Array (Option Value)} {oc2 kV2 dc2 pm2 cd2 ct2 : Value}
    {f3 : Addr} {od3 an3 : Option Addr} {sl3 : Array (Option Value)} {oc3 kV3 dc3 pm3 cd3 ct3 : Value}
    {f4 : Addr} {od4 an4 : Option Addr} {sl4 : Array (Option Value)} {oc4 kV4 dc4 pm4 cd4 ct4 : Value}
    {f5 : Addr} {od5 an5 : Option Addr} {sl5 : Array (Option Value)} {oc5 kV5 dc5 pm5 cd5 ct5 : Value}
    {f6 : Addr} {od6 an6 : Option Addr} {sl6 : Array (Option Value)} {oc6 kV6 dc6 pm6 cd6 ct6 : Value}
    {f7 : Addr} {od7 an7 : Option Addr} {sl7 : Array (Option Value)} {oc7 kV7 dc7 pm7 cd7 ct7 : Value}
    {f8 : Addr} {od8 an8 : Option Addr} {sl8 : Array (Option Value)} {oc8 kV8 dc8 pm8 cd8 ct8 : Value}
    {f9 : Addr} {od9 an9 : Option Addr} {sl9 : Array (Option Value)} {oc9 kV9 dc9 pm9 cd9 ct9 : Value}
    {f10 : Addr} {od10 an10 : Option Addr} {sl10 : Array (Option Value)} {oc10 kV10 dc10 pm10 cd10 ct10 : Value}
    {f11 : Addr} {od11 an11 : Option Addr} {sl11 : Array (Option Value)} {oc11 kV11 dc11 pm11 cd11 ct11 : Value}
    {f12 : Addr} {od12 an12 : Option Addr} {sl12 : Array (Option Value)} {oc12 dc12 pm12 cd12 ct12 : Value}
    {f13 : Addr} {od13 an13 : Option Addr} {sl13 : Array (Option Value)} {oc13 kV13 dc13 pm13 cd13 ct13 : Value}
    {f14 : Addr} {od14 an14 : Option Addr} {sl14 : Array (Option Value)} {oc14 kV14 dc14 pm14 cd14 ct14 : Value}
    {f15 : Addr} {od15 an15 : Option Addr} {sl15 : Array (Option Value)} {oc15 kV15 dc15 pm15 cd15 ct15 : Value}
    {f16 : Addr} {od16 an16 : Option Addr} {sl16 : Array (Option Value)} {oc16 kV16 dc16 pm16 cd16 ct16 : Value}
    {f17 : Addr} {od17 an17 : Option Addr} {sl17 : Array (Option Value)} {oc17 kV17 dc17 pm17 cd17 ct17 : Value}
    {f18 : Addr} {od18 an18 : Option Addr} {sl18 : Array (Option Value)} {oc18 kV18 dc18 pm18 cd18 ct18 : Value}
    {f19 : Addr} {od19 an19 : Option Addr} {sl19 : Array (Option Value)} {oc19 dc19 pm19 cd19 ct19 : Value}
    {f20 : Addr} {od20 an20 : Option Addr} {sl20 : Array (Option Value)} {oc20 kV20 dc20 pm20 cd20 ct20 : Value}
    {f21 : Addr} {od21 an21 : Option Addr} {sl21 : Array (Option Value)} {oc21 kV21 dc21 pm21 cd21 ct21 : Value}
    {f22 : Addr} {od22 an22 : Option Addr} {sl22 : Array (Option Value)} {oc22 kV22 dc22 pm22 cd22 ct22 : Value}
    {f23 : Addr} {od23 an23 : Option Addr} {sl23 : Array (Option Value)} {oc23 kV23 dc23 pm23 cd23 ct23 : Value}
    {f24 : Addr} {od24 an24 : Option Addr} {sl24 : Array (Option Value)} {oc24 kV24 dc24 pm24 cd24 ct24 : Value}
    {f25 : Addr} {od25 an25 : Option Addr} {sl25 : Array (Option Value)} {oc25 kV25 dc25 pm25 cd25 ct25 : Value}
    {f26 : Addr} {od26 an26 : Option Addr} {sl26 : Array (Option Value)} {oc26 kV26 dc26 pm26 cd26 ct26 : Value}
    {f27 : Addr} {od27 an27 : Option Addr} {sl27 : Array (Option Value)} {oc27 kV27 dc27 pm27 cd27 ct27 : Value}
    {f28 : Addr} {od28 an28 : Option Addr} {sl28 : Array (Option Value)} {oc28 kV28 dc28 pm28 cd28 ct28 : Value}
    {f29 : Addr} {od29 an29 : Option Addr} {sl29 : Array (Option Value)} {oc29 kV29 dc29 pm29 cd29 ct29 : Value}
    {f30 : Addr} {od30 an30 : Option Addr} {sl30 : Array (Option Value)} {oc30 kV30 dc30 pm30 cd30 ct30 : Value}
    {f31 : Addr} {od31 an31 : Option Addr} {sl31 : Array (Option Value)} {oc31 kV31 dc31 pm31 cd31 ct31 : Value}
    {f32 : Addr} {od32 an32 : Option Addr} {sl32 : Array (Option Value)} {oc32 kV32 dc32 pm32 cd32 ct32 : Value}
    (a0 : PySem.W.nsIn K mainGlobals "_wall" = some (some (.ref f0)))
    (l0 : K.lookup f0 = some ⟨oc0, od0, .func (PySem.W.fnOf "_wall" "_wall" (defArgs s_wall) (defBody s_wall)
      (defScope s_wall) .none kV0 dc0 pm0 an0 cd0 ct0), sl0⟩)
    (c0 : PySem.W.codeIn K cd0 "_wall" = true) (k0 : PySem.W.keepIn K (.ref f0) = true)
    (a1 : PySem.W.nsIn K mainGlobals "is_number" = some (some (.ref f1)))
    (l1 : K.lookup f1 = some ⟨oc1, od1, .func (PySem.W.fnOf "is_number" "is_number" (defArgs s_is_number) (defBody s_is_number)
      (defScope s_is_number) .none kV1 dc1 pm1 an1 cd1 ct1), sl1⟩)
    (c1 : PySem.W.codeIn K cd1 "is_number" = true) (k1 : PySem.W.keepIn K (.ref f1) = true)
    (a2 : PySem.W.nsIn K mainGlobals "is_whole" = some (some (.ref f2)))
    (l2 : K.lookup f2 = some ⟨oc2, od2, .func (PySem.W.fnOf "is_whole" "is_whole" (defArgs s_is_whole) (defBody s_is_whole)
      (defScope s_is_whole) .none kV2 dc2 pm2 an2 cd2 ct2), sl2⟩)
    (c2 : PySem.W.codeIn K cd2 "is_whole" = true) (k2 : PySem.W.keepIn K (.ref f2) = true)
    (a3 : PySem.W.nsIn K mainGlobals "is_size" = some (some (.ref f3)))
    (l3 : K.lookup f3 = some ⟨oc3, od3, .func (PySem.W.fnOf "is_size" "is_size" (defArgs s_is_size) (defBody s_is_size)
      (defScope s_is_size) .none kV3 dc3 pm3 an3 cd3 ct3), sl3⟩)
    (c3 : PySem.W.codeIn K cd3 "is_size" = true) (k3 : PySem.W.keepIn K (.ref f3) = true)
    (a4 : PySem.W.nsIn K mainGlobals "is_run" = some (some (.ref f4)))
    (l4 : K.lookup f4 = some ⟨oc4, od4, .func (PySem.W.fnOf "is_run" "is_run" (defArgs s_is_run) (defBody s_is_run)
      (defScope s_is_run) .none kV4 dc4 pm4 an4 cd4 ct4), sl4⟩)
    (c4 : PySem.W.codeIn K cd4 "is_run" = true) (k4 : PySem.W.keepIn K (.ref f4) = true)
    (a5 : PySem.W.nsIn K mainGlobals "are_runs" = some (some (.ref f5)))
    (l5 : K.lookup f5 = some ⟨oc5, od5, .func (PySem.W.fnOf "are_runs" "are_runs" (defArgs s_are_runs) (defBody s_are_runs)
      (defScope s_are_runs) .none kV5 dc5 pm5 an5 cd5 ct5), sl5⟩)
    (c5 : PySem.W.codeIn K cd5 "are_runs" = true) (k5 : PySem.W.keepIn K (.ref f5) = true)
    (a6 : PySem.W.nsIn K mainGlobals "joined" = some (some (.ref f6)))
    (l6 : K.lookup f6 = some ⟨oc6, od6, .func (PySem.W.fnOf "joined" "joined" (defArgs s_joined) (defBody s_joined)
      (defScope s_joined) .none kV6 dc6 pm6 an6 cd6 ct6), sl6⟩)
    (c6 : PySem.W.codeIn K cd6 "joined" = true) (k6 : PySem.W.keepIn K (.ref f6) = true)
    (a7 : PySem.W.nsIn K mainGlobals "cut_out" = some (some (.ref f7)))
    (l7 : K.lookup f7 = some ⟨oc7, od7, .func (PySem.W.fnOf "cut_out" "cut_out" (defArgs s_cut_out) (defBody s_cut_out)
      (defScope s_cut_out) .none kV7 dc7 pm7 an7 cd7 ct7), sl7⟩)
    (c7 : PySem.W.codeIn K cd7 "cut_out" = true) (k7 : PySem.W.keepIn K (.ref f7) = true)
    (a8 : PySem.W.nsIn K mainGlobals "want_size" = some (some (.ref f8)))
    (l8 : K.lookup f8 = some ⟨oc8, od8, .func (PySem.W.fnOf "want_size" "want_size" (defArgs s_want_size) (defBody s_want_size)
      (defScope s_want_size) .none kV8 dc8 pm8 an8 cd8 ct8), sl8⟩)
    (c8 : PySem.W.codeIn K cd8 "want_size" = true) (k8 : PySem.W.keepIn K (.ref f8) = true)
    (a9 : PySem.W.nsIn K mainGlobals "want_number" = some (some (.ref f9)))
    (l9 : K.lookup f9 = some ⟨oc9, od9, .func (PySem.W.fnOf "want_number" "want_number" (defArgs s_want_number) (defBody s_want_number)
      (defScope s_want_number) .none kV9 dc9 pm9 an9 cd9 ct9), sl9⟩)
    (c9 : PySem.W.codeIn K cd9 "want_number" = true) (k9 : PySem.W.keepIn K (.ref f9) = true)
    (a10 : PySem.W.nsIn K mainGlobals "want_cell" = some (some (.ref f10)))
    (l10 : K.lookup f10 = some ⟨oc10, od10, .func (PySem.W.fnOf "want_cell" "want_cell" (defArgs s_want_cell) (defBody s_want_cell)
      (defScope s_want_cell) .none kV10 dc10 pm10 an10 cd10 ct10), sl10⟩)
    (c10 : PySem.W.codeIn K cd10 "want_cell" = true) (k10 : PySem.W.keepIn K (.ref f10) = true)
    (a11 : PySem.W.nsIn K mainGlobals "want_stretch" = some (some (.ref f11)))
    (l11 : K.lookup f11 = some ⟨oc11, od11, .func (PySem.W.fnOf "want_stretch" "want_stretch" (defArgs s_want_stretch) (defBody s_want_stretch)
      (defScope s_want_stretch) .none kV11 dc11 pm11 an11 cd11 ct11), sl11⟩)
    (c11 : PySem.W.codeIn K cd11 "want_stretch" = true) (k11 : PySem.W.keepIn K (.ref f11) = true)
    (a12 : PySem.W.findIn K (.ref C0) "__init__" = some (some (.ref f12))) (i12 : PySem.W.isFn K (.ref f12) = true)
    {D12 : Addr}
    (l12 : K.lookup f12 = some ⟨oc12, od12, .func (PySem.W.fnOf "__init__" "Memory.__init__" (defArgs s_Memory_init) (defBody s_Memory_init)
      (defScope s_Memory_init) .none (.ref D12) dc12 pm12 an12 cd12 ct12), sl12⟩)
    (c12 : PySem.W.codeIn K cd12 "Memory.__init__" = true) (k12 : PySem.W.keepIn K (.ref f12) = true)
    {tq12_0 : Tok} (q12_0 : PySem.W.nsIn K D12 "number" = some (some (.int 0 tq12_0)))
    (a13 : PySem.W.findIn K (.ref C0) "size" = some (some (.ref f13))) (i13 : PySem.W.isFn K (.ref f13) = true)
    (l13 : K.lookup f13 = some ⟨oc13, od13, .func (PySem.W.fnOf "size" "Memory.size" (defArgs s_Memory_size) (defBody s_Memory_size)
      (defScope s_Memory_size) .none kV13 dc13 pm13 an13 cd13 ct13), sl13⟩)
    (c13 : PySem.W.codeIn K cd13 "Memory.size" = true) (k13 : PySem.W.keepIn K (.ref f13) = true)
    (a14 : PySem.W.findIn K (.ref C0) "at" = some (some (.ref f14))) (i14 : PySem.W.isFn K (.ref f14) = true)
    (l14 : K.lookup f14 = some ⟨oc14, od14, .func (PySem.W.fnOf "at" "Memory.at" (defArgs s_Memory_at) (defBody s_Memory_at)
      (defScope s_Memory_at) .none kV14 dc14 pm14 an14 cd14 ct14), sl14⟩)
    (c14 : PySem.W.codeIn K cd14 "Memory.at" = true) (k14 : PySem.W.keepIn K (.ref f14) = true)
    (a15 : PySem.W.findIn K (.ref C0) "runs" = some (some (.ref f15))) (i15 : PySem.W.isFn K (.ref f15) = true)
    (l15 : K.lookup f15 = some ⟨oc15, od15, .func (PySem.W.fnOf "runs" "Memory.runs" (defArgs s_Memory_runs) (defBody s_Memory_runs)
      (defScope s_Memory_runs) .none kV15 dc15 pm15 an15 cd15 ct15), sl15⟩)
    (c15 : PySem.W.codeIn K cd15 "Memory.runs" = true) (k15 : PySem.W.keepIn K (.ref f15) = true)
    (a16 : PySem.W.findIn K (.ref C0) "lay" = some (some (.ref f16))) (i16 : PySem.W.isFn K (.ref f16) = true)
    (l16 : K.lookup f16 = some ⟨oc16, od16, .func (PySem.W.fnOf "lay" "Memory.lay" (defArgs s_Memory_lay) (defBody s_Memory_lay)
      (defScope s_Memory_lay) .none kV16 dc16 pm16 an16 cd16 ct16), sl16⟩)
    (c16 : PySem.W.codeIn K cd16 "Memory.lay" = true) (k16 : PySem.W.keepIn K (.ref f16) = true)
    (a17 : PySem.W.findIn K (.ref C0) "put" = some (some (.ref f17))) (i17 : PySem.W.isFn K (.ref f17) = true)
    (l17 : K.lookup f17 = some ⟨oc17, od17, .func (PySem.W.fnOf "put" "Memory.put" (defArgs s_Memory_put) (defBody s_Memory_put)
      (defScope s_Memory_put) .none kV17 dc17 pm17 an17 cd17 ct17), sl17⟩)
    (c17 : PySem.W.codeIn K cd17 "Memory.put" = true) (k17 : PySem.W.keepIn K (.ref f17) = true)
    (a18 : PySem.W.findIn K (.ref C0) "fill" = some (some (.ref f18))) (i18 : PySem.W.isFn K (.ref f18) = true)
    (l18 : K.lookup f18 = some ⟨oc18, od18, .func (PySem.W.fnOf "fill" "Memory.fill" (defArgs s_Memory_fill) (defBody s_Memory_fill)
      (defScope s_Memory_fill) .none kV18 dc18 pm18 an18 cd18 ct18), sl18⟩)
    (c18 : PySem.W.codeIn K cd18 "Memory.fill" = true) (k18 : PySem.W.keepIn K (.ref f18) = true)
    (a19 : PySem.W.findIn K (.ref C0) "bring" = some (some (.ref f19))) (i19 : PySem.W.isFn K (.ref f19) = true)
    {D19 : Addr}
    (l19 : K.lookup f19 = some ⟨oc19, od19, .func (PySem.W.fnOf "bring" "Memory.bring" (defArgs s_Memory_bring) (defBody s_Memory_bring)
      (defScope s_Memory_bring) .none (.ref D19) dc19 pm19 an19 cd19 ct19), sl19⟩)
    (c19 : PySem.W.codeIn K cd19 "Memory.bring" = true) (k19 : PySem.W.keepIn K (.ref f19) = true)
    (q19_0 : PySem.W.nsIn K D19 "source" = some (some .none))
    (a20 : PySem.W.findIn K (.ref C0) "copied" = some (some (.ref f20))) (i20 : PySem.W.isFn K (.ref f20) = true)
    (l20 : K.lookup f20 = some ⟨oc20, od20, .func (PySem.W.fnOf "copied" "Memory.copied" (defArgs s_Memory_copied) (defBody s_Memory_copied)
      (defScope s_Memory_copied) .none kV20 dc20 pm20 an20 cd20 ct20), sl20⟩)
    (c20 : PySem.W.codeIn K cd20 "Memory.copied" = true) (k20 : PySem.W.keepIn K (.ref f20) = true)
    (a21 : PySem.W.findIn K (.ref C0) "__eq__" = some (some (.ref f21))) (i21 : PySem.W.isFn K (.ref f21) = true)
    (l21 : K.lookup f21 = some ⟨oc21, od21, .func (PySem.W.fnOf "__eq__" "Memory.__eq__" (defArgs s_Memory_eq) (defBody s_Memory_eq)
      (defScope s_Memory_eq) .none kV21 dc21 pm21 an21 cd21 ct21), sl21⟩)
    (c21 : PySem.W.codeIn K cd21 "Memory.__eq__" = true) (k21 : PySem.W.keepIn K (.ref f21) = true)
    (a22 : PySem.W.findIn K (.ref C0) "__len__" = some (some (.ref f22))) (i22 : PySem.W.isFn K (.ref f22) = true)
    (l22 : K.lookup f22 = some ⟨oc22, od22, .func (PySem.W.fnOf "__len__" "Memory.__len__" (defArgs s_Memory_len) (defBody s_Memory_len)
      (defScope s_Memory_len) .none kV22 dc22 pm22 an22 cd22 ct22), sl22⟩)
    (c22 : PySem.W.codeIn K cd22 "Memory.__len__" = true) (k22 : PySem.W.keepIn K (.ref f22) = true)
    (a23 : PySem.W.findIn K (.ref C0) "__repr__" = some (some (.ref f23))) (i23 : PySem.W.isFn K (.ref f23) = true)
    (l23 : K.lookup f23 = some ⟨oc23, od23, .func (PySem.W.fnOf "__repr__" "Memory.__repr__" (defArgs s_Memory_repr) (defBody s_Memory_repr)
      (defScope s_Memory_repr) .none kV23 dc23 pm23 an23 cd23 ct23), sl23⟩)
    (c23 : PySem.W.codeIn K cd23 "Memory.__repr__" = true) (k23 : PySem.W.keepIn K (.ref f23) = true)
    (a24 : PySem.W.nsIn K mainGlobals "memory_of" = some (some (.ref f24)))
    (l24 : K.lookup f24 = some ⟨oc24, od24, .func (PySem.W.fnOf "memory_of" "memory_of" (defArgs s_memory_of) (defBody s_memory_of)
      (defScope s_memory_of) .none kV24 dc24 pm24 an24 cd24 ct24), sl24⟩)
    (c24 : PySem.W.codeIn K cd24 "memory_of" = true) (k24 : PySem.W.keepIn K (.ref f24) = true)
    (a25 : PySem.W.nsIn K mainGlobals "_law_pot" = some (some (.ref f25)))
    (l25 : K.lookup f25 = some ⟨oc25, od25, .func (PySem.W.fnOf "_law_pot" "_law_pot" (defArgs s_law_pot) (defBody s_law_pot)
      (defScope s_law_pot) .none kV25 dc25 pm25 an25 cd25 ct25), sl25⟩)
    (c25 : PySem.W.codeIn K cd25 "_law_pot" = true) (k25 : PySem.W.keepIn K (.ref f25) = true)
    (a26 : PySem.W.nsIn K mainGlobals "_law_draw" = some (some (.ref f26)))
    (l26 : K.lookup f26 = some ⟨oc26, od26, .func (PySem.W.fnOf "_law_draw" "_law_draw" (defArgs s_law_draw) (defBody s_law_draw)
      (defScope s_law_draw) .none kV26 dc26 pm26 an26 cd26 ct26), sl26⟩)
    (c26 : PySem.W.codeIn K cd26 "_law_draw" = true) (k26 : PySem.W.keepIn K (.ref f26) = true)
    (a27 : PySem.W.nsIn K mainGlobals "_law_place" = some (some (.ref f27)))
    (l27 : K.lookup f27 = some ⟨oc27, od27, .func (PySem.W.fnOf "_law_place" "_law_place" (defArgs s_law_place) (defBody s_law_place)
      (defScope s_law_place) .none kV27 dc27 pm27 an27 cd27 ct27), sl27⟩)
    (c27 : PySem.W.codeIn K cd27 "_law_place" = true) (k27 : PySem.W.keepIn K (.ref f27) = true)
    (a28 : PySem.W.nsIn K mainGlobals "_law_stretch" = some (some (.ref f28)))
    (l28 : K.lookup f28 = some ⟨oc28, od28, .func (PySem.W.fnOf "_law_stretch" "_law_stretch" (defArgs s_law_stretch) (defBody s_law_stretch)
      (defScope s_law_stretch) .none kV28 dc28 pm28 an28 cd28 ct28), sl28⟩)
    (c28 : PySem.W.codeIn K cd28 "_law_stretch" = true) (k28 : PySem.W.keepIn K (.ref f28) = true)
    (a29 : PySem.W.nsIn K mainGlobals "_law_runs_of" = some (some (.ref f29)))
    (l29 : K.lookup f29 = some ⟨oc29, od29, .func (PySem.W.fnOf "_law_runs_of" "_law_runs_of" (defArgs s_law_runs_of) (defBody s_law_runs_of)
      (defScope s_law_runs_of) .none kV29 dc29 pm29 an29 cd29 ct29), sl29⟩)
    (c29 : PySem.W.codeIn K cd29 "_law_runs_of" = true) (k29 : PySem.W.keepIn K (.ref f29) = true)
    (a30 : PySem.W.nsIn K mainGlobals "_law_done" = some (some (.ref f30)))
    (l30 : K.lookup f30 = some ⟨oc30, od30, .func (PySem.W.fnOf "_law_done" "_law_done" (defArgs s_law_done) (defBody s_law_done)
      (defScope s_law_done) .none kV30 dc30 pm30 an30 cd30 ct30), sl30⟩)
    (c30 : PySem.W.codeIn K cd30 "_law_done" = true) (k30 : PySem.W.keepIn K (.ref f30) = true)
    (a31 : PySem.W.nsIn K mainGlobals "_law_stands" = some (some (.ref f31)))
    (l31 : K.lookup f31 = some ⟨oc31, od31, .func (PySem.W.fnOf "_law_stands" "_law_stands" (defArgs s_law_stands) (defBody s_law_stands)
      (defScope s_law_stands) .none kV31 dc31 pm31 an31 cd31 ct31), sl31⟩)
    (c31 : PySem.W.codeIn K cd31 "_law_stands" = true) (k31 : PySem.W.keepIn K (.ref f31) = true)
    (a32 : PySem.W.nsIn K mainGlobals "law" = some (some (.ref f32)))
    (l32 : K.lookup f32 = some ⟨oc32, od32, .func (PySem.W.fnOf "law" "law" (defArgs s_law) (defBody s_law)
      (defScope s_law) .none kV32 dc32 pm32 an32 cd32 ct32), sl32⟩)
    (c32 : PySem.W.codeIn K cd32 "law" = true) (k32 : PySem.W.keepIn K (.ref f32) = true)
    (pg0 : PySem.W.plainGet K C0 Str.empty = true) (hd0 : PySem.W.hasDictIn K C0 = true)
    (po0 : PySem.W.plainOver K C0 = true) (sa0 : PySem.W.findIn K (.ref C0) "__setattr__" = some (some (.builtin "object.__setattr__")))
    (mk0 : PySem.W.makesIn K C0 = true) (kc0 : PySem.W.keepIn K (.ref C0) = true)
    (na0_pairs : PySem.W.findIn K (.ref C0) "pairs" = some none)
    (na0_wide : PySem.W.findIn K (.ref C0) "wide" = some none)
    {t_LARGEST : Tok} (g_LARGEST : PySem.W.nsIn K mainGlobals "LARGEST" = some (some (.int 1000000000000000000 t_LARGEST)))
    (z_abs : PySem.W.nsIn K mainGlobals "abs" = some none)
    (z_all : PySem.W.nsIn K mainGlobals "all" = some none)
    (z_any : PySem.W.nsIn K mainGlobals "any" = some none)
    (z_bool : PySem.W.nsIn K mainGlobals "bool" = some none)
    (z_divmod : PySem.W.nsIn K mainGlobals "divmod" = some none)
    (z_int : PySem.W.nsIn K mainGlobals "int" = some none)
    (z_isinstance : PySem.W.nsIn K mainGlobals "isinstance" = some none)
    (z_len : PySem.W.nsIn K mainGlobals "len" = some none)
    (z_list : PySem.W.nsIn K mainGlobals "list" = some none)
    (z_max : PySem.W.nsIn K mainGlobals "max" = some none)
    (z_min : PySem.W.nsIn K mainGlobals "min" = some none)
    (z_range : PySem.W.nsIn K mainGlobals "range" = some none)
    (z_sum : PySem.W.nsIn K mainGlobals "sum" = some none)
    (z_tuple : PySem.W.nsIn K mainGlobals "tuple" = some none)
    (z_zip : PySem.W.nsIn K mainGlobals "zip" = some none)
    : ∃ fd : FuncData, (∀ (s : Shared) (v : Value), BindsTo s fd ⟨[v], []⟩ [("_law_script", v)]) ∧
      ∀ base : Heap, K.In base → base.Ns mainGlobals mg →
        FnG l.prog w K mg base 7 fa fd ["_law_script"] (sp_law K) := by
  have e := hfa.symm.trans (PySem.W.mg_of X N a32)
  cases e
  have F0 := fund0 (st := s_wall) l0 c0 k0
  have b0 := bindN (ps := ["k"]) F0 fun _ _ _ _ _ _ us hl => match us, hl with | [_], _ => rfl
  have F1 := fund0 (st := s_is_number) l1 c1 k1
  have b1 := bindN (ps := ["thing"]) F1 fun _ _ _ _ _ _ us hl => match us, hl with | [_], _ => rfl
  have F2 := fund0 (st := s_is_whole) l2 c2 k2
  have b2 := bindN (ps := ["thing", "least", "most"]) F2 fun _ _ _ _ _ _ us hl => match us, hl with | [_, _, _], _ => rfl
  have F3 := fund0 (st := s_is_size) l3 c3 k3
  have b3 := bindN (ps := ["thing"]) F3 fun _ _ _ _ _ _ us hl => match us, hl with | [_], _ => rfl
  have F4 := fund0 (st := s_is_run) l4 c4 k4
  have b4 := bindN (ps := ["thing"]) F4 fun _ _ _ _ _ _ us hl => match us, hl with | [_], _ => rfl
  have F5 := fund0 (st := s_are_runs) l5 c5 k5
  have b5 := bindN (ps := ["thing", "size"]) F5 fun _ _ _ _ _ _ us hl => match us, hl with | [_, _], _ => rfl
  have F6 := fund0 (st := s_joined) l6 c6 k6
  have b6 := bindN (ps := ["pairs"]) F6 fun _ _ _ _ _ _ us hl => match us, hl with | [_], _ => rfl
  have F7 := fund0 (st := s_cut_out) l7 c7 k7
  have b7 := bindN (ps := ["pairs", "begin", "end"]) F7 fun _ _ _ _ _ _ us hl => match us, hl with | [_, _, _], _ => rfl
  have F8 := fund0 (st := s_want_size) l8 c8 k8
  have b8 := bindN (ps := ["thing"]) F8 fun _ _ _ _ _ _ us hl => match us, hl with | [_], _ => rfl
  have F9 := fund0 (st := s_want_number) l9 c9 k9
  have b9 := bindN (ps := ["thing"]) F9 fun _ _ _ _ _ _ us hl => match us, hl with | [_], _ => rfl
  have F10 := fund0 (st := s_want_cell) l10 c10 k10
  have b10 := bindN (ps := ["thing", "size"]) F10 fun _ _ _ _ _ _ us hl => match us, hl with | [_, _], _ => rfl
  have F11 := fund0 (st := s_want_stretch) l11 c11 k11
  have b11 := bindN (ps := ["begin", "end", "size"]) F11 fun _ _ _ _ _ _ us hl => match us, hl with | [_, _, _], _ => rfl
  have F12 := fund1 (st := s_Memory_init) (kws := ([("number", V.int 0)] : List (Str × V))) l12 c12 k12 (kw_more q12_0 ⟨_, rfl⟩ (fun q hq => nomatch hq))
  have b12 := bindK (ps := ["self", "size", "number"]) F12 2 (by simp) rfl fun _ _ _ _ _ _ us ks h1 h2 => match us, ks, h1, h2 with | [_, _], [_], _, _ => ⟨_, _, _, _, _, _, rfl, rfl, rfl⟩
  have F13 := fund0 (st := s_Memory_size) l13 c13 k13
  have b13 := bindN (ps := ["self"]) F13 fun _ _ _ _ _ _ us hl => match us, hl with | [_], _ => rfl
  have F14 := fund0 (st := s_Memory_at) l14 c14 k14
  have b14 := bindN (ps := ["self", "cell"]) F14 fun _ _ _ _ _ _ us hl => match us, hl with | [_, _], _ => rfl
  have F15 := fund0 (st := s_Memory_runs) l15 c15 k15
  have b15 := bindN (ps := ["self"]) F15 fun _ _ _ _ _ _ us hl => match us, hl with | [_], _ => rfl
  have F16 := fund0 (st := s_Memory_lay) l16 c16 k16
  have b16 := bindN (ps := ["self", "begin", "pairs", "end"]) F16 fun _ _ _ _ _ _ us hl => match us, hl with | [_, _, _, _], _ => rfl
  have F17 := fund0 (st := s_Memory_put) l17 c17 k17
  have b17 := bindN (ps := ["self", "cell", "number"]) F17 fun _ _ _ _ _ _ us hl => match us, hl with | [_, _, _], _ => rfl
  have F18 := fund0 (st := s_Memory_fill) l18 c18 k18
  have b18 := bindN (ps := ["self", "begin", "end", "number"]) F18 fun _ _ _ _ _ _ us hl => match us, hl with | [_, _, _, _], _ => rfl
  have F19 := fund1 (st := s_Memory_bring) (kws := ([("source", V.non)] : List (Str × V))) l19 c19 k19 (kw_more q19_0 rfl (fun q hq => nomatch hq))
  have b19 := bindK (ps := ["self", "begin", "end", "to", "source"]) F19 4 (by simp) rfl fun _ _ _ _ _ _ us ks h1 h2 => match us, ks, h1, h2 with | [_, _, _, _], [_], _, _ => ⟨_, _, _, _, _, _, rfl, rfl, rfl⟩
  have F20 := fund0 (st := s_Memory_copied) l20 c20 k20
  have b20 := bindN (ps := ["self"]) F20 fun _ _ _ _ _ _ us hl => match us, hl with | [_], _ => rfl
  have F21 := fund0 (st := s_Memory_eq) l21 c21 k21
  have b21 := bindN (ps := ["self", "other"]) F21 fun _ _ _ _ _ _ us hl => match us, hl with | [_, _], _ => rfl
  have F22 := fund0 (st := s_Memory_len) l22 c22 k22
  have b22 := bindN (ps := ["self"]) F22 fun _ _ _ _ _ _ us hl => match us, hl with | [_], _ => rfl
  have F23 := fund0 (st := s_Memory_repr) l23 c23 k23
  have b23 := bindN (ps := ["self"]) F23 fun _ _ _ _ _ _ us hl => match us, hl with | [_], _ => rfl
  have F24 := fund0 (st := s_memory_of) l24 c24 k24
  have b24 := bindN (ps := ["runs"]) F24 fun _ _ _ _ _ _ us hl => match us, hl with | [_], _ => rfl
  have F25 := fund0 (st := s_law_pot) l25 c25 k25
  have b25 := bindN (ps := ["_law_script", "_law_k"]) F25 fun _ _ _ _ _ _ us hl => match us, hl with | [_, _], _ => rfl
  have F26 := fund0 (st := s_law_draw) l26 c26 k26
  have b26 := bindN (ps := ["_law_pot_here", "_law_many"]) F26 fun _ _ _ _ _ _ us hl => match us, hl with | [_, _], _ => rfl
  have F27 := fund0 (st := s_law_place) l27 c27 k27
  have b27 := bindN (ps := ["_law_pot_here", "_law_most"]) F27 fun _ _ _ _ _ _ us hl => match us, hl with | [_, _], _ => rfl
  have F28 := fund0 (st := s_law_stretch) l28 c28 k28
  have b28 := bindN (ps := ["_law_pot_here", "_law_most"]) F28 fun _ _ _ _ _ _ us hl => match us, hl with | [_, _], _ => rfl
  have F29 := fund0 (st := s_law_runs_of) l29 c29 k29
  have b29 := bindN (ps := ["_law_cells_told"]) F29 fun _ _ _ _ _ _ us hl => match us, hl with | [_], _ => rfl
  have F30 := fund0 (st := s_law_done) l30 c30 k30
  have b30 := bindN (ps := ["_law_pot_here", "_law_both", "_law_lists"]) F30 fun _ _ _ _ _ _ us hl => match us, hl with | [_, _, _], _ => rfl
  have F31 := fund0 (st := s_law_stands) l31 c31 k31
  have b31 := bindN (ps := ["_law_both", "_law_lists"]) F31 fun _ _ _ _ _ _ us hl => match us, hl with | [_, _], _ => rfl
  have F32 := fund0 (st := s_law) l32 c32 k32
  have b32 := bindN (ps := ["_law_script"]) F32 fun _ _ _ _ _ _ us hl => match us, hl with | [_], _ => rfl
  let T : Txt K mg := {
    c_Memory := C0, cl_Memory := ⟨pg0, hd0, po0, sa0⟩, mg_Memory := PySem.W.mg_of X N ac0
    na_Memory_pairs := na0_pairs
    na_Memory_wide := na0_wide
    a_wall := _, d_wall := _, F_wall := F0, b_wall := b0, m_wall := PySem.W.mg_of X N a0
    a_is_number := _, d_is_number := _, F_is_number := F1, b_is_number := b1, m_is_number := PySem.W.mg_of X N a1
    a_is_whole := _, d_is_whole := _, F_is_whole := F2, b_is_whole := b2, m_is_whole := PySem.W.mg_of X N a2
    a_is_size := _, d_is_size := _, F_is_size := F3, b_is_size := b3, m_is_size := PySem.W.mg_of X N a3
    a_is_run := _, d_is_run := _, F_is_run := F4, b_is_run := b4, m_is_run := PySem.W.mg_of X N a4
    a_are_runs := _, d_are_runs := _, F_are_runs := F5, b_are_runs := b5, m_are_runs := PySem.W.mg_of X N a5
    a_joined := _, d_joined := _, F_joined := F6, b_joined := b6, m_joined := PySem.W.mg_of X N a6
    a_cut_out := _, d_cut_out := _, F_cut_out := F7, b_cut_out := b7, m_cut_out := PySem.W.mg_of X N a7
    a_want_size := _, d_want_size := _, F_want_size := F8, b_want_size := b8, m_want_size := PySem.W.mg_of X N a8
    a_want_number := _, d_want_number := _, F_want_number := F9, b_want_number := b9, m_want_number := PySem.W.mg_of X N a9
    a_want_cell := _, d_want_cell := _, F_want_cell := F10, b_want_cell := b10, m_want_cell := PySem.W.mg_of X N a10
    a_want_stretch := _, d_want_stretch := _, F_want_stretch := F11, b_want_stretch := b11, m_want_stretch := PySem.W.mg_of X N a11
    a_Memory_init := _, d_Memory_init := _, F_Memory_init := F12, b_Memory_init := b12, mk_Memory := ⟨mk0, a12, i12, kc0⟩
    a_Memory_size := _, d_Memory_size := _, F_Memory_size := F13, b_Memory_size := b13, me_Memory_size := ⟨a13, i13, k13⟩
    a_Memory_at := _, d_Memory_at := _, F_Memory_at := F14, b_Memory_at := b14, me_Memory_at := ⟨a14, i14, k14⟩
    a_Memory_runs := _, d_Memory_runs := _, F_Memory_runs := F15, b_Memory_runs := b15, me_Memory_runs := ⟨a15, i15, k15⟩
    a_Memory_lay := _, d_Memory_lay := _, F_Memory_lay := F16, b_Memory_lay := b16, me_Memory_lay := ⟨a16, i16, k16⟩
    a_Memory_put := _, d_Memory_put := _, F_Memory_put := F17, b_Memory_put := b17, me_Memory_put := ⟨a17, i17, k17⟩
    a_Memory_fill := _, d_Memory_fill := _, F_Memory_fill := F18, b_Memory_fill := b18, me_Memory_fill := ⟨a18, i18, k18⟩
    a_Memory_bring := _, d_Memory_bring := _, F_Memory_bring := F19, b_Memory_bring := b19, me_Memory_bring := ⟨a19, i19, k19⟩
    a_Memory_copied := _, d_Memory_copied := _, F_Memory_copied := F20, b_Memory_copied := b20, me_Memory_copied := ⟨a20, i20, k20⟩
    a_Memory_eq := _, d_Memory_eq := _, F_Memory_eq := F21, b_Memory_eq := b21, me_Memory_eq := ⟨a21, i21, k21⟩
    a_Memory_len := _, d_Memory_len := _, F_Memory_len := F22, b_Memory_len := b22, me_Memory_len := ⟨a22, i22, k22⟩
    a_Memory_repr := _, d_Memory_repr := _, F_Memory_repr := F23, b_Memory_repr := b23, me_Memory_repr := ⟨a23, i23, k23⟩
    a_memory_of := _, d_memory_of := _, F_memory_of := F24, b_memory_of := b24, m_memory_of := PySem.W.mg_of X N a24
    a_law_pot := _, d_law_pot := _, F_law_pot := F25, b_law_pot := b25, m_law_pot := PySem.W.mg_of X N a25
    a_law_draw := _, d_law_draw := _, F_law_draw := F26, b_law_draw := b26, m_law_draw := PySem.W.mg_of X N a26
    a_law_place := _, d_law_place := _, F_law_place := F27, b_law_place := b27, m_law_place := PySem.W.mg_of X N a27
    a_law_stretch := _, d_law_stretch := _, F_law_stretch := F28, b_law_stretch := b28, m_law_stretch := PySem.W.mg_of X N a28
    a_law_runs_of := _, d_law_runs_of := _, F_law_runs_of := F29, b_law_runs_of := b29, m_law_runs_of := PySem.W.mg_of X N a29
    a_law_done := _, d_law_done := _, F_law_done := F30, b_law_done := b30, m_law_done := PySem.W.mg_of X N a30
    a_law_stands := _, d_law_stands := _, F_law_stands := F31, b_law_stands := b31, m_law_stands := PySem.W.mg_of X N a31
    a_law := _, d_law := _, F_law := F32, b_law := b32, m_law := PySem.W.mg_of X N a32
    kb_Memory_bring_4_source := kbK (ps := ["self", "begin", "end", "to", "source"]) F19 4 ["source"] ([] : List (Str × V)) [0] (by simp) (by simp) fun _ _ _ _ _ _ us mv ws h1 h2 h3 => match us, mv, ws, h1, h2, h3 with | [_, _, _, _], [], [_], _, _, _ => rfl
    t_LARGEST := _, g_LARGEST := PySem.W.mg_of X N g_LARGEST
    n_abs := PySem.W.mg_none_of X N z_abs
    n_all := PySem.W.mg_none_of X N z_all
    n_any := PySem.W.mg_none_of X N z_any
    n_bool := PySem.W.mg_none_of X N z_bool
    n_divmod := PySem.W.mg_none_of X N z_divmod
    n_int := PySem.W.mg_none_of X N z_int
    n_isinstance := PySem.W.mg_none_of X N z_isinstance
    n_len := PySem.W.mg_none_of X N z_len
    n_list := PySem.W.mg_none_of X N z_list
    n_max := PySem.W.mg_none_of X N z_max
    n_min := PySem.W.mg_none_of X N z_min
    n_range := PySem.W.mg_none_of X N z_range
    n_sum := PySem.W.mg_none_of X N z_sum
    n_tuple := PySem.W.mg_none_of X N z_tuple
    n_zip := PySem.W.mg_none_of X N z_zip
  }
  refine ⟨_, fun s v => .of_eq rfl, fun base _ _ => ok_law T⟩
end My
open PySem PySem.W PyProof.Rows in
set_option maxRecDepth 100000 in
set_option maxHeartbeats 0 in
theorem PySem.Challenge.cw_forkthrift_k14_whole_copies_by_cells_holds : PySem.Challenge.rw_forkthrift_k14_whole_copies_by_cells.Holds := by
  w_on; o_law; k_head; (case hw => w_witness2)
  k_fill
  refine G.walkG (l := PySem.Challenge.rw_forkthrift_k14_whole_copies_by_cells) (sp := My.sp_law) (x := "_law_script") (n := 63) (k := 7) rfl (by decide) rfl ⟨rfl, by decide, by decide⟩ (fun w h Y => PySem.W.kIn_of Y) ?F ?S
  case S => exact fun K H a ns hl hb ho hs => My.law_end hl hb ho hs
  case F =>
    intro w mg fa h KX N hmg
    refine' My.all_mk KX N hmg ?ac0 ?a0 ?l0 ?c0 ?k0 ?a1 ?l1 ?c1 ?k1 ?a2 ?l2 ?c2 ?k2 ?a3 ?l3 ?c3 ?k3 ?a4 ?l4 ?c4 ?k4 ?a5 ?l5 ?c5 ?k5 ?a6 ?l6 ?c6 ?k6 ?a7 ?l7 ?c7 ?k7 ?a8 ?l8 ?c8 ?k8 ?a9 ?l9 ?c9 ?k9 ?a10 ?l10 ?c10 ?k10 ?a11 ?l11 ?c11 ?k11 ?a12 ?i12 ?l12 ?c12 ?k12 ?q12_0 ?a13 ?i13 ?l13 ?c13 ?k13 ?a14 ?i14 ?l14 ?c14 ?k14 ?a15 ?i15 ?l15 ?c15 ?k15 ?a16 ?i16 ?l16 ?c16 ?k16 ?a17 ?i17 ?l17 ?c17 ?k17 ?a18 ?i18 ?l18 ?c18 ?k18 ?a19 ?i19 ?l19 ?c19 ?k19 ?q19_0 ?a20 ?i20 ?l20 ?c20 ?k20 ?a21 ?i21 ?l21 ?c21 ?k21 ?a22 ?i22 ?l22 ?c22 ?k22 ?a23 ?i23 ?l23 ?c23 ?k23 ?a24 ?l24 ?c24 ?k24 ?a25 ?l25 ?c25 ?k25 ?a26 ?l26 ?c26 ?k26 ?a27 ?l27 ?c27 ?k27 ?a28 ?l28 ?c28 ?k28 ?a29 ?l29 ?c29 ?k29 ?a30 ?l30 ?c30 ?k30 ?a31 ?l31 ?c31 ?k31 ?a32 ?l32 ?c32 ?k32 ?pg0 ?hd0 ?po0 ?sa0 ?mk0 ?kc0 ?na0_pairs ?na0_wide ?g_LARGEST ?z_abs ?z_all ?z_any ?z_bool ?z_divmod ?z_int ?z_isinstance ?z_len ?z_list ?z_max ?z_min ?z_range ?z_sum ?z_tuple ?z_zip
    (case ac0 => k_is)
    (case a0 => k_is)
    (case l0 => k_is)
    (case c0 => k_is)
    (case k0 => k_is)
    (case a1 => k_is)
    (case l1 => k_is)
    (case c1 => k_is)
    (case k1 => k_is)
    (case a2 => k_is)
    (case l2 => k_is)
    (case c2 => k_is)
    (case k2 => k_is)
    (case a3 => k_is)
    (case l3 => k_is)
    (case c3 => k_is)
    (case k3 => k_is)
    (case a4 => k_is)
    (case l4 => k_is)
    (case c4 => k_is)
    (case k4 => k_is)
    (case a5 => k_is)
    (case l5 => k_is)
    (case c5 => k_is)
    (case k5 => k_is)
    (case a6 => k_is)
    (case l6 => k_is)
    (case c6 => k_is)
    (case k6 => k_is)
    (case a7 => k_is)
    (case l7 => k_is)
    (case c7 => k_is)
    (case k7 => k_is)
    (case a8 => k_is)
    (case l8 => k_is)
    (case c8 => k_is)
    (case k8 => k_is)
    (case a9 => k_is)
    (case l9 => k_is)
    (case c9 => k_is)
    (case k9 => k_is)
    (case a10 => k_is)
    (case l10 => k_is)
    (case c10 => k_is)
    (case k10 => k_is)
    (case a11 => k_is)
    (case l11 => k_is)
    (case c11 => k_is)
    (case k11 => k_is)
    (case a12 => k_is)
    (case i12 => k_is)
    (case l12 => k_is)
    (case c12 => k_is)
    (case k12 => k_is)
    (case q12_0 => k_is)
    (case a13 => k_is)
    (case i13 => k_is)
    (case l13 => k_is)
    (case c13 => k_is)
    (case k13 => k_is)
    (case a14 => k_is)
    (case i14 => k_is)
    (case l14 => k_is)
    (case c14 => k_is)
    (case k14 => k_is)
    (case a15 => k_is)
    (case i15 => k_is)
    (case l15 => k_is)
    (case c15 => k_is)
    (case k15 => k_is)
    (case a16 => k_is)
    (case i16 => k_is)
    (case l16 => k_is)
    (case c16 => k_is)
    (case k16 => k_is)
    (case a17 => k_is)
    (case i17 => k_is)
    (case l17 => k_is)
    (case c17 => k_is)
    (case k17 => k_is)
    (case a18 => k_is)
    (case i18 => k_is)
    (case l18 => k_is)
    (case c18 => k_is)
    (case k18 => k_is)
    (case a19 => k_is)
    (case i19 => k_is)
    (case l19 => k_is)
    (case c19 => k_is)
    (case k19 => k_is)
    (case q19_0 => k_is)
    (case a20 => k_is)
    (case i20 => k_is)
    (case l20 => k_is)
    (case c20 => k_is)
    (case k20 => k_is)
    (case a21 => k_is)
    (case i21 => k_is)
    (case l21 => k_is)
    (case c21 => k_is)
    (case k21 => k_is)
    (case a22 => k_is)
    (case i22 => k_is)
    (case l22 => k_is)
    (case c22 => k_is)
    (case k22 => k_is)
    (case a23 => k_is)
    (case i23 => k_is)
    (case l23 => k_is)
    (case c23 => k_is)
    (case k23 => k_is)
    (case a24 => k_is)
    (case l24 => k_is)
    (case c24 => k_is)
    (case k24 => k_is)
    (case a25 => k_is)
    (case l25 => k_is)
    (case c25 => k_is)
    (case k25 => k_is)
    (case a26 => k_is)
    (case l26 => k_is)
    (case c26 => k_is)
    (case k26 => k_is)
    (case a27 => k_is)
    (case l27 => k_is)
    (case c27 => k_is)
    (case k27 => k_is)
    (case a28 => k_is)
    (case l28 => k_is)
    (case c28 => k_is)
    (case k28 => k_is)
    (case a29 => k_is)
    (case l29 => k_is)
    (case c29 => k_is)
    (case k29 => k_is)
    (case a30 => k_is)
    (case l30 => k_is)
    (case c30 => k_is)
    (case k30 => k_is)
    (case a31 => k_is)
    (case l31 => k_is)
    (case c31 => k_is)
    (case k31 => k_is)
    (case a32 => k_is)
    (case l32 => k_is)
    (case c32 => k_is)
    (case k32 => k_is)
    (case pg0 => k_is)
    (case hd0 => k_is)
    (case po0 => k_is)
    (case sa0 => k_is)
    (case mk0 => k_is)
    (case kc0 => k_is)
    (case na0_pairs => k_is)
    (case na0_wide => k_is)
    (case g_LARGEST => k_is)
    (case z_abs => k_is)
    (case z_all => k_is)
    (case z_any => k_is)
    (case z_bool => k_is)
    (case z_divmod => k_is)
    (case z_int => k_is)
    (case z_isinstance => k_is)
    (case z_len => k_is)
    (case z_list => k_is)
    (case z_max => k_is)
    (case z_min => k_is)
    (case z_range => k_is)
    (case z_sum => k_is)
    (case z_tuple => k_is)
    (case z_zip => k_is)
#print axioms PySem.Challenge.cw_forkthrift_k14_whole_copies_by_cells_holds


