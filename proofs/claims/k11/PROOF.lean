import PyProof.Rows.All
import Wide.All
import OpenK.AllK
import Wide.FinOn
import HandS.ForMost
import HandS.ForExc
import HandS.WideBits
import HandS.EndBits
import HandS.Defaults
import HandS.FStrTup
import HandS.IsInst
import HandS.More
import HandS.Style
import HandS.Steps
import HandS.MakeKwOnly
import HandS.SortInts
import HandS.Small
import HandS.FStr
import HandS.Codes
import HandS.ExcInit
import HandS.ExcIs
import HandS.ExcField
import KE.KExcIs
import PySem.Challenge.RW_forkthrift_k11_sizes_numbers_runs
set_option Elab.async false
set_option linter.all false
set_option maxRecDepth 100000
set_option maxHeartbeats 4000000
namespace G
open PySem PySem.Spec PyProof.Rows L2

/-! the call layer once more, with the guards known -/
structure RoomG (k : Nat) (A : Around) : Prop where
  r : Room k A
  g : A.guards = some []
theorem RoomG.mono {j k : Nat} {A : Around} (z : RoomG k A) (h : j ≤ k) : RoomG j A :=
  ⟨z.r.mono h, z.g⟩
theorem RoomG.deeper {k : Nat} {A : Around} (z : RoomG (k + 1) A) (env : Env) :
    RoomG k (A.deeper env) := ⟨z.r.deeper env, z.g⟩
theorem make_guards {A : Around} {C : Addr} {us : List Value} {kw : List (Str × Value)} :
    (A.under (.builtin "type.__call__" ⟨.ref C :: us, kw⟩)).guards = A.guards := by
  first
    | rfl
    | (simp only [Around.under]
       rw [pushGuards_eq]
       have e : Code.guards (.builtin "type.__call__" ⟨.ref C :: us, kw⟩) = [] := by
         simp [Code.guards, Code.isGuard, guardIds]
       rw [e]
       cases A.guards <;> rfl)
theorem RoomG.make {k : Nat} {A : Around} (z : RoomG (k + 1) A) (C : Addr) (us : List Value)
    (kw : List (Str × Value)) : RoomG k (A.under (.builtin "type.__call__" ⟨.ref C :: us, kw⟩)) :=
  ⟨z.r.make C us kw, make_guards.trans z.g⟩

structure FnG (P : Program) (w : World) (K : PySem.W.Frag) (mg : Str → Option Value) (base : Heap)
    (k : Nat) (f : Addr) (fd : FuncData) (ps : List Str) (sp : Sp) : Prop where
  len : ∀ vs H Q E, sp vs H Q E → vs.length = ps.length
  run : ∀ (A : Around) (outer : List Env) (s : Shared) (H : Hp) (args : Args) (us : List Value)
    (vs : List V) (Q : VK) (E : XK), RoomG k A → Env0 P w K mg base A outer s H →
    BindsTo s fd args (ps.zip us) → Vals vs us → sp vs H Q E →
    codeAny (model P w) A (.call (.ref f) args) (CR (L2.CX P w) outer P w H s Q E) s
section
variable {P : Program} {w : World} {K : PySem.W.Frag} {mg : Str → Option Value} {base : Heap}
theorem FnG.mono {j k : Nat} {f : Addr} {fd : FuncData} {ps : List Str} {sp : Sp}
    (F : FnG P w K mg base j f fd ps sp) (h : j ≤ k) : FnG P w K mg base k f fd ps sp :=
  ⟨F.len, fun A o s H args us vs Q E z => F.run A o s H args us vs Q E (z.mono h)⟩
theorem FnG.of {k : Nat} {f : Addr} {fd : FuncData} {ps : List Str} {sp : Sp}
    (F : FnOk P w K mg base (L2.CX P w) k f fd ps sp) : FnG P w K mg base k f fd ps sp :=
  ⟨F.len, fun A o s H args us vs Q E z => F.run A o s H args us vs Q E z.r⟩

/-- a def by its body -/
theorem FnG.body {k : Nat} {f : Addr} {name qual : Str} {params : Arguments} {body : List Stmt}
    {sc : Scope} {dV kV doc pm cdv ct oc : Value} {an od : Option Addr} {osl : Array (Option Value)}
    {N ps : List Str} {sp : Sp}
    (lk : K.lookup f = some ⟨oc, od, .func (PySem.W.fnOf name qual params body sc dV kV doc pm an cdv ct), osl⟩)
    (hcd : PySem.W.codeIn K cdv qual = true) (S : FnScope N ps sc)
    (len : ∀ vs H Q E, sp vs H Q E → vs.length = ps.length)
    (hb : ∀ (A : Around) (outer : List Env) (s : Shared) (H : Hp) (vs : List V) (Q : VK) (E : XK),
      RoomG k (A.deeper (envOfC qual sc s.heap.objs.size f cdv)) → sp vs H Q E →
      ∃ t, PSs (cxOf (L2.CX P w) P w K mg base N qual sc f cdv A outer s H E) body t ∧
        t { nx := fun _ H' => Q .non H', rt := Q } (start N vs) H) :
    FnG P w K mg base (k + 1) f
      (PySem.W.fnOf name qual params body sc dV kV doc pm an cdv ct) ps sp := by
  refine ⟨len, ?_⟩
  intro A outer s H args us vs Q E z e0 bd rv hsp
  have n0 := len _ _ _ _ hsp
  have kin : K.In s.heap :=
    e0.mod.kin.keeps (fun b o e => (e0.bs b o e).1)
  have lim : s.heap.NoLimit :=
    e0.mod.nolimit.keeps (fun b o e => (e0.bs b o e).1)
  have kinds : ∀ y ∈ ps.zip us, sc.names.lookup y.1 = some .local ∨
      (sc.names.lookup y.1 = some .cell ∧
        ((cellsFrom (s.heap.objs.size + 1) sc.names []).lookup y.1).isSome = true) := by
    intro y hy
    obtain ⟨m, v⟩ := y
    cases S.par m (List.of_mem_zip hy).1 with
    | inl q => exact Or.inl q
    | inr q => exact Or.inr ⟨q, PySem.W.cellsFrom_some _ _ _ (Or.inl q)⟩
  refine codeAny_call_function z.r.depth (kin _ _ lk) rfl S.co S.gen rfl
    (PySem.W.codeRec_of kin hcd) (bd _ _ _ _ ?_)
  refine wpAny_newFunctionEnv_cells S.kind kinds ?_
  intro env he s1 x
  subst he
  refine ⟨lim.keeps x.toInCall.keep, ?_⟩
  refine codeAny_func ?_
  obtain ⟨t, ht, hq⟩ := hb A outer s H vs Q E (z.deeper _) hsp
  have I := inv_start (CX := L2.CX P w) (K := K) (mg := mg) (base := base) (E := E)
    S z.r.hd e0 n0 rv x
  refine wpAny_mono (ht.run [] s1 (start N vs) H _ I hq) ?_ (fun e s' hs => hs)
  intro fl s' hs
  have fin : ∀ {τ : L2.St} {G : Hp} {v : V} {u : Value},
      Inv (cxOf (L2.CX P w) P w K mg base N qual sc f cdv A outer s H E) [] τ G s' →
      RelV v u → Q v G → CE outer P w H s Q u s' := by
    intro τ G v u J r q
    exact ⟨v, G, J.os, J.bare, J.base, J.hok, r, q⟩
  match fl, hs with
  | .ret u, ⟨v, τ, G, J, r, q⟩ => exact fin J r q
  | .next, ⟨τ, G, J, q⟩ => exact fin (v := .non) (u := Value.none) J rfl q
  | .brk, ⟨_, _, _, q⟩ => exact False.elim q
  | .cont, ⟨_, _, _, q⟩ => exact False.elim q
end
end G
namespace G
open PySem PySem.Spec PyProof.Rows L2
section
variable {X : Cx} {k n : Nat} {f C : Addr} {fd : FuncData} {ps ks : List Str} {sp : Sp}
variable {dvs : List V} {ds : List Value} {E : XK} {x m : Str} {p pos apos : Pos} {e o : Expr}
variable {es : List Expr} {ta : TE} {t tk : TA} {pins : List (Addr × Obj)} {σ : L2.St} {H : Hp}
variable {s s' : Shared} {Q : VK}
abbrev Fg (X : Cx) (k : Nat) (f : Addr) (fd : FuncData) (ps : List Str) (sp : Sp) : Prop :=
  FnG X.prog X.w X.K X.mg X.base k f fd ps sp
abbrev Ps (X : Cx) (E : XK) : Prop := Passes (L2.CX X.prog X.w) X E

def Got (X : Cx) (R : Value → Shared → Prop) : Result → Shared → Prop
  | .ok (.ret u), s' => R u s'
  | .ok _, _ => False
  | .error e, s' => X.xe e s'
theorem ended (I : Inv X pins σ H s) (hx : Ps X E) {R : Value → Shared → Prop}
    (hR : ∀ u s', CE X.stack X.prog X.w H s Q u s' → R u s') {r : Result}
    (q : CR (L2.CX X.prog X.w) X.stack X.prog X.w H s Q E r s') : Got X R r s' := by
  match r, q with
  | .error e, q => exact hx pins σ H s e s' I q
  | .ok (.ret u), q => exact hR u s' q
  | .ok .next, q => exact False.elim q
  | .ok .brk, q => exact False.elim q
  | .ok .cont, q => exact False.elim q

theorem runG {args : Args} {us : List Value} {vs : List V} (F : Fg X k f fd ps sp)
    (z : RoomG k X.A) (hb : BindsTo s fd args (ps.zip us)) (hx : Ps X E) (I : Inv X pins σ H s)
    (rv : Vals vs us) (h : sp vs H Q E) :
    codeAny (model X.prog X.w) X.A (.call (.ref f) args) (Got X (EP X pins σ Q)) s := by
  refine codeAny_mono (F.run X.A X.stack s H args us vs Q E z I.env0 hb rv h) ?_
  intro r s' q
  exact ended I hx (fun u s' c => I.after c) q

theorem run1 {us : List Value} {vs : List V} (F : Fg X k f fd ps sp) (z : RoomG k X.A)
    (hb : Binds X.K fd ps ds) (hd : Vals dvs ds) (hx : Ps X E) (I : Inv X pins σ H s)
    (rv : Vals vs us) (h : sp (vs ++ dvs) H Q E) :
    wpAny (model X.prog X.w) X.A (call (.ref f) us) (EP X pins σ Q) X.xe s := by
  have r2 : Vals (vs ++ dvs) (us ++ ds) := rv.append hd
  have hl : (us ++ ds).length = ps.length := by
    rw [← r2.length]
    exact F.len _ _ _ _ h
  refine wpAny_call (codeAny_mono (runG F z (hb s us I.kIn hl) hx I r2 h) ?_)
  intro r s' q
  match r, q with
  | .error e, q => exact q
  | .ok (.ret u), q => exact q
  | .ok .next, q => exact q
  | .ok .brk, q => exact q
  | .ok .cont, q => exact q

theorem c1 (F : Fg X k f fd ps sp) (z : RoomG k X.A) (hg : Gl X x) (hm : X.mg x = some (.ref f))
    (hk : PySem.W.keepIn X.K (.ref f) = true) (hb : Binds X.K fd ps ds) (hd : Vals dvs ds)
    (hx : Ps X E) (ha : PA X (e :: es) t)
    (hdb : (x == ("__debug__" : Str)) = false := by decide)
    (he : starEach (e :: es) X.env = (false, eval e X.env) :: starEach es X.env := by rfl)
    (hpl : (backTo pos (starEach es X.env)).any (·.1) = false := by rfl) :
    PE X (.Call (.Name x p) (e :: es) [] pos) (tCall sp dvs E t) := by
  constructor
  intro pins s σ H Q I h
  refine wpAny_Call_Name_kw (ld_glob I hg hm ?_ hdb)
  refine PySem.W.callWith_K (h₀ := X.base) I.ok.mod.kin hk ?_ he hpl
  refine thn (ha.run pos pins s σ H _ I h) ?_
  intro us s1 y
  obtain ⟨vs, H1, I1, r, q⟩ := y
  exact ⟨I1.kIn, run1 F z hb hd hx I1 r q⟩

theorem c0 (F : Fg X k f fd ps sp) (z : RoomG k X.A) (hg : Gl X x) (hm : X.mg x = some (.ref f))
    (hk : PySem.W.keepIn X.K (.ref f) = true) (hb : Binds X.K fd ps ds) (hd : Vals dvs ds)
    (hx : Ps X E) (hdb : (x == ("__debug__" : Str)) = false := by decide) :
    PE X (.Call (.Name x p) [] [] pos) (tCall sp dvs E tNil) := by
  constructor
  intro pins s σ H Q I h
  refine wpAny_Call_Name_kw (ld_glob I hg hm ?_ hdb)
  exact PySem.W.callWith_K0 I.kIn hk (run1 (us := []) F z hb hd hx I .nil h)

/-- o.m(..) -/
theorem cm {pl : Sem Bool} (he : PE X o ta) (c : Cls X.K C) (hm : Meth X.K C m f)
    (F : Fg X k f fd ps sp) (z : RoomG k X.A) (hb : Binds X.K fd ps ds) (hd : Vals dvs ds)
    (hx : Ps X E) (ha : PA X (e :: es) t)
    (hst : starEach (e :: es) X.env = (false, eval e X.env) :: starEach es X.env := by rfl)
    (hpl : (backTo pos (starEach es X.env)).any (·.1) = false := by rfl)
    (ht : eval (.Call (.Attribute o m apos) (e :: es) [] pos) X.env = (do
      let y ← eval o X.env
      standAt apos.atName
      let (g, a) ← holding [y] (getMethod y m pl)
      callWith pos g a (backTo pos (starEach (e :: es) X.env))
        (backToKw pos (keywordEach [] X.env))) := by rfl) :
    PE X (.Call (.Attribute o m apos) (e :: es) [] pos) (tMeth C m sp dvs E ta t) := by
  constructor
  intro pins s σ H Q I h
  refine PySem.W.methodCall_KW (pl := pl) (thn (he.run pins s σ H _ I h) ?_) ht
  intro u s1 y
  obtain ⟨v, H1, I1, rx, a, dx, fs, ex, ea, l, q⟩ := y
  subst ex
  obtain rfl : u = Value.ref a := rx
  refine getmeth_ok I1 ea c hm l ?_
  refine PySem.W.callWith_K (first := [.ref a]) (h₀ := X.base) I.ok.mod.kin hm.kp ?_ hst hpl
  refine thn (ha.run pos pins s1 σ H1 _ I1 q) ?_
  intro us s2 y
  obtain ⟨vs, H2, I2, r, q2⟩ := y
  exact ⟨I2.kIn, run1 (us := .ref a :: us) (vs := .ref a :: vs) F z hb hd hx I2 (.cons rfl r) q2⟩
/-- o.m() -/
theorem cm0 {pl : Sem Bool} (he : PE X o ta) (c : Cls X.K C) (hm : Meth X.K C m f)
    (F : Fg X k f fd ps sp) (z : RoomG k X.A) (hb : Binds X.K fd ps ds) (hd : Vals dvs ds)
    (hx : Ps X E)
    (ht : eval (.Call (.Attribute o m apos) [] [] pos) X.env = (do
      let y ← eval o X.env
      standAt apos.atName
      let (g, a) ← holding [y] (getMethod y m pl)
      callWith pos g a (backTo pos (starEach [] X.env))
        (backToKw pos (keywordEach [] X.env))) := by rfl) :
    PE X (.Call (.Attribute o m apos) [] [] pos) (tMeth C m sp dvs E ta tNil) := by
  constructor
  intro pins s σ H Q I h
  refine PySem.W.methodCall_KW (pl := pl) (thn (he.run pins s σ H _ I h) ?_) ht
  intro u s1 y
  obtain ⟨v, H1, I1, rx, a, dx, fs, ex, ea, l, q⟩ := y
  subst ex
  obtain rfl : u = Value.ref a := rx
  refine getmeth_ok I1 ea c hm l ?_
  refine PySem.W.callWith_K0 (first := [.ref a]) I1.kIn hm.kp ?_
  exact run1 (us := [.ref a]) (vs := [.ref a]) F z hb hd hx I1 (.cons rfl .nil) q
end
end G
namespace G
open PySem PySem.Spec PyProof.Rows L2

/-- the heap at the law's entry: the script alone is tracked, or nothing -/
theorem lawG {P : Program} {w : World} {K : PySem.W.Frag} {mg mb : Str → Option Value} {k : Nat}
    {fa a : Addr} {fd : FuncData} {x : Str} {sp : Sp} {s0 : Shared} {vs : List Value}
    {ns : List Int} (kin : K.In s0.heap) (hns : s0.heap.Ns mainGlobals mg)
    (hb : s0.heap.Ns builtinsNs mb) (hbb : ∀ y : Str, y ≠ "__name__" → mb y = bootBuiltins y)
    (lim : s0.heap.NoLimit) (hg : s0.gens = #[])
    (ha : s0.heap.get? a = some { cls := .type "list", data := .seq vs.toArray })
    (hi : IntsAre vs ns) (hl : ns.length ≤ sizeLine) (z : RoomG k callerA)
    (F : ∀ base : Heap, K.In base → base.Ns mainGlobals mg → FnG P w K mg base k fa fd [x] sp)
    (bd : ∀ (s : Shared) (u : Value), BindsTo s fd ⟨[u], []⟩ [(x, u)])
    (hsp : ∀ H : Hp, Only H → SqL K H a (ns.map V.int) →
      sp [.ref a] H (fun v _ => v = .bl true) fun _ _ _ => False) :
    codeAny (model P w) callerA (.call (.ref fa) ⟨[.ref a], []⟩)
      (fun r s' => r = .ok (.ret (.bool true)) ∧ OldK s0.heap s'.heap ∧ s'.os = s0.os ∧
        AllBare s'.gens) s0 := by
  have rv := vals_ints hi
  have lv := hi.length
  have core : ∀ H : Hp, Only H → SqL K H a (ns.map V.int) → HOk P w H s0.heap →
      (∀ b, H b ≠ none → b = a) → (H a ≠ none → K.lookup a = none) →
      codeAny (model P w) callerA (.call (.ref fa) ⟨[.ref a], []⟩)
        (fun r s' => r = .ok (.ret (.bool true)) ∧ OldK s0.heap s'.heap ∧ s'.os = s0.os ∧
          AllBare s'.gens) s0 := by
    intro H only sq hok only_a notK
    have at_a : ∀ {b : Addr}, H b ≠ none → b = a := fun {b} q => only_a b q
    have seqs : ∀ {b : Addr} {o : Obj} {es : Array DictEntry} {ep : Nat},
        s0.heap.get? b = some o → o.data = .dict es ep → H b = none := by
      intro b o es ep e d
      cases q : H b with
      | none => rfl
      | some u =>
        obtain rfl := at_a (b := b) (by rw [q]; exact fun y => nomatch y)
        rw [ha] at e
        cases e
        have d' : Data.seq vs.toArray _ = Data.dict es ep := d
        cases d'
    have nsb : ∀ {b : Addr} {g : Str → Option Value}, s0.heap.Ns b g →
        (hidT s0.heap H).Ns b g := by
      intro b g y
      obtain ⟨o, es, ep, e, d, r⟩ := y
      exact ⟨o, es, ep, hidT_get e (seqs e d), d, r⟩
    have kb : K.In (hidT s0.heap H) := by
      intro b o e
      refine hidT_get (kin b o e) ?_
      cases q : H b with
      | none => rfl
      | some u =>
        obtain rfl := at_a (b := b) (by rw [q]; exact fun y => nomatch y)
        rw [notK (by rw [q]; exact fun y => nomatch y)] at e
        cases e
    have md : Mod K mg (hidT s0.heap H) := by
      obtain ⟨mc, l1, l2⟩ := lim
      exact ⟨kb, nsb hns, ⟨mb, nsb hb, hbb⟩, ⟨mc, nsb l1, l2⟩⟩
    have e0 : Env0 P w K mg (hidT s0.heap H) callerA [] s0 H :=
      ⟨rfl, md, fun b o e => of_hidT e, Nat.le_of_eq (hidT_size _ _), trivial,
        fun b q => absurd (show b ∈ ([] : List Addr) from q) List.not_mem_nil, hok, .of_eq hg⟩
    have run := (F _ kb (nsb hns)).run callerA [] s0 H ⟨[.ref a], []⟩ [.ref a] [.ref a] _ _
      z e0 (bd s0 (.ref a)) (.cons rfl .nil) (hsp H only sq)
    refine codeAny_mono run ?_
    intro r s' h
    match r, h with
    | .error e, h =>
      obtain ⟨_, _, _, _, _, _, _, _, _, _, _, _, y⟩ := h
      exact y.elim
    | .ok .next, h => exact False.elim h
    | .ok .brk, h => exact False.elim h
    | .ok .cont, h => exact False.elim h
    | .ok (.ret u), h =>
      obtain ⟨v, H', os, bare, un, hok', r', q⟩ := h
      have q' : v = .bl true := q
      subst q'
      obtain rfl : u = Value.bool true := r'
      refine ⟨rfl, OldK.of_keep ?_, os, bare⟩
      intro b o e
      cases q : H b with
      | none =>
        exact un.keep b o e q (fun y => absurd (show b ∈ ([] : List Addr) from y) List.not_mem_nil)
          List.not_mem_nil
      | some u =>
        rcases only b with y | ⟨ob, xs, y⟩
        · rw [q] at y
          cases y
        · obtain ⟨e1, _⟩ := hok b _ y
          obtain ⟨e2, _⟩ := hok' b _ (un.frzs b ob _ y)
          rw [e] at e1
          cases e1
          exact e2
  cases hk : K.lookup a with
  | some o =>
    have e := kin a o hk
    rw [ha] at e
    cases e
    refine core (fun _ => none) (fun _ => Or.inl rfl) (Or.inr ?_) ?_ (fun b y => absurd rfl y)
      (fun y => absurd rfl y)
    · refine ⟨_, vs.toArray, _, hk, rfl, rfl, rfl, ?_, ?_⟩
      · rw [List.size_toArray, lv]
        exact hl
      · simpa using rv
    · intro b u y
      have y' : (none : Option HO) = some u := y
      cases y'
  | none =>
    refine core (fun b => if b = a then
      some (.frz { cls := .type "list", data := .seq vs.toArray } (.lst (ns.map V.int)))
      else none) ?_ (Or.inl (Or.inr ⟨_, if_pos rfl⟩)) ?_ ?_ (fun _ => hk)
    · intro b
      by_cases q : b = a
      · exact Or.inr ⟨_, _, if_pos q⟩
      · exact Or.inl (if_neg q)
    · intro b u y
      by_cases q : b = a
      · have y' := (if_pos q).symm.trans y
        cases y'
        subst q
        refine ⟨ha, ?_, vs, _, rv, ha⟩
        rw [List.length_map]
        exact hl
      · have y' := (if_neg q).symm.trans y
        cases y'
    · intro b y
      by_cases q : b = a
      · exact q
      · exact absurd (if_neg q) y

/-- the end of a law row, the script's bits told -/
theorem walkG {l : PySem.W.OpenLaw} {n k : Nat} {q : Program} {loose : List Str}
    {XP : (Str → Option Value) → Heap → Prop} {YP : World → Heap → Prop} {d : DefRec}
    {K : Params → PySem.W.Frag} {sp : PySem.W.Frag → Sp} {x : Str} (hn : l.most = some n)
    (hn2 : n ≤ sizeLine) (hdf : d.params.defaults = []) (hr : Room k callerA)
    (hY : ∀ (w : World) (h : Heap), YP w h → (K w.params).In h)
    (F : ∀ (w : World) (mg : Str → Option Value) (fa : Addr) (h : Heap), (K w.params).In h →
      h.Ns mainGlobals mg → mg d.name = some (.ref fa) →
      ∃ fd : FuncData, (∀ (s : Shared) (u : Value), BindsTo s fd ⟨[u], []⟩ [(x, u)]) ∧
        ∀ base : Heap, (K w.params).In base → base.Ns mainGlobals mg →
          FnG l.prog w (K w.params) mg base k fa fd [x] (sp (K w.params)))
    (hsp : ∀ (K : PySem.W.Frag) (H : Hp) (a : Addr) (ns : List Int), ns.length ≤ n →
      (∀ z ∈ ns, Builtin.Int.intBits z ≤ 1048576) → Only H → SqL K H a (ns.map V.int) →
      sp K [.ref a] H (fun v _ => v = .bl true) fun _ _ _ => False) :
    PySem.W.WalkO q loose XP YP l.row.toRowW d [] (fun f vs => PySem.call f vs) := by
  refine Att.attach_callB hn hdf ?_
  intro w s0 s1 mg mb fa o pm cd doc a vs ns T Y ho hd hcd hmg hobj hints hlen hbits hg
  have kin := hY w _ Y
  obtain ⟨fd, hb, hF⟩ := F w mg fa _ kin T.T.g hmg
  exact lawG kin T.T.g T.T.b T.T.builtins T.T.nolimit hg hobj hints (Nat.le_trans hlen hn2)
    ⟨hr, rfl⟩ hF hb (fun H hO hS => hsp _ H a ns hlen hbits hO hS)
end G
namespace G
open PySem PySem.Spec PyProof.Rows L2

/-! ### repr of data -/

mutual
def cw : PyData → Nat
  | .none => 4
  | .bool _ => 5
  | .int _ => 1930
  | .str x => 10 * x.length + 4
  | .list xs => cws xs + 2
  | .tuple xs => cws xs + 2
  | .dict _ => 0
def cws : List PyData → Nat
  | [] => 0
  | x :: xs => cw x + 2 + cws xs
end
mutual
/-- it may be shown: ints of few bits, texts of plain signs, no dict -/
def shw : PyData → Bool
  | .none => true
  | .bool _ => true
  | .int i => decide (i.natAbs.log2 < 1920)
  | .str x => x.cps.toList.all fun c => decide (c < 16 ^ 8)
  | .list xs => shws xs
  | .tuple xs => shws xs
  | .dict _ => false
def shws : List PyData → Bool
  | [] => true
  | x :: xs => shw x && shws xs
end
theorem list_text (ts : List Str) : (listText ts).length ≤ piled ts + 2 := by
  unfold listText
  rw [strLen_append]
  have e1 : (("[" : Str)).length = 1 := by decide +kernel
  have e2 : (("]" : Str)).length = 1 := by decide +kernel
  cases ts with
  | nil =>
    show (("[" : Str)).length + (("]" : Str)).length ≤ _
    omega
  | cons t r =>
    have q := textFrom_length_pos r 1 (("[" : Str) ++ (if 0 > 0 then ", " else "" : String) ++ t) (by decide)
    have e3 : ((if 0 > 0 then ", " else "" : String) : Str).length = 0 := by decide +kernel
    have q2 : (textFrom 0 "[" (t :: r)).length = (("[" : Str) ++ (if 0 > 0 then ", " else "" : String) ++ t).length + piled r := q
    rw [q2, strLen_append, strLen_append, piled_cons]
    omega
mutual
theorem shown_len : ∀ d : PyData, shw d = true → d.shown.length ≤ cw d
  | .none, _ => by simp only [PyData.shown, cw]; decide +kernel
  | .bool b, _ => by cases b <;> (simp only [PyData.shown, cw]; decide +kernel)
  | .int i, h => by
    simp only [shw, decide_eq_true_eq] at h
    simp only [PyData.shown, cw]
    have q := int_text_length_le (a := i) (k := 1920) (by decide) h
    rw [PySem.ofString_length]
    omega
  | .str x, h => by
    simp only [shw, List.all_eq_true, decide_eq_true_eq] at h
    simp only [PyData.shown, cw]
    have q := StrLaws.reprText_len x h
    omega
  | .list xs, h => by
    simp only [shw] at h
    simp only [PyData.shown, cw]
    exact Nat.le_trans (list_text _) (Nat.add_le_add_right (shown_lens xs h) 2)
  | .tuple xs, h => by
    simp only [shw] at h
    simp only [PyData.shown, cw]
    exact Nat.le_trans (fmt_text _) (Nat.add_le_add_right (shown_lens xs h) 2)
  | .dict _, h => by simp only [shw] at h; cases h
theorem shown_lens : ∀ ds : List PyData, shws ds = true → piled (PyData.shownAll ds) ≤ cws ds
  | [], _ => Nat.zero_le _
  | d :: ds, h => by
    simp only [shws, Bool.and_eq_true] at h
    simp only [PyData.shownAll, cws, piled_cons]
    have q1 := shown_len d h.1
    have q2 := shown_lens ds h.2
    omega
end
mutual
theorem shw_showable : ∀ d : PyData, shw d = true → d.showable = true ∧ d.hasDict = false
  | .none, _ => ⟨rfl, rfl⟩
  | .bool _, _ => ⟨rfl, rfl⟩
  | .int i, h => ⟨by simpa only [shw, PyData.showable] using h, rfl⟩
  | .str x, _ => ⟨rfl, rfl⟩
  | .list xs, h => by
    simp only [shw] at h
    simpa only [PyData.showable, PyData.hasDict] using shws_showable xs h
  | .tuple xs, h => by
    simp only [shw] at h
    simpa only [PyData.showable, PyData.hasDict] using shws_showable xs h
  | .dict _, h => by simp only [shw] at h; cases h
theorem shws_showable : ∀ ds : List PyData, shws ds = true →
    PyData.showableAll ds = true ∧ PyData.hasDictAll ds = false
  | [], _ => ⟨rfl, rfl⟩
  | d :: ds, h => by
    simp only [shws, Bool.and_eq_true] at h
    obtain ⟨a, b⟩ := shw_showable d h.1
    obtain ⟨e, f⟩ := shws_showable ds h.2
    simp only [PyData.showableAll, PyData.hasDictAll, a, b, e, f]
    exact ⟨rfl, rfl⟩
end
/-- repr(x), x data -/
def rRepr (K : PySem.W.Frag) : List V → Hp → VK → Prop := fun xs H Q =>
  ∃ x d, xs = [x] ∧ Dp K H x d ∧ shw d = true ∧ d.depth ≤ 60 ∧ cw d ≤ sizeLine ∧ Q (.str d.shown) H
theorem call_repr {X : Cx} (hg : X.A.guards = some []) (hu : X.A.units + 64 < cLine) :
    CallR X (.builtin "repr") (rRepr X.K) := by
  intro pins s σ H vs us Q I rv h
  obtain ⟨x, d, rfl, hd, hs, hdp, hz, q⟩ := h
  obtain ⟨hs1, hs2⟩ := shw_showable d hs
  have hz2 := Nat.le_trans (shown_len d hs) hz
  cases rv with
  | cons r rn =>
    cases rn
    obtain ⟨as, hr⟩ := Dp.reads I d _ _ hd r
    cases hr with
    | none => exact PySem.P.repr_of_none ⟨.str _, H, I.tok _, ⟨_, rfl⟩, q⟩
    | bool b => exact PySem.P.repr_of_bool ⟨.str _, H, I.tok _, ⟨_, rfl⟩, q⟩
    | int i t =>
      refine PySem.P.repr_of_int ?_ ⟨.str _, H, I.tok _, ⟨_, rfl⟩, q⟩
      first | exact hs | simpa only [shw, decide_eq_true_eq] using hs
    | str y t => exact PySem.P.repr_of_str ⟨.str _, H, I.tok _, ⟨_, rfl⟩, q⟩ hz2
    | list h1 h2 h3 h4 =>
      refine repr_of_reads' (Reads.list h1 h2 h3 h4) hs1 (fun y => by rw [hs2] at y; cases y) hg
        (by omega) (fun _ _ e => e) (fun h' u tk hk => ?_) hz2
      exact ⟨.str _, H, I.kept hk, ⟨_, rfl⟩, q⟩
    | tuple h1 h2 h3 h4 =>
      refine repr_of_reads' (Reads.tuple h1 h2 h3 h4) hs1 (fun y => by rw [hs2] at y; cases y) hg
        (by omega) (fun _ _ e => e) (fun h' u tk hk => ?_) hz2
      exact ⟨.str _, H, I.kept hk, ⟨_, rfl⟩, q⟩
    | dict h1 h2 h3 h4 h5 => simp only [PyData.hasDict] at hs2; cases hs2
end G
namespace G
open PySem PySem.Spec PyProof.Rows L2

/-! ### heaps: what is kept -/
/-- x is not yet tracked -/
structure Fr (H : Hp) (x : Addr) : Prop where
  e : H x = none
theorem fr_ne {H : Hp} {a b : Addr} {o : HO} (h : H a = some o) (f : Fr H b) : a ≠ b := ne_of_none h f.e
/-- what nothing changes -/
def Fix : HO → Prop
  | .tup _ => True
  | .frz _ _ => True
  | _ => False
/-- all that H tracks is as it was, but perhaps what stands at ws -/
structure Kp (ws : List Addr) (H H' : Hp) : Prop where
  at_ : ∀ a u, H a = some u → a ∉ ws → H' a = some u
  fix : ∀ a u, H a = some u → Fix u → H' a = some u
  dom : ∀ a u, H a = some u → ∃ v, H' a = some v
section
variable {ws us : List Addr} {H H1 H2 : Hp} {p : Addr} {o u : HO}
theorem Kp.refl : Kp ws H H := ⟨fun _ _ h _ => h, fun _ _ h _ => h, fun _ u h => ⟨u, h⟩⟩
theorem Kp.trans (a : Kp ws H H1) (b : Kp ws H1 H2) : Kp ws H H2 :=
  ⟨fun c u h n => b.at_ c u (a.at_ c u h n) n, fun c u h f => b.fix c u (a.fix c u h f) f,
    fun c u h => let ⟨v, e⟩ := a.dom c u h; b.dom c v e⟩
theorem Kp.mono (a : Kp ws H H1) (h : ∀ b ∈ ws, b ∈ us) : Kp us H H1 :=
  ⟨fun c u e n => a.at_ c u e fun q => n (h c q), a.fix, a.dom⟩
theorem Kp.wide (a : Kp [] H H1) : Kp ws H H1 := a.mono fun b h => (nomatch h)
theorem Kp.free (a : Kp ws H H1) (f : Fr H1 p) : Fr H p := by
  have h := f.e
  constructor
  cases q : H p with
  | none => rfl
  | some u =>
    obtain ⟨v, e⟩ := a.dom p u q
    rw [h] at e
    cases e
theorem Kp.new (f : Fr H p) : Kp ws H (upd H p o) := by
  have h := f.e
  have k : ∀ a u, H a = some u → upd H p o a = some u := fun a u e => by
    rw [upd_ne (ne_of_none e h)]
    exact e
  exact ⟨fun a u e _ => k a u e, fun a u e _ => k a u e, fun a u e => ⟨u, k a u e⟩⟩
/-- what H does not know may be written -/
theorem Kp.upd (a : Kp ws H H1) (f : Fr H p) : Kp ws H (upd H1 p o) := by
  have h := f.e
  have k : ∀ b u, H b = some u → L2.upd H1 p o b = H1 b := fun b u e => upd_ne (ne_of_none e h)
  exact ⟨fun b u e n => (k b u e).trans (a.at_ b u e n), fun b u e f => (k b u e).trans (a.fix b u e f),
    fun b u e => let ⟨v, q⟩ := a.dom b u e; ⟨v, (k b u e).trans q⟩⟩
theorem Kp.mut (h : H p = some u) (nf : ¬ Fix u) (hp : p ∈ ws) : Kp ws H (L2.upd H p o) := by
  refine ⟨fun a v e n => ?_, fun a v e f => ?_, fun a v e => ?_⟩
  · rw [upd_ne (fun (q : a = p) => n (by rw [q]; exact hp))]
    exact e
  · have q : a ≠ p := by
      intro q
      subst q
      rw [h] at e
      cases e
      exact nf f
    rw [upd_ne q]
    exact e
  · by_cases q : a = p
    · exact ⟨o, by rw [q, upd_same]⟩
    · exact ⟨v, by rw [upd_ne q]; exact e⟩
theorem Kp.upm {ys : List V} (a : Kp ws H H1) (h : H1 p = some (.lst ys)) (hp : p ∈ ws) :
    Kp ws H (L2.upd H1 p o) := a.trans (Kp.mut h (fun z => z) hp)
/-- what H does not know need not be named -/
theorem Kp.drop (a : Kp (p :: ws) H H1) (f : Fr H p) : Kp ws H H1 :=
  have h := f.e
  ⟨fun b u e n => a.at_ b u e (fun q => (List.mem_cons.mp q).elim (fun z => by
    rw [z, h] at e
    cases e) n), a.fix, a.dom⟩
theorem Kp.dropAll (a : Kp us H H1) (h : ∀ b ∈ us, b ∈ ws ∨ Fr H b) : Kp ws H H1 :=
  ⟨fun b u e n => a.at_ b u e (fun q => (h b q).elim n (fun z => by
    rw [z.e] at e
    cases e)), a.fix, a.dom⟩
theorem Kp.seqL {K : PySem.W.Frag} {l : Addr} {xs : List V} (a : Kp ws H H1) (n : l ∉ ws)
    (h : SqL K H l xs) : SqL K H1 l xs := by
  rcases h with (h | ⟨o, h⟩) | h
  · exact .inl (.inl (a.at_ _ _ h n))
  · exact .inl (.inr ⟨o, a.fix _ _ h trivial⟩)
  · exact .inr h
theorem Kp.seqT {K : PySem.W.Frag} {l : Addr} {xs : List V} (a : Kp ws H H1)
    (h : SqT K H l xs) : SqT K H1 l xs := by
  rcases h with (h | ⟨o, h⟩) | h
  · exact .inl (.inl (a.fix _ _ h trivial))
  · exact .inl (.inr ⟨o, a.fix _ _ h trivial⟩)
  · exact .inr h
end
mutual
/-- data that nothing changes: no list, no dict -/
def imm : PyData → Bool
  | .none => true
  | .bool _ => true
  | .int _ => true
  | .str _ => true
  | .tuple xs => imms xs
  | .list _ => false
  | .dict _ => false
def imms : List PyData → Bool
  | [] => true
  | x :: xs => imm x && imms xs
end
section
variable {K : PySem.W.Frag} {ws : List Addr} {H H1 : Hp}
mutual
theorem dp_imm (k : Kp ws H H1) : ∀ (d : PyData) (v : V), imm d = true → Dp K H v d → Dp K H1 v d
  | .none, _, _, h => by cases h; exact .non
  | .bool b, _, _, h => by cases h; exact .bl b
  | .int i, _, _, h => by cases h; exact .int i
  | .str x, _, _, h => by cases h; exact .str x
  | .tuple ds, _, hi, h => by
    cases h with
    | tup hs ha => exact .tup (k.seqT hs) (dpa_imm k ds _ (by simpa only [G.imm] using hi) ha)
  | .list _, _, hi, _ => by simp only [G.imm] at hi; cases hi
  | .dict _, _, hi, _ => by simp only [G.imm] at hi; cases hi
theorem dpa_imm (k : Kp ws H H1) : ∀ (ds : List PyData) (vs : List V), imms ds = true →
    DpAll K H vs ds → DpAll K H1 vs ds
  | [], _, _, h => by cases h; exact .nil
  | d :: ds, _, hi, h => by
    simp only [imms, Bool.and_eq_true] at hi
    cases h with
    | cons h1 h2 => exact .cons (dp_imm k d _ hi.1 h1) (dpa_imm k ds _ hi.2 h2)
end
theorem dpa_len : ∀ {ds : List PyData} {vs : List V}, DpAll K H vs ds → vs.length = ds.length
  | [], _, h => by cases h; rfl
  | _ :: ds, _, h => by
    cases h with
    | cons _ h2 => rw [List.length_cons, List.length_cons, dpa_len h2]
theorem dpa_app : ∀ {ds es : List PyData} {vs ys : List V}, DpAll K H vs ds → DpAll K H ys es →
    DpAll K H (vs ++ ys) (ds ++ es)
  | [], _, _, _, h, g => by cases h; exact g
  | _ :: _, _, _, _, h, g => by
    cases h with
    | cons h1 h2 => exact .cons h1 (dpa_app h2 g)
theorem dpa_get : ∀ {ds : List PyData} {vs : List V} {i : Nat} {d : PyData}, DpAll K H vs ds →
    ds[i]? = some d → ∃ v, vs[i]? = some v ∧ Dp K H v d
  | [], _, _, _, _, e => by simp at e
  | _ :: _, _, 0, _, h, e => by
    cases h with
    | cons h1 h2 =>
      simp at e
      subst e
      exact ⟨_, rfl, h1⟩
  | _ :: _, _, i + 1, _, h, e => by
    cases h with
    | cons h1 h2 =>
      obtain ⟨v, q, r⟩ := dpa_get (i := i) h2 (by simpa using e)
      exact ⟨v, by simpa using q, r⟩
theorem dpa_getV : ∀ {ds : List PyData} {vs : List V} {i : Nat} {v : V}, DpAll K H vs ds →
    vs[i]? = some v → ∃ d, ds[i]? = some d ∧ Dp K H v d
  | [], _, _, _, h, e => by cases h; simp at e
  | _ :: _, _, 0, _, h, e => by
    cases h with
    | cons h1 h2 =>
      simp at e
      subst e
      exact ⟨_, rfl, h1⟩
  | _ :: _, _, i + 1, _, h, e => by
    cases h with
    | cons h1 h2 =>
      obtain ⟨d, q, r⟩ := dpa_getV (i := i) h2 (by simpa using e)
      exact ⟨d, by simpa using q, r⟩
theorem dpa_set : ∀ {ds : List PyData} {vs : List V} {i : Nat} {v : V} {d : PyData},
    DpAll K H vs ds → Dp K H v d → DpAll K H (vs.set i v) (ds.set i d)
  | [], _, _, _, _, h, _ => by cases h; exact .nil
  | _ :: _, _, 0, _, _, h, g => by
    cases h with
    | cons h1 h2 => exact .cons g h2
  | _ :: _, _, i + 1, _, _, h, g => by
    cases h with
    | cons h1 h2 => exact .cons h1 (dpa_set h2 g)
theorem dpa_take : ∀ {ds : List PyData} {vs : List V} (i : Nat),
    DpAll K H vs ds → DpAll K H (vs.take i) (ds.take i)
  | [], _, _, h => by cases h; simp; exact .nil
  | _ :: _, _, 0, h => by simp; exact .nil
  | _ :: _, _, i + 1, h => by
    cases h with
    | cons h1 h2 => exact .cons h1 (dpa_take i h2)
theorem dpa_drop : ∀ {ds : List PyData} {vs : List V} (i : Nat),
    DpAll K H vs ds → DpAll K H (vs.drop i) (ds.drop i)
  | [], _, _, h => by cases h; simp; exact .nil
  | _ :: _, _, 0, h => by simpa using h
  | _ :: _, _, i + 1, h => by
    cases h with
    | cons h1 h2 => exact dpa_drop i h2
theorem dpa_one {v : V} {d : PyData} (h : Dp K H v d) : DpAll K H [v] [d] := .cons h .nil
/-- a tuple of two ints -/
abbrev d2 (p : Int × Int) : PyData := .tuple [.int p.1, .int p.2]
theorem dp_pair {v : V} {p : Int × Int} (h : Dp K H v (d2 p)) :
    ∃ a, v = .ref a ∧ SqT K H a [.int p.1, .int p.2] := by
  cases h with
  | tup hs ha =>
    cases ha with
    | cons h1 h2 =>
      cases h2 with
      | cons h3 h4 =>
        cases h4
        cases h1
        cases h3
        exact ⟨_, rfl, hs⟩
theorem dp_mk2 {a : Addr} {m n : Int} (h : SqT K H a [.int m, .int n]) :
    Dp K H (.ref a) (d2 (m, n)) := .tup h (.cons (.int m) (.cons (.int n) .nil))
theorem imms_d2 : ∀ l : List (Int × Int), imms (l.map d2) = true
  | [] => rfl
  | _ :: l => by
    simp only [List.map_cons, imms, G.imm, imms_d2 l]
    rfl
/-- a list of our own, of data that nothing changes -/
def LD (K : PySem.W.Frag) (H : Hp) (l : Addr) (ds : List PyData) : Prop :=
  ∃ vs, H l = some (.lst vs) ∧ DpAll K H vs ds
theorem LD.dp {l : Addr} {ds : List PyData} (h : LD K H l ds) : Dp K H (.ref l) (.list ds) := by
  obtain ⟨vs, e, q⟩ := h
  exact .lst (SqL.of e) q
theorem LD.kp {l : Addr} {ds : List PyData} (h : LD K H l ds) (k : Kp ws H H1) (hi : imms ds = true)
    (n : l ∉ ws) : LD K H1 l ds := by
  obtain ⟨vs, e, q⟩ := h
  exact ⟨vs, k.at_ _ _ e n, dpa_imm k _ _ hi q⟩
theorem LD.some {l : Addr} {ds : List PyData} (h : LD K H l ds) : H l ≠ none := by
  obtain ⟨vs, e, q⟩ := h
  rw [e]
  exact fun y => nomatch y
end
end G
namespace G
open PySem PySem.Spec PyProof.Rows L2

/-! ### one rule for several kinds of values -/
theorem orR {X : Cx} {f : Value → Value → Sem Value} {r r' : R2} (h : OpR X f r) (h' : OpR X f r') :
    OpR X f (fun x y H Q => r x y H Q ∨ r' x y H Q) := by
  intro pins s σ H x y v u Q I rx ry q
  cases q with
  | inl q => exact h pins s σ H x y v u Q I rx ry q
  | inr q => exact h' pins s σ H x y v u Q I rx ry q
theorem orC {X : Cx} {f : Value} {r r' : List V → Hp → VK → Prop} (h : CallR X f r)
    (h' : CallR X f r') : CallR X f (fun xs H Q => r xs H Q ∨ r' xs H Q) := by
  intro pins s σ H xs us Q I rx q
  cases q with
  | inl q => exact h pins s σ H xs us Q I rx q
  | inr q => exact h' pins s σ H xs us Q I rx q
def uAdd (K : PySem.W.Frag) : R2 := fun x y H Q => rI0 (fun i j => .int (i + j)) x y H Q ∨
  (∃ i j, x = .str i ∧ y = .str j ∧ i.length + j.length ≤ sizeLine ∧ Q (.str (i ++ j)) H) ∨
  rCat x y H Q ∨ rCatT K x y H Q
def uMul : R2 := fun x y H Q => rI CMul (fun i j => .int (i * j)) x y H Q ∨
  rI CMulW (fun i j => .int (i * j)) x y H Q ∨ rRep x y H Q
def uEq (K : PySem.W.Frag) : R2 := fun x y H Q => rEq x y H Q ∨ rEqD K x y H Q
def uNe (K : PySem.W.Frag) : R2 := fun x y H Q => rNe x y H Q ∨ rNeD K x y H Q
def uIx (K : PySem.W.Frag) : R2 := fun x y H Q => rIxL K x y H Q ∨ rIxT K x y H Q ∨ rIxS x y H Q
def uLen (K : PySem.W.Frag) : List V → Hp → VK → Prop := fun xs H Q =>
  (∃ p ys, xs = [.ref p] ∧ (SqL K H p ys ∨ SqT K H p ys) ∧ Q (.int ys.length) H) ∨
  (∃ z, xs = [.str z] ∧ z.length ≤ sizeLine ∧ Q (.int z.length) H)
section
variable {X : Cx}
theorem o_add : OpR X (binaryOp .Add) (uAdd X.K) := orR op_add (orR op_add_str (orR op_cat op_catT))
theorem o_mul : OpR X (binaryOp .Mult) uMul := orR op_mul (orR op_mulW op_rep)
theorem o_eq (hu : X.A.units + 64 < cLine) : OpR X (compareOp .Eq) (uEq X.K) := orR op_eq (op_eqD hu)
theorem o_ne (hu : X.A.units + 64 < cLine) : OpR X (compareOp .NotEq) (uNe X.K) := orR op_ne (op_neD hu)
theorem o_ix : IxR X (uIx X.K) := ix_list.or (ix_tup.or ix_str)
theorem c_len : CallR X (.builtin "len") (uLen X.K) := orC call_len_seq call_len_str
end

/-! ### readings from the front -/
section
variable {K : PySem.W.Frag} {σ : L2.St} {H : Hp} {Q : VK} {D : Ends} {t1 t2 : TS} {te ta tb tc : TE}
variable {i j : Nat} {v x y : V} {c u : TT} {tr : TA} {n m : Int} {b : Bool} {p : Addr}
variable {QB : Bool → Hp → Prop} {QA : List V → Hp → Prop} {xs : List V}
theorem i_seq (h : t1 { D with nx := t2 D } σ H) : tSeq t1 t2 D σ H := h
theorem i_next (h : D.nx σ H) : tNext D σ H := h
theorem i_set (h : te σ H fun x H1 => D.nx (σ.set i (some x)) H1) : tAsg te (gName i) D σ H := h
theorem i_asg {g : TG} (h : te σ H fun x H1 => g x σ H1 D.nx) : tAsg te g D σ H := h
theorem i_drop (h : te σ H fun _ H1 => D.nx σ H1) : tDrop te D σ H := h
theorem i_ret (h : te σ H D.rt) : tRet te D σ H := h
theorem i_retN (h : D.rt .non H) : tRetN D σ H := h
theorem i_brk (h : D.bk σ H) : tBreak D σ H := h
theorem i_cont (h : D.ct σ H) : tCont D σ H := h
theorem i_ifS (h : c σ H fun b H1 => if b = true then t1 D σ H1 else t2 D σ H1) : tIfS c t1 t2 D σ H := h
theorem i_aug {ti : TIp} (e : σ[i]? = some (some x))
    (h : te σ H fun y H1 => ti x y H1 fun z H2 => D.nx (σ.set i (some z)) H2) : tAug i te ti D σ H := ⟨x, e, h⟩
theorem i_ipI {f : Int → Int → Int} (h : Q (.int (f n m)) H) : ipI f (.int n) (.int m) H Q := ⟨n, m, rfl, rfl, h⟩
theorem i_par {i j : Nat} {tt : TA}
    (h : tt σ H fun vs H1 => ∃ v w, vs = [v, w] ∧ D.nx ((σ.set i (some v)).set j (some w)) H1) :
    tPar i j tt D σ H := h
theorem i_two {P : V → V → Prop} (h : P x y) : ∃ v w, [x, y] = [v, w] ∧ P v w := ⟨x, y, rfl, h⟩

theorem i_var (e : σ[i]? = some (some v)) (h : Q v H) : tVar i σ H Q := ⟨v, e, h⟩
theorem i_c (h : Q v H) : tC v σ H Q := h
theorem i_op {r : R2} (h : ta σ H fun x H1 => tb σ H1 fun y H2 => r x y H2 Q) : tOp r ta tb σ H Q := h
theorem i_un {r : V → Hp → VK → Prop} (h : ta σ H fun x H1 => r x H1 Q) : tUn r ta σ H Q := h
theorem i_I0 {g : Int → Int → V} (h : Q (g n m) H) : rI0 g (.int n) (.int m) H Q := ⟨n, m, rfl, rfl, h⟩
theorem i_I {g : Int → Int → V} {C : Int → Int → Prop} (hc : C n m) (h : Q (g n m) H) :
    rI C g (.int n) (.int m) H Q := ⟨n, m, rfl, rfl, hc, h⟩
theorem i_U {g : Int → V} (h : Q (g n) H) : rU g (.int n) H Q := ⟨n, rfl, h⟩
theorem i_addI (h : Q (.int (n + m)) H) : uAdd K (.int n) (.int m) H Q := .inl ⟨n, m, rfl, rfl, h⟩
theorem i_addS {z w : Str} (hz : z.length + w.length ≤ sizeLine) (h : Q (.str (z ++ w)) H) :
    uAdd K (.str z) (.str w) H Q := .inr (.inl ⟨z, w, rfl, rfl, hz, h⟩)
theorem i_mulI (hc : CMul n m) (h : Q (.int (n * m)) H) : uMul (.int n) (.int m) H Q :=
  .inl ⟨n, m, rfl, rfl, hc, h⟩
theorem i_mulW (hc : CMulW n m) (h : Q (.int (n * m)) H) : uMul (.int n) (.int m) H Q :=
  .inr (.inl ⟨n, m, rfl, rfl, hc, h⟩)
theorem i_eqI (h : Q (.bl (decide (n = m))) H) : uEq K (.int n) (.int m) H Q := by
  refine .inl ⟨rfl, ?_⟩
  have e : decide (V.int n = V.int m) = decide (n = m) := by
    rw [Bool.eq_iff_iff]
    simp
  rw [e]
  exact h
theorem i_neI (h : Q (.bl (!decide (n = m))) H) : uNe K (.int n) (.int m) H Q := by
  refine .inl ⟨rfl, ?_⟩
  have e : decide (V.int n = V.int m) = decide (n = m) := by
    rw [Bool.eq_iff_iff]
    simp
  rw [e]
  exact h
theorem i_eqS {z w : Str} (h : Q (.bl (decide (z = w))) H) : uEq K (.str z) (.str w) H Q := by
  refine .inl ⟨rfl, ?_⟩
  have e : decide (V.str z = V.str w) = decide (z = w) := by
    rw [Bool.eq_iff_iff]
    simp
  rw [e]
  exact h
theorem i_neS {z w : Str} (h : Q (.bl (!decide (z = w))) H) : uNe K (.str z) (.str w) H Q := by
  refine .inl ⟨rfl, ?_⟩
  have e : decide (V.str z = V.str w) = decide (z = w) := by
    rw [Bool.eq_iff_iff]
    simp
  rw [e]
  exact h
theorem i_eqD {d e : PyData} (hd : Dp K H x d) (he : Dp K H y e) (sd : SeqAt.shaped d = true)
    (se : SeqAt.shaped e = true) (h : Q (.bl (PyData.eqv d e)) H) : uEq K x y H Q :=
  .inr ⟨d, e, hd, he, sd, se, h⟩
theorem i_neD {d e : PyData} (hd : Dp K H x d) (he : Dp K H y e) (sd : SeqAt.shaped d = true)
    (se : SeqAt.shaped e = true) (h : Q (.bl (!PyData.eqv d e)) H) : uNe K x y H Q :=
  .inr ⟨d, e, hd, he, sd, se, h⟩
theorem i_ixL (hs : SqL K H p xs) (ha : atI xs n = some v) (h : Q v H) :
    uIx K (.ref p) (.int n) H Q := .inl ⟨p, xs, n, v, rfl, rfl, hs, ha, h⟩
theorem i_ixT (hs : SqT K H p xs) (ha : atI xs n = some v) (h : Q v H) :
    uIx K (.ref p) (.int n) H Q := .inr (.inl ⟨p, xs, n, v, rfl, rfl, hs, ha, h⟩)
theorem i_lenL (hs : SqL K H p xs) (h : Q (.int xs.length) H) : uLen K [.ref p] H Q :=
  .inl ⟨p, xs, rfl, .inl hs, h⟩
theorem i_lenT (hs : SqT K H p xs) (h : Q (.int xs.length) H) : uLen K [.ref p] H Q :=
  .inl ⟨p, xs, rfl, .inr hs, h⟩
theorem i_lenS {z : Str} (hz : z.length ≤ sizeLine) (h : Q (.int z.length) H) : uLen K [.str z] H Q :=
  .inr ⟨z, rfl, hz, h⟩

theorem i_test (h : te σ H fun x H1 => ∃ k, x = .bl k ∧ QB k H1) : tTest te σ H QB := h
theorem i_B (h : te σ H fun x H1 => ∃ k, x = .bl k ∧ QB k H1) : tB te σ H QB := h
theorem i_bl {P : Bool → Prop} (h : P b) : ∃ k, V.bl b = .bl k ∧ P k := ⟨b, rfl, h⟩
theorem i_and (h : c σ H fun b H1 => if b = true then u σ H1 QB else QB false H1) : tAnd c u σ H QB := h
theorem i_or (h : c σ H fun b H1 => if b = true then QB true H1 else u σ H1 QB) : tOr c u σ H QB := h
theorem i_not (h : c σ H fun b H1 => QB (!b) H1) : tNot c σ H QB := h
theorem i_andV (h : ta σ H fun x H1 => ∃ k, x = .bl k ∧ if k = true then tb σ H1 Q else Q (.bl false) H1) :
    tAndV ta tb σ H Q := h
theorem i_orV (h : ta σ H fun x H1 => ∃ k, x = .bl k ∧ if k = true then Q (.bl true) H1 else tb σ H1 Q) :
    tOrV ta tb σ H Q := h
theorem i_notV (h : ta σ H fun x H1 => ∃ k, x = .bl k ∧ Q (.bl (!k)) H1) : tNotV ta σ H Q := h
theorem i_ifE (h : c σ H fun b H1 => if b = true then ta σ H1 Q else tb σ H1 Q) : tIf c ta tb σ H Q := h
theorem i_chain {r r' : R2} (h : ta σ H fun x H1 => tb σ H1 fun y H2 => r x y H2 fun z H3 =>
    ∃ k, z = .bl k ∧ if k = true then tc σ H3 fun w H4 => r' y w H4 Q else Q (.bl false) H3) :
    tChain r r' ta tb tc σ H Q := h
theorem i_nil (h : QA [] H) : tNil σ H QA := h
theorem i_cons (h : te σ H fun x H1 => tr σ H1 fun xs H2 => QA (x :: xs) H2) : tCons te tr σ H QA := h
/-- for any new place -/
def New (H : Hp) (P : Addr → Prop) : Prop := ∀ p, H p = none → P p
theorem i_new {P : Addr → Prop} (h : ∀ p, Fr H p → P p) : New H P := fun p e => h p ⟨e⟩
theorem i_tup (h : tr σ H fun xs H1 => xs.length ≤ sizeLine ∧ New H1 fun p => Q (.ref p) (upd H1 p (.tup xs))) :
    tTup tr σ H Q := h
theorem i_lst (h : tr σ H fun xs H1 => xs.length ≤ sizeLine ∧ New H1 fun p => Q (.ref p) (upd H1 p (.lst xs))) :
    tLst tr σ H Q := h
theorem i_few {P : Prop} {n : Nat} (hn : n ≤ 1000) (h : P) : n ≤ sizeLine ∧ P :=
  ⟨Nat.le_trans hn (by decide), h⟩
theorem i_CB {r : List V → Hp → VK → Prop} (h : tr σ H fun vs H1 => r vs H1 Q) : tCB r tr σ H Q := h
theorem i_call {sp : Sp} {dvs : List V} {E : XK} (h : tr σ H fun vs H1 => sp (vs ++ dvs) H1 Q E) :
    tCall sp dvs E tr σ H Q := h
theorem i_BM {T : String} {r : V → List V → Hp → VK → Prop}
    (h : te σ H fun x H1 => tyV K T x H1 ∧ tr σ H1 fun xs H2 => r x xs H2 Q) : tBM K T r te tr σ H Q := h
theorem i_BM0 {T : String} {r : V → List V → Hp → VK → Prop}
    (h : te σ H fun x H1 => tyV K T x H1 ∧ r x [] H1 Q) : tBM0 K T r te σ H Q := h
theorem i_tyL {P : Prop} (hs : SqL K H p xs) (h : P) : tyV K "list" (.ref p) H ∧ P :=
  ⟨.inl ⟨rfl, xs, hs⟩, h⟩
theorem i_app (hs : H p = some (.lst xs)) (hz : xs.length < sizeLine)
    (h : Q .non (upd H p (.lst (xs ++ [y])))) : rAppend (.ref p) [y] H Q := ⟨p, xs, y, rfl, rfl, hs, hz, h⟩
theorem i_repr {d : PyData} (hd : Dp K H x d) (hs : shw d = true) (hdp : d.depth ≤ 60)
    (hz : cw d ≤ sizeLine) (h : Q (.str d.shown) H) : rRepr K [x] H Q := ⟨x, d, rfl, hd, hs, hdp, hz, h⟩
theorem i_setL {S : Hp → Prop} {k : Nat} (hs : H p = some (.lst xs)) (hj : ixN xs.length n = some k)
    (h : S (upd H p (.lst (xs.set k v)))) : rSetL (.ref p) (.int n) v H S := ⟨p, xs, n, k, rfl, rfl, hs, hj, h⟩
theorem i_iList {R : It → Hp → Prop} (h : te σ H fun x H1 => ∃ a, x = .ref a ∧ (∃ xs, SqL K H1 a xs) ∧ R (Itl K a) H1) :
    iList K te σ H R := h
theorem i_For {wi : TI} {g : TG} (h : wi σ H fun J H1 => ∃ W : Nat → Nat → L2.St → Hp → Prop, (∃ m, W 0 m σ H1) ∧ ∀ i m σ H, W i m σ H →
    (J.stop i H ∧ D.nx σ H) ∨ (J.go i H ∧ ∃ Nx : L2.St → Hp → Prop, (∀ σ' H', Nx σ' H' → ∃ m', m' < m ∧ W (i + 1) m' σ' H') ∧
      ∀ x H', J.yld i H x H' → g x σ H' fun σ2 H2 => t1 { D with nx := Nx, ct := Nx, bk := D.nx } σ2 H2)) :
    tFor wi g t1 D σ H := h
theorem i_iteT {A B : Prop} (h : A) : if true = true then A else B := iteT h
theorem i_iteF {A B : Prop} (h : B) : if false = true then A else B := iteF h
theorem i_ntT {A B : Prop} (h : B) : if (!true) = true then A else B := iteF h
theorem i_ntF {A B : Prop} (h : A) : if (!false) = true then A else B := iteT h
theorem i_dec {p A B : Prop} [Decidable p] (h1 : p → A) (h2 : ¬ p → B) :
    if decide p = true then A else B := by
  by_cases h : p
  · rw [decide_eq_true h]
    exact iteT (h1 h)
  · rw [decide_eq_false h]
    exact iteF (h2 h)
theorem i_decN {p A B : Prop} [Decidable p] (h1 : ¬ p → A) (h2 : p → B) :
    if (!decide p) = true then A else B := by
  by_cases h : p
  · rw [decide_eq_true h]
    exact iteF (h2 h)
  · rw [decide_eq_false h]
    exact iteT (h1 h)
theorem i_boo {b : Bool} {A B : Prop} (h1 : b = true → A) (h2 : b = false → B) :
    if b = true then A else B := by
  cases b
  · exact iteF (h2 rfl)
  · exact iteT (h1 rfl)
end
section
variable {P : Program} {w : World} {K : PySem.W.Frag} {mg : Str → Option Value} {base : Heap}
/-- a def of the text, by its body -/
theorem okG {x qual : Str} {st : Stmt} {f : Addr} {fd : FuncData} {N ps : List Str} {k : Nat} {sp : Sp}
    (F : L2.Fun K x qual st f fd) (S : FnScope N ps (defScope st))
    (len : ∀ vs H Q E, sp vs H Q E → vs.length = ps.length)
    (hb : ∀ (cdv : Value) (A : Around) (outer : List Env) (s : Shared) (H : Hp) (vs : List V)
      (Q : VK) (E : XK), RoomG k (A.deeper (envOfC qual (defScope st) s.heap.objs.size f cdv)) →
      sp vs H Q E →
      ∃ t, PSs (cxOf (L2.CX P w) P w K mg base N qual (defScope st) f cdv A outer s H E) (defBody st) t ∧
        t { nx := fun _ H' => Q .non H', rt := Q } (start N vs) H) :
    FnG P w K mg base (k + 1) f fd ps sp := by
  obtain ⟨oc, od, kV, doc, pm, an, cdv, ct, osl, rfl, lk, hcd⟩ := F.ex
  exact FnG.body lk hcd S len fun A outer s H vs Q E z h => hb cdv A outer s H vs Q E z h
end
end G
namespace G
open PySem PySem.Spec PyProof.Rows L2
section
variable {K : PySem.W.Frag} {σ : L2.St} {H : Hp} {Q : VK} {D : Ends} {tb : TS} {te : TE} {g : TG}
variable {a p q l : Addr} {xs vs : List V} {v x y : V} {ds : List PyData} {S : L2.St → Hp → Prop}
theorem st_1 {N : List Str} {a : V} : L2.start N [a] = some a :: List.replicate (N.length - 1) none := rfl
theorem st_2 {N : List Str} {a b : V} : L2.start N [a, b] = some a :: some b :: List.replicate (N.length - 2) none := rfl
theorem st_3 {N : List Str} {a b c : V} :
    L2.start N [a, b, c] = some a :: some b :: some c :: List.replicate (N.length - 3) none := rfl
theorem st_4 {N : List Str} {a b c d : V} : L2.start N [a, b, c, d] =
    some a :: some b :: some c :: some d :: List.replicate (N.length - 4) none := rfl
theorem st_5 {N : List Str} {a b c d e : V} : L2.start N [a, b, c, d, e] =
    some a :: some b :: some c :: some d :: some e :: List.replicate (N.length - 5) none := rfl
theorem st_6 {N : List Str} {a b c d e f : V} : L2.start N [a, b, c, d, e, f] =
    some a :: some b :: some c :: some d :: some e :: some f :: List.replicate (N.length - 6) none := rfl
theorem i_gTup {n : Nat} {t : TGs} (hs : SqT K H p xs) (hl : xs.length = n) (h : t xs σ H S) :
    gTup K n t (.ref p) σ H S := ⟨p, xs, rfl, hs, hl, h⟩
theorem i_gCons {t : TG} {u : TGs} (h : t v σ H fun σ' H' => u xs σ' H' S) :
    gCons t u (v :: xs) σ H S := ⟨v, xs, rfl, h⟩
theorem i_gNil (h : S σ H) : gNil [] σ H S := ⟨rfl, h⟩
theorem i_gName {i : Nat} (h : S (σ.set i (some v)) H) : gName i v σ H S := h
theorem i_gSub {to ti : TE} {t : TSet} (h : to σ H fun o H1 => ti σ H1 fun i H2 => t o i v H2 fun H3 => S σ H3) :
    gSub to ti t v σ H S := h
/-- a for over x, a list -/
def ForL (K : PySem.W.Frag) (x : V) (g : TG) (tb : TS) (D : Ends) (σ : L2.St) (H : Hp) : Prop :=
  ∃ a, x = .ref a ∧ (∃ ys, SqL K H a ys) ∧ ∃ W : Nat → Nat → L2.St → Hp → Prop,
    (∃ m, W 0 m σ H) ∧ ∀ i m σ H, W i m σ H → ((Itl K a).stop i H ∧ D.nx σ H) ∨
      ((Itl K a).go i H ∧ ∃ Nx : L2.St → Hp → Prop,
        (∀ σ' H', Nx σ' H' → ∃ m', m' < m ∧ W (i + 1) m' σ' H') ∧
        ∀ x H', (Itl K a).yld i H x H' → g x σ H' fun σ2 H2 =>
          tb { D with nx := Nx, ct := Nx, bk := D.nx } σ2 H2)
theorem i_forL (h : te σ H fun x H1 => ForL K x g tb D σ H1) : tFor (iList K te) g tb D σ H := h
theorem i_each (hs : SqL K H a xs) (Pv : Nat → L2.St → Hp → Prop) (h0 : Pv 0 σ H)
    (hl : ∀ i σ H, i ≤ xs.length → Pv i σ H → SqL K H a xs)
    (st : ∀ i x σ H, xs[i]? = some x → Pv i σ H → g x σ H fun σ2 H2 =>
      tb { D with nx := Pv (i + 1), ct := Pv (i + 1), bk := D.nx } σ2 H2)
    (hd : ∀ σ H, Pv xs.length σ H → D.nx σ H) : ForL K (.ref a) g tb D σ H :=
  ⟨a, rfl, ⟨_, hs⟩, for_list Pv h0 hl st hd⟩
/-- a for over range(n) -/
def ForR (vs : List V) (g : TG) (tb : TS) (D : Ends) (σ : L2.St) (H : Hp) : Prop :=
  ∃ j : Int, vs = [.int j] ∧ -(2 ^ 62) ≤ j ∧ j < 2 ^ 62 ∧
    ∃ W : Nat → Nat → L2.St → Hp → Prop, (∃ m, W 0 m σ H) ∧ ∀ i m σ H, W i m σ H →
      ((Itr 0 j.toNat).stop i H ∧ D.nx σ H) ∨ ((Itr 0 j.toNat).go i H ∧ ∃ Nx : L2.St → Hp → Prop,
        (∀ σ' H', Nx σ' H' → ∃ m', m' < m ∧ W (i + 1) m' σ' H') ∧
        ∀ x H', (Itr 0 j.toNat).yld i H x H' → g x σ H' fun σ2 H2 =>
          tb { D with nx := Nx, ct := Nx, bk := D.nx } σ2 H2)
theorem i_forR {ta : TA} (h : ta σ H fun vs H1 => ForR vs g tb D σ H1) : tFor (iRng1 ta) g tb D σ H := h
theorem i_turns {n : Int} (b1 : 0 ≤ n) (b2 : n < 2 ^ 62) (Pv : Nat → L2.St → Hp → Prop) (h0 : Pv 0 σ H)
    (st : ∀ (i : Nat) σ H, (i : Int) < n → Pv i σ H → g (.int i) σ H fun σ2 H2 =>
      tb { D with nx := Pv (i + 1), ct := Pv (i + 1), bk := D.nx } σ2 H2)
    (hd : ∀ σ H, Pv n.toNat σ H → D.nx σ H) : ForR [.int n] g tb D σ H := by
  refine ⟨n, rfl, by omega, b2, for_range Pv h0 (fun i σ H hi q => ?_) hd⟩
  have e : V.int (0 + (i : Int)) = V.int i := by rw [Int.zero_add]
  rw [e]
  exact st i σ H (by omega) q

theorem canLay_pairs : ∀ l : List (Int × Int), PyData.canLayAll0 (l.map d2) = true
  | [] => rfl
  | p :: l => by
    simp only [List.map_cons, PyData.canLayAll0, PyData.canLay0, canLay_pairs l]
    rfl
theorem depth_pairs : ∀ l : List (Int × Int), PyData.depthAll (l.map d2) ≤ 1
  | [] => Nat.zero_le _
  | p :: l => by
    simp only [List.map_cons, PyData.depthAll, PyData.depth]
    have q := depth_pairs l
    omega
theorem shaped_of {d : PyData} (h : d.canLay0 = true) (hd : d.depth ≤ 64) : SeqAt.shaped d = true := by
  unfold SeqAt.shaped
  rw [h, decide_eq_true hd]
  rfl
theorem shaped_pairs (l : List (Int × Int)) : SeqAt.shaped (.list (l.map d2)) = true := by
  refine shaped_of ?_ ?_
  · simp only [PyData.canLay0]
    exact canLay_pairs l
  · simp only [PyData.depth]
    have q := depth_pairs l
    omega
theorem shaped_nil : SeqAt.shaped (.list []) = true := by decide +kernel
theorem eqv_nil (ds : List PyData) : PyData.eqv (.list ds) (.list []) = ds.isEmpty := by
  cases ds <;> simp [PyData.eqv, PyData.eqvAll]
/-- xs == [], xs != [] -/
theorem eq_nil (ld : LD K H l ds) (hi : imms ds = true) (hs : SeqAt.shaped (.list ds) = true)
    (hq : Fr H q) (h : Q (.bl ds.isEmpty) (upd H q (.lst []))) :
    uEq K (.ref l) (.ref q) (upd H q (.lst [])) Q := by
  refine i_eqD (LD.dp (ld.kp (Kp.new hq) hi List.not_mem_nil)) (.lst (SqL.of upd_same) .nil) hs
    shaped_nil ?_
  rw [eqv_nil]
  exact h
theorem ne_nil (ld : LD K H l ds) (hi : imms ds = true) (hs : SeqAt.shaped (.list ds) = true)
    (hq : Fr H q) (h : Q (.bl (!ds.isEmpty)) (upd H q (.lst []))) :
    uNe K (.ref l) (.ref q) (upd H q (.lst [])) Q := by
  refine i_neD (LD.dp (ld.kp (Kp.new hq) hi List.not_mem_nil)) (.lst (SqL.of upd_same) .nil) hs
    shaped_nil ?_
  rw [eqv_nil]
  exact h
theorem dpa_last {d : PyData} : ∀ {ds : List PyData} {vs : List V}, DpAll K H vs (ds ++ [d]) →
    ∃ us x, vs = us ++ [x] ∧ DpAll K H us ds ∧ Dp K H x d
  | [], _, h => by
    cases h with
    | cons h1 h2 =>
      cases h2
      exact ⟨[], _, rfl, .nil, h1⟩
  | _ :: ds, _, h => by
    cases h with
    | cons h1 h2 =>
      obtain ⟨us, x, e, q1, q2⟩ := dpa_last h2
      exact ⟨_ :: us, x, by rw [e]; rfl, .cons h1 q1, q2⟩
theorem list_last {α : Type} {l : List α} (h : l ≠ []) : ∃ f q, l = f ++ [q] :=
  ⟨l.dropLast, l.getLast h, (List.dropLast_concat_getLast h).symm⟩
theorem ix_last (n : Nat) : ixN (n + 1) (-1) = some n := by
  unfold ixN
  rw [if_neg (by decide), if_pos (by omega)]
  congr 1
  omega
theorem set_last {α : Type} (l : List α) (a b : α) : (l ++ [a]).set l.length b = l ++ [b] := by
  rw [List.set_append_right _ _ (Nat.le_refl _)]
  simp
theorem upd_nn {o : HO} {u : Option HO} {b : Addr} (h : b ≠ a) (k : H b = u) : upd H a o b = u :=
  (upd_ne h).trans k
/-- what is not tracked then was not tracked before -/
def Old (H H' : Hp) : Prop := ∀ a, H' a = none → H a = none
theorem Old.refl : Old H H := fun _ h => h
theorem old_upd {H1 : Hp} {o : HO} (h : Old H H1) : Old H (upd H1 p o) := fun x e => by
  refine h x ?_
  by_cases z : x = p
  · rw [z, upd_same] at e
    cases e
  · rw [upd_ne z] at e
    exact e
theorem old_kp {H1 H2 : Hp} {ws : List Addr} (k : Kp ws H1 H2) (h : Old H H1) : Old H H2 :=
  fun x e => h x (k.free ⟨e⟩).e
theorem fr_of {H1 : Hp} {x : Addr} (h : Fr H1 x) (o : Old H H1) : Fr H x := ⟨o x h.e⟩
theorem small_sz {n : Nat} (h : n ≤ 1000000) : n < sizeLine := Nat.lt_of_le_of_lt h (by decide)
theorem sqT_new {o : HO} (h : SqT K H a xs) (hq : Fr H q) : SqT K (upd H q o) a xs :=
  (Kp.new (ws := []) hq).seqT h
theorem sqT_lst {o : HO} {ys : List V} (h : SqT K H a xs) (hq : H q = some (.lst ys)) :
    SqT K (upd H q o) a xs :=
  (Kp.mut (ws := [q]) hq (fun z => z) (List.mem_singleton.mpr rfl)).seqT h
theorem i_boN {b : Bool} {A B : Prop} (h1 : b = false → A) (h2 : b = true → B) :
    if (!b) = true then A else B := by
  cases b
  · exact iteT (h1 rfl)
  · exact iteF (h2 rfl)
theorem map_get {α β : Type} {l : List α} {f : α → β} {i : Nat} {d : β} (h : (l.map f)[i]? = some d) :
    ∃ p, l[i]? = some p ∧ d = f p := by
  rw [List.getElem?_map] at h
  cases e : l[i]? with
  | none => rw [e] at h; cases h
  | some p => rw [e] at h; cases h; exact ⟨p, rfl, rfl⟩
end
end G
namespace G
open PySem PySem.Spec PyProof.Rows L2
section
variable {K : PySem.W.Frag} {σ : L2.St} {H : Hp} {Q : VK} {n m : Int} {a p : Addr} {xs : List V} {v : V}
def rAbs : List V → Hp → VK → Prop := fun xs H Q => ∃ i, xs = [.int i] ∧ Q (.int (if i < 0 then -i else i)) H
def rMax2 : List V → Hp → VK → Prop := fun xs H Q => ∃ i j, xs = [.int i, .int j] ∧ Q (.int (if j > i then j else i)) H
def rMin2 : List V → Hp → VK → Prop := fun xs H Q => ∃ i j, xs = [.int i, .int j] ∧ Q (.int (if j < i then j else i)) H
def rDm : List V → Hp → VK → Prop := fun xs H Q => ∃ i j, xs = [.int i, .int j] ∧ CDivP i j ∧
  ∀ p, H p = none → Q (.ref p) (upd H p (.tup [.int (i / j), .int (i % j)]))
def rListOf (K : PySem.W.Frag) : List V → Hp → VK → Prop := fun xs H Q => ∃ p ys, xs = [.ref p] ∧
  (SqL K H p ys ∨ SqT K H p ys) ∧ ∀ l, H l = none → Q (.ref l) (upd H l (.lst ys))
def rPow : R2 := rI CPow fun i j => .int (i ^ j.toNat)
def uMod : R2 := rI (fun _ j => 0 < j) fun i j => .int (i % j)
def uDiv : R2 := rI CDivW fun i j => .int (i / j)
theorem c_abs {X : Cx} : CallR X (.builtin "abs") rAbs := call_abs
theorem c_max2 {X : Cx} (hc : X.calm = true) : CallR X (.builtin "max") rMax2 := call_max2 hc
theorem c_min2 {X : Cx} (hc : X.calm = true) : CallR X (.builtin "min") rMin2 := call_min2 hc
theorem c_dm {X : Cx} : CallR X (.builtin "divmod") rDm := call_divmodW
theorem c_list {X : Cx} : CallR X (.type "list") (rListOf X.K) := call_list_of
theorem o_pow {X : Cx} : OpR X (binaryOp .Pow) rPow := op_pow
theorem o_mod {X : Cx} : OpR X (binaryOp .Mod) uMod := op_mod
theorem o_div {X : Cx} : OpR X (binaryOp .FloorDiv) uDiv := op_fdivW
theorem i_abs (h : Q (.int (n.natAbs : Int)) H) : rAbs [.int n] H Q := by
  refine ⟨n, rfl, ?_⟩
  have e : (if n < 0 then -n else n) = (n.natAbs : Int) := by split <;> omega
  rw [e]
  exact h
theorem i_max2 (h : Q (.int (max n m)) H) : rMax2 [.int n, .int m] H Q := by
  refine ⟨n, m, rfl, ?_⟩
  have e : (if m > n then m else n) = max n m := by
    rw [Int.max_def]
    split <;> split <;> omega
  rw [e]
  exact h
theorem i_min2 (h : Q (.int (min n m)) H) : rMin2 [.int n, .int m] H Q := by
  refine ⟨n, m, rfl, ?_⟩
  have e : (if m < n then m else n) = min n m := by
    rw [Int.min_def]
    split <;> split <;> omega
  rw [e]
  exact h
theorem i_mod (hc : 0 < m) (h : Q (.int (n % m)) H) : uMod (.int n) (.int m) H Q := ⟨n, m, rfl, rfl, hc, h⟩
theorem i_listL (hs : SqL K H p xs) (h : New H fun l => Q (.ref l) (upd H l (.lst xs))) :
    rListOf K [.ref p] H Q := ⟨p, xs, rfl, .inl hs, h⟩
theorem i_listT (hs : SqT K H p xs) (h : New H fun l => Q (.ref l) (upd H l (.lst xs))) :
    rListOf K [.ref p] H Q := ⟨p, xs, rfl, .inr hs, h⟩
theorem pow_go {k : Int} (e : (10 : Int) ^ m.toNat = k) (hm : 0 ≤ m ∧ m ≤ 1000000) (h : Q (.int k) H) :
    rPow (.int 10) (.int m) H Q :=
  ⟨10, m, rfl, rfl, ⟨hm.1, hm.2, by decide⟩, by
    show Q (.int (10 ^ m.toNat)) H
    rw [e]
    exact h⟩
theorem i_pw6 (h : Q (.int 1000000) H) : rPow (.int 10) (.int 6) H Q :=
  pow_go rfl (by decide) h
theorem i_pw16 (h : Q (.int 10000000000000000) H) : rPow (.int 10) (.int 16) H Q :=
  pow_go rfl (by decide) h
theorem i_pw18 (h : Q (.int 1000000000000000000) H) :
    rPow (.int 10) (.int 18) H Q := pow_go rfl (by decide) h
theorem i_pw58 (h : Q (.int 10000000000000000000000000000000000000000000000000000000000) H) :
    rPow (.int 10) (.int 58) H Q := pow_go rfl (by decide) h
theorem i_pw59 (h : Q (.int 100000000000000000000000000000000000000000000000000000000000) H) :
    rPow (.int 10) (.int 59) H Q := pow_go rfl (by decide) h
theorem i_pw60 (h : Q (.int 1000000000000000000000000000000000000000000000000000000000000) H) :
    rPow (.int 10) (.int 60) H Q := pow_go rfl (by decide) h
theorem i_pw61 (h : Q (.int 10000000000000000000000000000000000000000000000000000000000000) H) :
    rPow (.int 10) (.int 61) H Q := pow_go rfl (by decide) h
theorem log_small {j : Int} (h0 : 0 < j) (h : j ≤ 10000000000000000000000000000000000000000000000000000000000000000000000) :
    j.natAbs.log2 < 9000 := by
  have h1 : j.natAbs < 2 ^ 9000 := by
    have h2 : j.natAbs ≤ 10 ^ 70 := by
      have e : ((10 ^ 70 : Nat) : Int) = 10000000000000000000000000000000000000000000000000000000000000000000000 := by rfl
      omega
    exact Nat.lt_of_le_of_lt h2 (by decide +kernel)
  exact (Nat.log2_lt (by omega)).mpr h1
theorem divp_small {i j : Int} (h0 : 0 < j) (h : j.natAbs.log2 < 9000) : CDivP i j := by
  refine ⟨h0, ?_⟩
  have nz : ¬ (j == 0) = true := by
    simpa using (show j ≠ 0 by omega)
  unfold Builtin.divisionGoesByPylong
  simp only [nz]
  have e : ¬ (j.natAbs.log2 / 30 + 1 > 300) := by omega
  first
    | (simp only [e, decide_false, Bool.false_and]; done)
    | (simp [e]; done)
    | (simp; omega)
theorem i_dm (h0 : 0 < m)
    (h1 : m ≤ 10000000000000000000000000000000000000000000000000000000000000000000000)
    (h : New H fun q => Q (.ref q) (upd H q (.tup [.int (n / m), .int (n % m)]))) :
    rDm [.int n, .int m] H Q := ⟨n, m, rfl, divp_small h0 (log_small h0 h1), h⟩
theorem i_div (h0 : 0 < m)
    (h1 : m ≤ 10000000000000000000000000000000000000000000000000000000000000000000000)
    (h : Q (.int (n / m)) H) : uDiv (.int n) (.int m) H Q := ⟨n, m, rfl, rfl, ⟨h0, log_small h0 h1⟩, h⟩
/-- a pot: two numbers from which draws come -/
def PotAt (H : Hp) (p : Addr) : Prop :=
  ∃ x y : Int, H p = some (.lst [.int x, .int y]) ∧ 0 ≤ x ∧ 0 ≤ y ∧ y < 8589934592
theorem PotAt.kp {ws : List Addr} {H1 : Hp} (h : PotAt H p) (k : Kp ws H H1) (hp : p ∉ ws) : PotAt H1 p := by
  obtain ⟨x, y, e, r⟩ := h
  exact ⟨x, y, k.at_ _ _ e hp, r⟩
end
end G
namespace G
open PySem PySem.Spec PyProof.Rows L2
def dty : PyData → String
  | .none => "NoneType"
  | .bool _ => "bool"
  | .int _ => "int"
  | .str _ => "str"
  | .list _ => "list"
  | .tuple _ => "tuple"
  | .dict _ => "dict"
section
variable {K : PySem.W.Frag} {σ : L2.St} {H : Hp} {Q : VK} {n m : Int} {a p : Addr} {xs : List V} {v : V} {d : PyData}
theorem dp_ty (h : Dp K H v d) : TyX K H v (.type (dty d)) := by
  cases h with
  | non => exact .base .non
  | bl b => exact .base (.bl b)
  | int i => exact .base (.int i)
  | str x => exact .base (.str x)
  | lst hs ha =>
    rcases hs with (h | ⟨o, h⟩) | ⟨o, its, k, e, c, r⟩
    · exact .base (.lst h)
    · exact .base (.frz h)
    · exact .kList e c
  | tup hs ha =>
    rcases hs with (h | ⟨o, h⟩) | ⟨o, its, k, e, c, r⟩
    · exact .base (.tup h)
    · exact .fTuple h
    · exact .kTuple e c
theorem i_isD {T : String} {b : Bool} (hd : Dp K H v d) (e : kitB (dty d) T = some b) (h : Q (.bl b) H) :
    rIsi K [v, .ty T] H Q := ⟨v, .ty T, _, _, b, rfl, .ty T, dp_ty hd, kit_ty e, h⟩
theorem i_revL {te : TE} (h : te σ H fun x H1 => ∃ a xs, x = .ref a ∧ SqL K H1 a xs ∧
    New H1 fun p => Q (.ref p) (upd H1 p (.lst xs.reverse))) : tRevL K te σ H Q := h
theorem i_revd {P : Addr → List V → Prop} (hs : SqL K H a xs) (h : P a xs) :
    ∃ b ys, V.ref a = .ref b ∧ SqL K H b ys ∧ P b ys := ⟨a, xs, rfl, hs, h⟩
def rIns : V → List V → Hp → VK → Prop := fun x vs H Q => ∃ (l : Addr) (xs : List V) (i : Int) (y : V),
  x = .ref l ∧ vs = [.int i, y] ∧ H l = some (.lst xs) ∧ xs.length < sizeLine ∧ 0 ≤ i ∧ i < 2 ^ 63 ∧
  Q .non (upd H l (.lst (xs.take i.toNat ++ [y] ++ xs.drop i.toNat)))
theorem m_insert {X : Cx} : MtR X "list.insert" rIns := mt_insert
theorem i_ins0 {y : V} (hs : H p = some (.lst xs)) (hz : xs.length < sizeLine)
    (h : Q .non (upd H p (.lst (y :: xs)))) : rIns (.ref p) [.int 0, y] H Q :=
  ⟨p, xs, 0, y, rfl, rfl, hs, hz, by decide, by decide, h⟩
theorem i_call0 {sp : Sp} {E : XK} {tr : TA} (h : tr σ H fun vs H1 => sp vs H1 Q E) :
    tCall sp [] E tr σ H Q := by
  unfold tCall
  simp only [List.append_nil]
  exact h
def rAllB (K : PySem.W.Frag) : List V → Hp → VK → Prop := rAll K
theorem i_all {bs : List Bool} (hs : SqL K H p (bs.map V.bl)) (h : Q (.bl (bs.all id)) H) :
    rAll K [.ref p] H Q := ⟨p, bs, rfl, hs, h⟩
theorem i_any {bs : List Bool} (hs : SqL K H p (bs.map V.bl)) (h : Q (.bl (bs.any id)) H) :
    rAny K [.ref p] H Q := ⟨p, bs, rfl, hs, h⟩
theorem i_sum {ns : List Int} (hs : SqL K H p (ns.map V.int)) (h : Q (.int ns.sum) H) :
    rSum K [.ref p] H Q := ⟨p, ns, rfl, hs, h⟩
/-- an item by an index that is not written -/
theorem at_in {l : List V} {r : Int} (h0 : 0 ≤ r) (h1 : r < l.length) : ∃ v, atI l r = some v ∧ v ∈ l := by
  obtain ⟨k, rfl⟩ : ∃ k : Nat, r = k := ⟨r.toNat, by omega⟩
  have hl : k < l.length := by omega
  exact ⟨l[k], atI_nat (by simp), List.getElem_mem hl⟩
end
section
variable {K : PySem.W.Frag} {σ : L2.St} {H H1 : Hp} {Q : VK} {a p l : Addr} {xs : List V} {g : TG} {tt : TT} {te : TE} {vs : List Nat} {QB : Bool → Hp → Prop}
/-- a comprehension over x, a list -/
def LcL (K : PySem.W.Frag) (x : V) (g : TG) (tt : TT) (te : TE) (vs : List Nat) (σ : L2.St) (H1 : Hp) (Q : VK) : Prop :=
  ∃ a, x = .ref a ∧ (∃ xs, SqL K H1 a xs) ∧ ∀ D, H1 D = none →
    ∃ W : Nat → Nat → Hp → Prop, (∃ m, W 0 m (upd H1 D (.lst []))) ∧ ∀ i m H, W i m H →
      ((Itl K a).stop i H ∧ Q (.ref D) H) ∨ ((Itl K a).go i H ∧ ∃ Nx : Hp → Prop,
        (∀ H', Nx H' → ∃ m', m' < m ∧ W (i + 1) m' H') ∧
        ∀ x H', (Itl K a).yld i H x H' → g x (wipe σ vs) H' fun σ2 H2 => wipe σ2 vs = wipe σ vs ∧ tt σ2 H2 fun b H3 =>
          if b = true then te σ2 H3 fun y H4 => ∃ acc, H4 D = some (.lst acc) ∧ acc.length < sizeLine ∧
            Nx (upd H4 D (.lst (acc ++ [y]))) else Nx H3)
theorem i_lcL {te' : TE} (h : te' σ H fun x H1 => LcL K x g tt te vs σ H1 Q) :
    tLc (iList K te') g tt te vs σ H Q := h
theorem i_elts (hs : SqL K H a xs) (Pv : Addr → Nat → Hp → Prop)
    (h0 : ∀ D, Fr H D → Pv D 0 (upd H D (.lst [])))
    (hl : ∀ D i H', Fr H D → i ≤ xs.length → Pv D i H' → SqL K H' a xs)
    (st : ∀ D i x H', Fr H D → xs[i]? = some x → Pv D i H' → g x (wipe σ vs) H' fun σ2 H2 =>
      wipe σ2 vs = wipe σ vs ∧ tt σ2 H2 fun b H3 => if b = true then te σ2 H3 fun y H4 =>
        ∃ acc, H4 D = some (.lst acc) ∧ acc.length < sizeLine ∧ Pv D (i + 1) (upd H4 D (.lst (acc ++ [y])))
        else Pv D (i + 1) H3)
    (hd : ∀ D H', Fr H D → Pv D xs.length H' → Q (.ref D) H') : LcL K (.ref a) g tt te vs σ H Q := by
  refine ⟨a, rfl, ⟨_, hs⟩, fun D hD => ?_⟩
  exact lc_list (K := K) (a := a) (xs := xs) (Pv D) (h0 D ⟨hD⟩) (fun i H' => hl D i H' ⟨hD⟩)
    (fun i x H' => st D i x H' ⟨hD⟩) (fun H' => hd D H' ⟨hD⟩)
def LcR (ws : List V) (g : TG) (tt : TT) (te : TE) (vs : List Nat) (σ : L2.St) (H1 : Hp) (Q : VK) : Prop :=
  ∃ j : Int, ws = [.int j] ∧ -(2 ^ 62) ≤ j ∧ j < 2 ^ 62 ∧ ∀ D, H1 D = none →
    ∃ W : Nat → Nat → Hp → Prop, (∃ m, W 0 m (upd H1 D (.lst []))) ∧ ∀ i m H, W i m H →
      ((Itr 0 j.toNat).stop i H ∧ Q (.ref D) H) ∨ ((Itr 0 j.toNat).go i H ∧ ∃ Nx : Hp → Prop,
        (∀ H', Nx H' → ∃ m', m' < m ∧ W (i + 1) m' H') ∧
        ∀ x H', (Itr 0 j.toNat).yld i H x H' → g x (wipe σ vs) H' fun σ2 H2 => wipe σ2 vs = wipe σ vs ∧ tt σ2 H2 fun b H3 =>
          if b = true then te σ2 H3 fun y H4 => ∃ acc, H4 D = some (.lst acc) ∧ acc.length < sizeLine ∧
            Nx (upd H4 D (.lst (acc ++ [y]))) else Nx H3)
theorem i_lcR {ta : TA} (h : ta σ H fun ws H1 => LcR ws g tt te vs σ H1 Q) :
    tLc (iRng1 ta) g tt te vs σ H Q := h
theorem i_reps {n : Int} (b1 : 0 ≤ n) (b2 : n < 2 ^ 62) (Pv : Addr → Nat → Hp → Prop)
    (h0 : ∀ D, Fr H D → Pv D 0 (upd H D (.lst [])))
    (st : ∀ D (i : Nat) H', Fr H D → (i : Int) < n → Pv D i H' → g (.int i) (wipe σ vs) H' fun σ2 H2 =>
      wipe σ2 vs = wipe σ vs ∧ tt σ2 H2 fun b H3 => if b = true then te σ2 H3 fun y H4 =>
        ∃ acc, H4 D = some (.lst acc) ∧ acc.length < sizeLine ∧ Pv D (i + 1) (upd H4 D (.lst (acc ++ [y])))
        else Pv D (i + 1) H3)
    (hd : ∀ D H', Fr H D → Pv D n.toNat H' → Q (.ref D) H') : LcR [.int n] g tt te vs σ H Q := by
  refine ⟨n, rfl, by omega, b2, fun D hD => ?_⟩
  refine lc_range (lo := 0) (n := n.toNat) (Pv D) (h0 D ⟨hD⟩) (fun i H' hi q => ?_) (fun H' => hd D H' ⟨hD⟩)
  have e : V.int (0 + (i : Int)) = V.int i := by rw [Int.zero_add]
  rw [e]
  exact st D i H' ⟨hD⟩ (by omega) q
theorem i_wipe {σ2 : L2.St} {P : Prop} (e : wipe σ2 vs = wipe σ vs) (h : P) : wipe σ2 vs = wipe σ vs ∧ P := ⟨e, h⟩
theorem i_yes (h : QB true H) : tYes σ H QB := h
theorem i_acc {D : Addr} {y : V} {P : Hp → Prop} {acc : List V} (h1 : H D = some (.lst acc)) (h2 : acc.length < sizeLine)
    (h : P (upd H D (.lst (acc ++ [y])))) : ∃ acc, H D = some (.lst acc) ∧ acc.length < sizeLine ∧ P (upd H D (.lst (acc ++ [y]))) :=
  ⟨acc, h1, h2, h⟩
end
end G
namespace G
open PySem PySem.Spec PyProof.Rows L2
section
variable {K : PySem.W.Frag} {H H1 : Hp} {a p l q : Addr} {ws : List Addr} {o u : HO} {ds : List PyData}
theorem kp_at (k : Kp ws H H1) (h : H a = some u) (n : a ∉ ws) : H1 a = some u := k.at_ a u h n
theorem not_nil {α : Type} {a : α} : a ∉ ([] : List α) := List.not_mem_nil
theorem not_one {a b : Addr} (h : a ≠ b) : a ∉ [b] := fun z => h (List.mem_singleton.mp z)
theorem not_two {a b c : Addr} (h : a ≠ b) (h2 : a ≠ c) : a ∉ [b, c] := fun z => by
  rcases List.mem_cons.mp z with z | z
  · exact h z
  · exact h2 (List.mem_singleton.mp z)
theorem pot_upd (h : PotAt H p) (n : p ≠ q) : PotAt (upd H q o) p := by
  obtain ⟨x, y, e, r⟩ := h
  exact ⟨x, y, by rw [upd_ne n]; exact e, r⟩
theorem PotAt.ne {x : Addr} (h : PotAt H p) (f : Fr H x) : p ≠ x := by
  have hx := f.e
  obtain ⟨_, _, e, _⟩ := h
  exact ne_of_none e hx
theorem pot_ne {x : Addr} (hx : Fr H x) (h : PotAt H p) : p ≠ x := h.ne hx
theorem LD.ne {x : Addr} (h : LD K H l ds) (f : Fr H x) : l ≠ x := by
  have hx := f.e
  obtain ⟨_, e, _⟩ := h
  exact ne_of_none e hx
theorem ld_ne {x : Addr} (f : Fr H x) (h : LD K H l ds) : l ≠ x := h.ne f
theorem ld_upd (h : LD K H l ds) (hi : imms ds = true) (hq : Fr H q) : LD K (upd H q o) l ds := by
  have k : Kp ([] : List Addr) H (upd H q o) := Kp.new hq
  exact h.kp k hi not_nil
theorem ld_upl {ys : List V} (h : LD K H l ds) (hi : imms ds = true) (hq : H q = some (.lst ys))
    (n : l ≠ q) : LD K (upd H q o) l ds := by
  have k : Kp [q] H (upd H q o) := Kp.mut hq (fun z => z) (List.mem_singleton.mpr rfl)
  exact h.kp k hi (not_one n)
theorem sqL_new {xs : List V} (h : SqL K H a xs) (f : Fr H q) : SqL K (upd H q o) a xs :=
  (Kp.new (ws := []) f).seqL not_nil h
theorem sqL_kp {xs : List V} (k : Kp ws H H1) (h : SqL K H a xs) (n : a ∉ ws) : SqL K H1 a xs := k.seqL n h
theorem at_zero {x : V} {xs : List V} : atI (x :: xs) 0 = some x := atI_nat (j := 0) rfl
theorem ix_zero (n : Nat) : ixN (n + 1) 0 = some 0 := by
  unfold ixN
  rw [if_pos (by decide), if_pos (by omega)]
  rfl
theorem dpa_rev : ∀ {ds : List PyData} {vs : List V}, DpAll K H vs ds → DpAll K H vs.reverse ds.reverse
  | [], _, h => by cases h; exact .nil
  | _ :: _, _, h => by
    cases h with
    | cons h1 h2 =>
      rw [List.reverse_cons, List.reverse_cons]
      exact dpa_app (dpa_rev h2) (dpa_one h1)
/-- something is put behind -/
theorem ld_app {y : V} {d : PyData} {vs : List V} (h : DpAll K H vs ds) (e : H l = some (.lst vs))
    (hi : imms ds = true) (hd : Dp K H y d) (hj : imm d = true) : LD K (upd H l (.lst (vs ++ [y]))) l (ds ++ [d]) := by
  have k : Kp [l] H (upd H l (.lst (vs ++ [y]))) := Kp.mut e (fun z => z) (List.mem_singleton.mpr rfl)
  exact ⟨_, upd_same, dpa_app (dpa_imm k _ _ hi h) (dpa_one (dp_imm k _ _ hj hd))⟩
end
end G

namespace G
open PySem PySem.Spec PyProof.Rows L2
/-! the same rules, the written part named -/
section
variable {X : Cx} {K : PySem.W.Frag} {e : Expr} {es : List Expr} {te : TE} {t : TGs} {f : Str} {pos : Pos} {tg : Expr}
theorem k_add (h : X.K = K) : OpR X (binaryOp .Add) (uAdd K) := h ▸ o_add
theorem k_eq (h : X.K = K) (hu : X.A.units + 64 < cLine) : OpR X (compareOp .Eq) (uEq K) := h ▸ o_eq hu
theorem k_ne (h : X.K = K) (hu : X.A.units + 64 < cLine) : OpR X (compareOp .NotEq) (uNe K) := h ▸ o_ne hu
theorem k_ix (h : X.K = K) : IxR X (uIx K) := h ▸ o_ix
theorem k_len (h : X.K = K) : CallR X (.builtin "len") (uLen K) := h ▸ c_len
theorem k_list (h : X.K = K) : CallR X (.type "list") (rListOf K) := h ▸ c_list
theorem k_repr (h : X.K = K) (hg : X.A.guards = some []) (hu : X.A.units + 64 < cLine) :
    CallR X (.builtin "repr") (rRepr K) := h ▸ call_repr hg hu
theorem k_all (h : X.K = K) (hc : X.calm = true) : CallR X (.builtin "all") (rAll K) := h ▸ cr_all hc
theorem k_any (h : X.K = K) (hc : X.calm = true) : CallR X (.builtin "any") (rAny K) := h ▸ cr_any hc
theorem k_sum (h : X.K = K) (hc : X.calm = true) : CallR X (.builtin "sum") (rSum K) := h ▸ cr_sum hc
theorem k_isi (h : X.K = K) : CallR X (.builtin "isinstance") (rIsi K) := h ▸ call_isi
theorem k_sl (h : X.K = K) : SlR X (rSlL K) := h ▸ sl_list
theorem k_slT (h : X.K = K) : SlR X (rSlT K) := h ▸ sl_tup
theorem k_in (h : X.K = K) : OpR X (compareOp .In) (rIn K false) := h ▸ op_in_seq
theorem k_nin (h : X.K = K) : OpR X (compareOp .NotIn) (rIn K true) := h ▸ op_notIn_seq
theorem k_fld (h : X.K = K) (he : PE X e te) (hb : attributeBase e f X.env (eval e X.env) = eval e X.env) :
    PE X (.Attribute e f pos) (tFld K te f) := h ▸ pe_fld he hb
theorem k_plist (h : X.K = K) (he : PE X e te) : PI X tg e (iList K te) := h ▸ pi_list he
theorem k_ptup (h : X.K = K) (he : PE X e te) : PI X tg e (iTup K te) := h ▸ pi_tup he
theorem k_rev {k : Nat} {p1 p2 p3 : Pos} (h : X.K = K) (he : PE X e te) :
    PE X (.Subscript e (.Slice none none (some (.UnaryOp .USub (.Constant (.int 1) k p1) p2)) p3) pos) (tRevL K te) :=
  h ▸ pe_revL he
theorem k_gtup {k : Nat} (n : Nat) (h : X.K = K) (hc : X.calm = true) (hp : PGs X es t)
    (hn : (assignEach es X.env).length = n := by rfl)
    (hst : (assignEach es X.env).findIdx? (·.1) = none := by rfl) : PG X (.Tuple es k pos) (gTup K n t) :=
  h ▸ pg_tup hc hp hn hst
end
end G
namespace G
open PySem PySem.Spec PyProof.Rows L2
/-! what is tracked; what is fixed -/
structure Tr (H : Hp) (a : Addr) : Prop where
  ex : ∃ o, H a = some o
structure Fx (H H1 : Hp) : Prop where
  fx : ∀ a u, H a = some u → Fix u → H1 a = some u
section
variable {K : PySem.W.Frag} {H H0 H1 : Hp} {Q : VK} {a b p l q : Addr} {ws : List Addr} {o u : HO} {ds : List PyData} {xs : List V} {n : Int} {v : V}
theorem tr_of (h : H a = some o) : Tr H a := ⟨o, h⟩
theorem tr_same : Tr (upd H p o) p := ⟨o, upd_same⟩
theorem tr_upd (h : Tr H a) : Tr (upd H p o) a := by
  by_cases e : a = p
  · rw [e]
    exact tr_same
  · obtain ⟨u, h⟩ := h.ex
    exact ⟨u, by rw [upd_ne e]; exact h⟩
theorem tr_kp (k : Kp ws H H1) (h : Tr H a) : Tr H1 a := by
  obtain ⟨u, h⟩ := h.ex
  obtain ⟨v, e⟩ := k.dom _ _ h
  exact ⟨v, e⟩
theorem tr_ld (h : LD K H a ds) : Tr H a := by
  obtain ⟨vs, e, _⟩ := h
  exact ⟨_, e⟩
theorem tr_pot (h : PotAt H a) : Tr H a := by
  obtain ⟨x, y, e, _⟩ := h
  exact ⟨_, e⟩
theorem fr_tr (h : Tr H a) (f : Fr H b) : a ≠ b := by
  obtain ⟨u, e⟩ := h.ex
  exact fr_ne e f
theorem fx_refl : Fx H H := ⟨fun _ _ h _ => h⟩
theorem fx_new (h : Fx H0 H) (f : Fr H p) : Fx H0 (upd H p o) := ⟨fun a u e z => by
  have e2 := h.fx a u e z
  rw [upd_ne (fr_ne e2 f)]
  exact e2⟩
theorem fx_mut (h : Fx H0 H) (f : H p = some u) (nf : ¬ Fix u) : Fx H0 (upd H p o) := ⟨fun a v e z => by
  have e2 := h.fx a v e z
  rw [upd_ne]
  · exact e2
  · intro c
    subst c
    rw [f] at e2
    cases e2
    exact nf z⟩
theorem fx_kp (k : Kp ws H H1) (h : Fx H0 H) : Fx H0 H1 := ⟨fun a u e z => k.fix a u (h.fx a u e z) z⟩
theorem Fx.seqT (k : Fx H H1) (h : SqT K H l xs) : SqT K H1 l xs := by
  rcases h with (h | ⟨o, h⟩) | h
  · exact .inl (.inl (k.fx _ _ h trivial))
  · exact .inl (.inr ⟨o, k.fx _ _ h trivial⟩)
  · exact .inr h
mutual
theorem Fx.dp (k : Fx H H1) : ∀ (d : PyData) (v : V), imm d = true → Dp K H v d → Dp K H1 v d
  | .none, _, _, h => by cases h; exact .non
  | .bool b, _, _, h => by cases h; exact .bl b
  | .int i, _, _, h => by cases h; exact .int i
  | .str x, _, _, h => by cases h; exact .str x
  | .tuple ds, _, hi, h => by
    cases h with
    | tup hs ha => exact .tup (k.seqT hs) (Fx.dpa k ds _ (by simpa only [imm] using hi) ha)
  | .list _, _, hi, _ => by simp only [imm] at hi; cases hi
  | .dict _, _, hi, _ => by simp only [imm] at hi; cases hi
theorem Fx.dpa (k : Fx H H1) : ∀ (ds : List PyData) (vs : List V), imms ds = true →
    DpAll K H vs ds → DpAll K H1 vs ds
  | [], _, _, h => by cases h; exact .nil
  | d :: ds, _, hi, h => by
    simp only [imms, Bool.and_eq_true] at hi
    cases h with
    | cons h1 h2 => exact .cons (Fx.dp k d _ hi.1 h1) (Fx.dpa k ds _ hi.2 h2)
end
/-- an item of an object -/
def ixO : HO → Int → V → Prop
  | .lst xs, n, v => atI xs n = some v
  | .tup xs, n, v => atI xs n = some v
  | _, _, _ => False
theorem i_ixO (h : H p = some o) (hv : ixO o n v) (q : Q v H) : uIx K (.ref p) (.int n) H Q := by
  cases o with
  | lst xs => exact i_ixL (SqL.of h) hv q
  | tup xs => exact i_ixT (SqT.of h) hv q
  | _ => exact hv.elim
theorem i_ixS (h0 : SqT K H0 p xs) (k : Fx H0 H) (hv : atI xs n = some v) (q : Q v H) :
    uIx K (.ref p) (.int n) H Q := i_ixT (k.seqT h0) hv q
def lenO : HO → Int → Prop
  | .lst xs, n => n = xs.length
  | .tup xs, n => n = xs.length
  | _, _ => False
theorem i_lenO (h : H p = some o) (hv : lenO o n) (q : Q (.int n) H) : uLen K [.ref p] H Q := by
  cases o with
  | lst xs =>
    have e : n = xs.length := hv
    subst e
    exact i_lenL (SqL.of h) q
  | tup xs =>
    have e : n = xs.length := hv
    subst e
    exact i_lenT (SqT.of h) q
  | _ => exact hv.elim
end
end G
namespace G
open PySem PySem.Spec PyProof.Rows L2
section
variable {K : PySem.W.Frag} {H : Hp} {Q : VK} {x y : V} {d : PyData}
theorem ne_same (hx : Dp K H x d) (hy : Dp K H y d) (sh : SeqAt.shaped d = true) (h : Q (.bl false) H) :
    uNe K x y H Q := by
  refine i_neD hx hy sh sh ?_
  rw [SeqAt.eqv_refl d (SeqAt.canLay_of_shaped sh)]
  exact h
theorem eq_same (hx : Dp K H x d) (hy : Dp K H y d) (sh : SeqAt.shaped d = true) (h : Q (.bl true) H) :
    uEq K x y H Q := by
  refine i_eqD hx hy sh sh ?_
  rw [SeqAt.eqv_refl d (SeqAt.canLay_of_shaped sh)]
  exact h
/-- a number that may be shown -/
def okI (i : Int) : Prop := i.natAbs.log2 < 1920
theorem okI_of {i : Int} (h0 : -100000000000000000000000000000000000000000000000000000000000000000000000 ≤ i)
    (h1 : i ≤ 100000000000000000000000000000000000000000000000000000000000000000000000) : okI i := by
  unfold okI
  have h2 : i.natAbs ≤ 10 ^ 71 := by
    have e : ((10 ^ 71 : Nat) : Int) = 100000000000000000000000000000000000000000000000000000000000000000000000 := by rfl
    omega
  by_cases z : i.natAbs = 0
  · rw [z]
    decide
  · exact (Nat.log2_lt z).mpr (Nat.lt_of_le_of_lt h2 (by decide +kernel))
theorem shws_pairs : ∀ l : List (Int × Int), (∀ q ∈ l, okI q.1 ∧ okI q.2) → shws (l.map d2) = true
  | [], _ => rfl
  | q :: l, h => by
    have a := h q List.mem_cons_self
    have b := shws_pairs l fun z hz => h z (List.mem_cons_of_mem _ hz)
    simp only [List.map_cons, shws, shw, b, Bool.and_true, Bool.and_eq_true, decide_eq_true_eq]
    exact a
theorem cws_pairs : ∀ l : List (Int × Int), cws (l.map d2) = 3868 * l.length
  | [] => rfl
  | q :: l => by
    simp only [List.map_cons, cws, cw, cws_pairs l, List.length_cons]
    omega
theorem depth_list (l : List (Int × Int)) : (PyData.list (l.map d2)).depth ≤ 60 := by
  simp only [PyData.depth]
  have q := depth_pairs l
  omega
theorem repr_pairs {l : List (Int × Int)} (hx : Dp K H x (.list (l.map d2))) (h : ∀ q ∈ l, okI q.1 ∧ okI q.2)
    (hl : l.length ≤ 4000) (q : Q (.str (PyData.list (l.map d2)).shown) H) : rRepr K [x] H Q := by
  refine i_repr hx ?_ (depth_list l) ?_ q
  · simp only [shw]
    exact shws_pairs l h
  · have e : cw (.list (l.map d2)) = 3868 * l.length + 2 := by simp only [cw, cws_pairs]
    rw [e]
    exact Nat.le_trans (show 3868 * l.length + 2 ≤ 15472002 by omega) (by decide)
end
end G
namespace G
open PySem PySem.Spec PyProof.Rows L2
/-! methods, new instances, keywords -/
section
variable {X : Cx} {k n : Nat} {f C : Addr} {fd : FuncData} {ps ks : List Str} {sp : Sp}
variable {dvs : List V} {ds : List Value} {E : XK} {x m : Str} {p pos apos : Pos} {e o : Expr}
variable {es : List Expr} {kws : List Keyword} {ta : TE} {t tk : TA} {pins : List (Addr × Obj)} {σ : L2.St} {H : Hp}
variable {s s' : Shared} {Q : VK} {g : List Value → List Value → List Value} {gV : List V → List V → List V}
/-- defaults of which only the values are known -/
def BindsD (K : PySem.W.Frag) (fd : FuncData) (ps : List Str) (dvs : List V) : Prop :=
  ∃ ds, Vals dvs ds ∧ Binds K fd ps ds
def KBnD (K : PySem.W.Frag) (fd : FuncData) (ps : List Str) (n : Nat) (ks : List Str)
    (gV : List V → List V → List V) : Prop := ∃ g, KBn K fd ps n ks g gV
theorem BindsD.plain {K : PySem.W.Frag} (h : Binds K fd ps []) : BindsD K fd ps [] := ⟨[], .nil, h⟩
theorem d1 (F : Fg X k f fd ps sp) (z : RoomG k X.A) (hg : Gl X x) (hm : X.mg x = some (.ref f))
    (hk : PySem.W.keepIn X.K (.ref f) = true) (hb : BindsD X.K fd ps dvs)
    (hx : Ps X E) (ha : PA X (e :: es) t)
    (hdb : (x == ("__debug__" : Str)) = false := by decide)
    (he : starEach (e :: es) X.env = (false, eval e X.env) :: starEach es X.env := by rfl)
    (hpl : (backTo pos (starEach es X.env)).any (·.1) = false := by rfl) :
    PE X (.Call (.Name x p) (e :: es) [] pos) (tCall sp dvs E t) := by
  obtain ⟨ds, hd, hb⟩ := hb
  exact c1 F z hg hm hk hb hd hx ha hdb he hpl
theorem dm {pl : Sem Bool} (c : Cls X.K C) (hm : Meth X.K C m f)
    (F : Fg X k f fd ps sp) (z : RoomG k X.A) (hb : BindsD X.K fd ps dvs)
    (hx : Ps X E) (he : PE X o ta) (ha : PA X (e :: es) t)
    (hst : starEach (e :: es) X.env = (false, eval e X.env) :: starEach es X.env := by rfl)
    (hpl : (backTo pos (starEach es X.env)).any (·.1) = false := by rfl)
    (ht : eval (.Call (.Attribute o m apos) (e :: es) [] pos) X.env = (do
      let y ← eval o X.env
      standAt apos.atName
      let (g, a) ← holding [y] (getMethod y m pl)
      callWith pos g a (backTo pos (starEach (e :: es) X.env))
        (backToKw pos (keywordEach [] X.env))) := by rfl) :
    PE X (.Call (.Attribute o m apos) (e :: es) [] pos) (tMeth C m sp dvs E ta t) := by
  obtain ⟨ds, hd, hb⟩ := hb
  exact cm he c hm F z hb hd hx ha hst hpl ht
theorem dm0 {pl : Sem Bool} (c : Cls X.K C) (hm : Meth X.K C m f)
    (F : Fg X k f fd ps sp) (z : RoomG k X.A) (hb : BindsD X.K fd ps dvs)
    (hx : Ps X E) (he : PE X o ta)
    (ht : eval (.Call (.Attribute o m apos) [] [] pos) X.env = (do
      let y ← eval o X.env
      standAt apos.atName
      let (g, a) ← holding [y] (getMethod y m pl)
      callWith pos g a (backTo pos (starEach [] X.env))
        (backToKw pos (keywordEach [] X.env))) := by rfl) :
    PE X (.Call (.Attribute o m apos) [] [] pos) (tMeth C m sp dvs E ta tNil) := by
  obtain ⟨ds, hd, hb⟩ := hb
  exact cm0 he c hm F z hb hd hx ht
/-- a call of f with positional values and keywords -/
theorem runK {us ws : List Value} {vs zs : List V} (F : Fg X k f fd ps sp) (z : RoomG k X.A)
    (hb : KBn X.K fd ps n ks g gV) (hx : Ps X E) (I : Inv X pins σ H s) (rv : Vals vs us) (rz : Vals zs ws)
    (l1 : vs.length = n) (l2 : zs.length = ks.length) (h : sp (gV vs zs) H Q E) :
    wpAny (model X.prog X.w) X.A (call (.ref f) us (ks.zip ws)) (EP X pins σ Q) X.xe s := by
  have b := hb.to s us ws I.kIn (rv.length.symm.trans l1) (rz.length.symm.trans l2)
  refine wpAny_call (codeAny_mono (runG F z b hx I (hb.rel rv rz) h) ?_)
  intro r s' q
  match r, q with
  | .error e, q => exact q
  | .ok (.ret u), q => exact q
  | .ok .next, q => exact q
  | .ok .brk, q => exact q
  | .ok .cont, q => exact q
def tKw (n m : Nat) (sp : Sp) (gV : List V → List V → List V) (E : XK) (t tk : TA) : TE := fun σ H Q =>
  t σ H fun vs H1 => tk σ H1 fun zs H2 => vs.length = n ∧ zs.length = m ∧ sp (gV vs zs) H2 Q E
def tMw (C : Addr) (nm : Str) (n m : Nat) (sp : Sp) (gV : List V → List V → List V) (E : XK) (ta : TE) (t tk : TA) : TE :=
  fun σ H Q => ta σ H fun x H1 => ∃ a dx fs, x = .ref a ∧ H1 a = some (.ins C dx fs) ∧ fs.lookup nm = none ∧
    t σ H1 fun vs H2 => tk σ H2 fun zs H3 => vs.length = n ∧ zs.length = m ∧ sp (gV (x :: vs) zs) H3 Q E
theorem kc (F : Fg X k f fd ps sp) (z : RoomG k X.A) (hg : Gl X x) (hm : X.mg x = some (.ref f))
    (hk : PySem.W.keepIn X.K (.ref f) = true) (hb : KBnD X.K fd ps n ks gV) (hx : Ps X E)
    (ha : PA X (e :: es) t) (hkw : PK X kws tk)
    (hall : (backToKw pos (keywordEach kws X.env)).all (·.1.isSome) = true := by rfl)
    (hks : (backToKw pos (keywordEach kws X.env)).filterMap (·.1) = ks := by rfl)
    (hdb : (x == ("__debug__" : Str)) = false := by decide)
    (he : starEach (e :: es) X.env = (false, eval e X.env) :: starEach es X.env := by rfl)
    (hpl : ((backTo pos (starEach (e :: es) X.env)).any (·.1) ||
      (backToKw pos (keywordEach kws X.env)).any (·.1.isNone)) = false := by rfl) :
    PE X (.Call (.Name x p) (e :: es) kws pos) (tKw n ks.length sp gV E t tk) := by
  obtain ⟨g, hb⟩ := hb
  constructor
  intro pins s σ H Q I h
  refine wpAny_Call_Name_kw (ld_glob I hg hm ?_ hdb)
  refine PySem.W.callWith_KW (h₀ := X.base) I.ok.mod.kin hk hall ?_ hpl he
  refine thn (ha.run pos pins s σ H _ I h) ?_
  intro us s1 y
  obtain ⟨vs, H1, I1, r, q⟩ := y
  refine thn (hkw.run pos pins s1 σ H1 _ I1 q) ?_
  intro ws s2 y
  obtain ⟨zs, H2, I2, rz, l1, l2, q2⟩ := y
  refine ⟨I2.kIn, ?_⟩
  rw [hks]
  exact runK F z hb hx I2 r rz l1 l2 q2
theorem kc0 (F : Fg X k f fd ps sp) (z : RoomG k X.A) (hg : Gl X x) (hm : X.mg x = some (.ref f))
    (hk : PySem.W.keepIn X.K (.ref f) = true) (hb : KBnD X.K fd ps 0 ks gV) (hx : Ps X E)
    (hkw : PK X kws tk)
    (hall : (backToKw pos (keywordEach kws X.env)).all (·.1.isSome) = true := by rfl)
    (hks : (backToKw pos (keywordEach kws X.env)).filterMap (·.1) = ks := by rfl)
    (hdb : (x == ("__debug__" : Str)) = false := by decide)
    (hpl : ((backTo pos (starEach [] X.env)).any (·.1) ||
      (backToKw pos (keywordEach kws X.env)).any (·.1.isNone)) = false := by rfl) :
    PE X (.Call (.Name x p) [] kws pos) (tKw 0 ks.length sp gV E tNil tk) := by
  obtain ⟨g, hb⟩ := hb
  constructor
  intro pins s σ H Q I h
  refine wpAny_Call_Name_kw (ld_glob I hg hm ?_ hdb)
  refine PySem.W.callWith_KW0 (h₀ := X.base) I.ok.mod.kin hk hall ?_ hpl
  refine thn (hkw.run pos pins s σ H _ I h) ?_
  intro ws s2 y
  obtain ⟨zs, H2, I2, rz, l1, l2, q2⟩ := y
  refine ⟨I2.kIn, ?_⟩
  rw [hks]
  exact runK (us := []) (vs := []) F z hb hx I2 .nil rz l1 l2 q2
theorem km {pl : Sem Bool} (c : Cls X.K C) (hm : Meth X.K C m f)
    (F : Fg X k f fd ps sp) (z : RoomG k X.A) (hb : KBnD X.K fd ps (n + 1) ks gV)
    (hx : Ps X E) (he : PE X o ta) (ha : PA X (e :: es) t) (hkw : PK X kws tk)
    (hall : (backToKw pos (keywordEach kws X.env)).all (·.1.isSome) = true := by rfl)
    (hks : (backToKw pos (keywordEach kws X.env)).filterMap (·.1) = ks := by rfl)
    (hst : starEach (e :: es) X.env = (false, eval e X.env) :: starEach es X.env := by rfl)
    (hpl : ((backTo pos (starEach (e :: es) X.env)).any (·.1) ||
      (backToKw pos (keywordEach kws X.env)).any (·.1.isNone)) = false := by rfl)
    (ht : eval (.Call (.Attribute o m apos) (e :: es) kws pos) X.env = (do
      let y ← eval o X.env
      standAt apos.atName
      let (g, a) ← holding [y] (getMethod y m pl)
      callWith pos g a (backTo pos (starEach (e :: es) X.env))
        (backToKw pos (keywordEach kws X.env))) := by rfl) :
    PE X (.Call (.Attribute o m apos) (e :: es) kws pos) (tMw C m n ks.length sp gV E ta t tk) := by
  obtain ⟨g, hb⟩ := hb
  constructor
  intro pins s σ H Q I h
  refine PySem.W.methodCall_KW (pl := pl) (thn (he.run pins s σ H _ I h) ?_) ht
  intro u s1 y
  obtain ⟨v, H1, I1, rx, a, dx, fs, ex, ea, l, q⟩ := y
  subst ex
  obtain rfl : u = Value.ref a := rx
  refine getmeth_ok I1 ea c hm l ?_
  refine PySem.W.callWith_KW (first := [.ref a]) (h₀ := X.base) I.ok.mod.kin hm.kp hall ?_ hpl hst
  refine thn (ha.run pos pins s1 σ H1 _ I1 q) ?_
  intro us s2 y
  obtain ⟨vs, H2, I2, r, q2⟩ := y
  refine thn (hkw.run pos pins s2 σ H2 _ I2 q2) ?_
  intro ws s3 y
  obtain ⟨zs, H3, I3, rz, l1, l2, q3⟩ := y
  refine ⟨I3.kIn, ?_⟩
  rw [hks]
  exact runK (us := .ref a :: us) (vs := .ref a :: vs) F z hb hx I3 (.cons rfl r) rz (by rw [List.length_cons, l1]) l2 q3
theorem km0 {pl : Sem Bool} (c : Cls X.K C) (hm : Meth X.K C m f)
    (F : Fg X k f fd ps sp) (z : RoomG k X.A) (hb : KBnD X.K fd ps 1 ks gV)
    (hx : Ps X E) (he : PE X o ta) (hkw : PK X kws tk)
    (hall : (backToKw pos (keywordEach kws X.env)).all (·.1.isSome) = true := by rfl)
    (hks : (backToKw pos (keywordEach kws X.env)).filterMap (·.1) = ks := by rfl)
    (hpl : ((backTo pos (starEach [] X.env)).any (·.1) ||
      (backToKw pos (keywordEach kws X.env)).any (·.1.isNone)) = false := by rfl)
    (ht : eval (.Call (.Attribute o m apos) [] kws pos) X.env = (do
      let y ← eval o X.env
      standAt apos.atName
      let (g, a) ← holding [y] (getMethod y m pl)
      callWith pos g a (backTo pos (starEach [] X.env))
        (backToKw pos (keywordEach kws X.env))) := by rfl) :
    PE X (.Call (.Attribute o m apos) [] kws pos) (tMw C m 0 ks.length sp gV E ta tNil tk) := by
  obtain ⟨g, hb⟩ := hb
  constructor
  intro pins s σ H Q I h
  refine PySem.W.methodCall_KW (pl := pl) (thn (he.run pins s σ H _ I h) ?_) ht
  intro u s1 y
  obtain ⟨v, H1, I1, rx, a, dx, fs, ex, ea, l, q⟩ := y
  subst ex
  obtain rfl : u = Value.ref a := rx
  refine getmeth_ok I1 ea c hm l ?_
  refine PySem.W.callWith_KW0 (first := [.ref a]) (h₀ := X.base) I.ok.mod.kin hm.kp hall ?_ hpl
  refine thn (hkw.run pos pins s1 σ H1 _ I1 q) ?_
  intro ws s3 y
  obtain ⟨zs, H3, I3, rz, l1, l2, q3⟩ := y
  refine ⟨I3.kIn, ?_⟩
  rw [hks]
  exact runK (us := [.ref a]) (vs := [.ref a]) F z hb hx I3 (.cons rfl .nil) rz (by rw [List.length_singleton]) l2 q3
/-- a new instance, then its __init__ -/
def Made (C : Addr) (sp : Sp) (E : XK) (H : Hp) (Q : VK) (vs : Addr → List V) : Prop :=
  ∀ x dx, H x = none → H dx = none → dx ≠ x →
    sp (vs x) (upd (upd H dx (.own x)) x (.ins C dx [])) (fun v H2 => v = .non ∧ Q (.ref x) H2) E
theorem runM {vs : Addr → List V} (M : Mk X.K C f) (F : Fg X k f fd ps sp)
    (z : RoomG (k + 1) X.A) (hx : Ps X E) (I : Inv X pins σ H s) {us0 : List Value} {kw : List (Str × Value)}
    {us : Addr → List Value} (hb : ∀ (s : Shared) (x : Addr), X.K.In s.heap → BindsTo s fd ⟨.ref x :: us0, kw⟩ (ps.zip (us x)))
    (h : Made C sp E H Q vs)
    (rv : ∀ x, Vals (vs x) (us x)) :
    wpAny (model X.prog X.w) X.A (call (.ref C) us0 kw) (EP X pins σ Q) X.xe s := by
  have hq := h (s.heap.objs.size + 1) s.heap.objs.size (I.hok.fresh (Nat.le_succ _)) (I.hok.fresh (Nat.le_refl _))
    (Nat.ne_of_lt (Nat.lt_succ_self _))
  have I2 := Inv.made (C := C) I
  refine wpAny_call (make_map (f := f) I.kIn M.makes M.init (beq_iff_eq.mp M.fn) (codeAny_mono
    (F.run _ X.stack _ _ ⟨.ref (s.heap.objs.size + 1) :: us0, kw⟩ _ _ _ E (z.make C us0 kw)
      (I2.env0.make C us0 kw) (hb _ _ I2.kIn) (rv _) hq) ?_))
  intro r s' q
  match r, q with
  | .error e, q => exact hx pins σ _ _ e s' I2 q
  | .ok (.ret u), q =>
    obtain ⟨v, H', I3, rv, ev, q3⟩ := I2.after q
    subst ev
    exact ⟨rv, ⟨V.ref (s.heap.objs.size + 1), H', I3, rfl, q3⟩⟩
  | .ok .next, q => exact False.elim q
  | .ok .brk, q => exact False.elim q
  | .ok .cont, q => exact False.elim q
def tMk (C : Addr) (sp : Sp) (dvs : List V) (E : XK) (t : TA) : TE := fun σ H Q => t σ H fun vs H1 =>
  Made C sp E H1 Q fun x => .ref x :: (vs ++ dvs)
def tMkK (C : Addr) (n m : Nat) (sp : Sp) (gV : List V → List V → List V) (E : XK) (t tk : TA) : TE := fun σ H Q =>
  t σ H fun vs H1 => tk σ H1 fun zs H2 => vs.length = n ∧ zs.length = m ∧ Made C sp E H2 Q fun x => gV (.ref x :: vs) zs
theorem made_len {vs : Addr → List V} (F : Fg X k f fd ps sp) (I : Inv X pins σ H s) (h : Made C sp E H Q vs) :
    ∃ x, (vs x).length = ps.length := by
  have hq := h (s.heap.objs.size + 1) s.heap.objs.size (I.hok.fresh (Nat.le_succ _)) (I.hok.fresh (Nat.le_refl _))
    (Nat.ne_of_lt (Nat.lt_succ_self _))
  exact ⟨_, F.len _ _ _ _ hq⟩
theorem mk1 (M : Mk X.K C f) (F : Fg X k f fd ps sp) (z : RoomG (k + 1) X.A) (hg : Gl X x)
    (hm : X.mg x = some (.ref C)) (hb : BindsD X.K fd ps dvs) (hx : Ps X E) (ha : PA X (e :: es) t)
    (hdb : (x == ("__debug__" : Str)) = false := by decide)
    (he : starEach (e :: es) X.env = (false, eval e X.env) :: starEach es X.env := by rfl)
    (hpl : (backTo pos (starEach es X.env)).any (·.1) = false := by rfl) :
    PE X (.Call (.Name x p) (e :: es) [] pos) (tMk C sp dvs E t) := by
  obtain ⟨ds, hd, hb⟩ := hb
  constructor
  intro pins s σ H Q I h
  refine wpAny_Call_Name_kw (ld_glob I hg hm ?_ hdb)
  refine PySem.W.callWith_K (h₀ := X.base) I.ok.mod.kin M.kp ?_ he hpl
  refine thn (ha.run pos pins s σ H _ I h) ?_
  intro us s1 y
  obtain ⟨vs, H1, I1, r, q⟩ := y
  refine ⟨I1.kIn, ?_⟩
  obtain ⟨x0, hl⟩ := made_len F I1 q
  refine runM (us := fun x => .ref x :: (us ++ ds)) M F z hx I1 ?_ q (fun x => .cons rfl (r.append hd))
  intro s2 x2 kin
  refine hb s2 (.ref x2 :: us) kin ?_
  rw [← hl]
  have e1 := r.length
  have e2 := hd.length
  simp only [List.length_cons, List.length_append, List.cons_append] at *
  omega
theorem mk0 (M : Mk X.K C f) (F : Fg X k f fd ps sp) (z : RoomG (k + 1) X.A) (hg : Gl X x)
    (hm : X.mg x = some (.ref C)) (hb : BindsD X.K fd ps dvs) (hx : Ps X E)
    (hdb : (x == ("__debug__" : Str)) = false := by decide) :
    PE X (.Call (.Name x p) [] [] pos) (tMk C sp dvs E tNil) := by
  obtain ⟨ds, hd, hb⟩ := hb
  constructor
  intro pins s σ H Q I h
  refine wpAny_Call_Name_kw (ld_glob I hg hm ?_ hdb)
  refine PySem.W.callWith_K0 I.kIn M.kp ?_
  obtain ⟨x0, hl⟩ := made_len F I h
  refine runM (us0 := []) (us := fun x => .ref x :: ([] ++ ds)) M F z hx I ?_ h (fun x => .cons rfl (Vals.append .nil hd))
  intro s2 x2 kin
  refine hb s2 [.ref x2] kin ?_
  rw [← hl]
  have e2 := hd.length
  simp only [List.length_cons, List.length_append, List.cons_append, List.length_nil, List.nil_append] at *
  omega
theorem mkK (M : Mk X.K C f) (F : Fg X k f fd ps sp) (z : RoomG (k + 1) X.A) (hg : Gl X x)
    (hm : X.mg x = some (.ref C)) (hb : KBnD X.K fd ps (n + 1) ks gV) (hx : Ps X E) (ha : PA X (e :: es) t)
    (hkw : PK X kws tk)
    (hall : (backToKw pos (keywordEach kws X.env)).all (·.1.isSome) = true := by rfl)
    (hks : (backToKw pos (keywordEach kws X.env)).filterMap (·.1) = ks := by rfl)
    (hdb : (x == ("__debug__" : Str)) = false := by decide)
    (he : starEach (e :: es) X.env = (false, eval e X.env) :: starEach es X.env := by rfl)
    (hpl : ((backTo pos (starEach (e :: es) X.env)).any (·.1) ||
      (backToKw pos (keywordEach kws X.env)).any (·.1.isNone)) = false := by rfl) :
    PE X (.Call (.Name x p) (e :: es) kws pos) (tMkK C n ks.length sp gV E t tk) := by
  obtain ⟨g, hb⟩ := hb
  constructor
  intro pins s σ H Q I h
  refine wpAny_Call_Name_kw (ld_glob I hg hm ?_ hdb)
  refine PySem.W.callWith_KW (h₀ := X.base) I.ok.mod.kin M.kp hall ?_ hpl he
  refine thn (ha.run pos pins s σ H _ I h) ?_
  intro us s1 y
  obtain ⟨vs, H1, I1, r, q⟩ := y
  refine thn (hkw.run pos pins s1 σ H1 _ I1 q) ?_
  intro ws s2 y
  obtain ⟨zs, H2, I2, rz, l1, l2, q2⟩ := y
  refine ⟨I2.kIn, ?_⟩
  rw [hks]
  refine runM (us := fun x => g (.ref x :: us) ws) M F z hx I2 ?_ q2 (fun x => hb.rel (.cons rfl r) rz)
  intro s3 x3 kin
  refine hb.to s3 (.ref x3 :: us) ws kin ?_ (rz.length.symm.trans l2)
  rw [List.length_cons, ← r.length, l1]
theorem mkK0 (M : Mk X.K C f) (F : Fg X k f fd ps sp) (z : RoomG (k + 1) X.A) (hg : Gl X x)
    (hm : X.mg x = some (.ref C)) (hb : KBnD X.K fd ps 1 ks gV) (hx : Ps X E)
    (hkw : PK X kws tk)
    (hall : (backToKw pos (keywordEach kws X.env)).all (·.1.isSome) = true := by rfl)
    (hks : (backToKw pos (keywordEach kws X.env)).filterMap (·.1) = ks := by rfl)
    (hdb : (x == ("__debug__" : Str)) = false := by decide)
    (hpl : ((backTo pos (starEach [] X.env)).any (·.1) ||
      (backToKw pos (keywordEach kws X.env)).any (·.1.isNone)) = false := by rfl) :
    PE X (.Call (.Name x p) [] kws pos) (tMkK C 0 ks.length sp gV E tNil tk) := by
  obtain ⟨g, hb⟩ := hb
  constructor
  intro pins s σ H Q I h
  refine wpAny_Call_Name_kw (ld_glob I hg hm ?_ hdb)
  refine PySem.W.callWith_KW0 (h₀ := X.base) I.ok.mod.kin M.kp hall ?_ hpl
  refine thn (hkw.run pos pins s σ H _ I h) ?_
  intro ws s2 y
  obtain ⟨zs, H2, I2, rz, l1, l2, q2⟩ := y
  refine ⟨I2.kIn, ?_⟩
  rw [hks]
  refine runM (us0 := []) (us := fun x => g [.ref x] ws) M F z hx I2 ?_ q2 (fun x => hb.rel (.cons rfl .nil) rz)
  intro s3 x3 kin
  exact hb.to s3 [.ref x3] ws kin rfl (rz.length.symm.trans l2)
end
section
variable {P : Program} {w : World} {K : PySem.W.Frag} {mg : Str → Option Value} {base : Heap}
theorem okD {x qual : Str} {params : Arguments} {body : List Stmt} {scope : Scope} {dvs : List V} {kws : List (Str × V)}
    {f : Addr} {fd : FuncData} {N ps : List Str} {k : Nat} {sp : Sp}
    (F : FunD K x qual params body scope dvs kws f fd) (S : FnScope N ps scope)
    (len : ∀ vs H Q E, sp vs H Q E → vs.length = ps.length)
    (hb : ∀ (cdv : Value) (A : Around) (outer : List Env) (s : Shared) (H : Hp) (vs : List V)
      (Q : VK) (E : XK), RoomG k (A.deeper (envOfC qual scope s.heap.objs.size f cdv)) →
      sp vs H Q E →
      ∃ t, PSs (cxOf (L2.CX P w) P w K mg base N qual scope f cdv A outer s H E) body t ∧
        t { nx := fun _ H' => Q .non H', rt := Q } (start N vs) H) :
    FnG P w K mg base (k + 1) f fd ps sp := by
  obtain ⟨oc, od, dV, kV, doc, pm, an, cdv, ct, osl, rfl, lk, hcd, _, _⟩ := F.ex
  exact FnG.body lk hcd S len fun A outer s H vs Q E z h => hb cdv A outer s H vs Q E z h
end
/-! readings of these -/
section
variable {K : PySem.W.Frag} {σ : L2.St} {H : Hp} {Q : VK} {D : Ends} {a C dx p : Addr} {fs : List (Str × V)} {f m : Str} {v : V}
variable {ta tv : TE} {t tk : TA} {sp : Sp} {E : XK} {vs zs : List V} {gV : List V → List V → List V} {n k : Nat}
def MethR (C : Addr) (m : Str) (sp : Sp) (E : XK) (t : TA) (σ : L2.St) (x : V) (H1 : Hp) (Q : VK) : Prop :=
  ∃ a dx fs, x = .ref a ∧ H1 a = some (.ins C dx fs) ∧ fs.lookup m = none ∧ t σ H1 fun vs H2 => sp (x :: vs) H2 Q E
theorem i_meth (h : ta σ H fun x H1 => MethR C m sp E t σ x H1 Q) : tMeth C m sp [] E ta t σ H Q := by
  unfold tMeth
  simp only [List.append_nil]
  exact h
theorem i_methR (ho : H a = some (.ins C dx fs)) (hl : fs.lookup m = none)
    (h : t σ H fun vs H2 => sp (.ref a :: vs) H2 Q E) : MethR C m sp E t σ (.ref a) H Q := ⟨a, dx, fs, rfl, ho, hl, h⟩
def MethW (C : Addr) (nm : Str) (n m : Nat) (sp : Sp) (gV : List V → List V → List V) (E : XK) (t tk : TA) (σ : L2.St) (x : V)
    (H1 : Hp) (Q : VK) : Prop := ∃ a dx fs, x = .ref a ∧ H1 a = some (.ins C dx fs) ∧ fs.lookup nm = none ∧
    t σ H1 fun vs H2 => tk σ H2 fun zs H3 => vs.length = n ∧ zs.length = m ∧ sp (gV (x :: vs) zs) H3 Q E
theorem i_methW (h : ta σ H fun x H1 => MethW C m n k sp gV E t tk σ x H1 Q) : tMw C m n k sp gV E ta t tk σ H Q := h
theorem i_methWR (ho : H a = some (.ins C dx fs)) (hl : fs.lookup m = none)
    (h : t σ H fun vs H2 => tk σ H2 fun zs H3 => vs.length = n ∧ zs.length = k ∧ sp (gV (.ref a :: vs) zs) H3 Q E) :
    MethW C m n k sp gV E t tk σ (.ref a) H Q := ⟨a, dx, fs, rfl, ho, hl, h⟩
theorem i_lens {P : Prop} (h1 : vs.length = n) (h2 : zs.length = k) (h : P) : vs.length = n ∧ zs.length = k ∧ P := ⟨h1, h2, h⟩
theorem i_kw (h : t σ H fun vs H1 => tk σ H1 fun zs H2 => vs.length = n ∧ zs.length = k ∧ sp (gV vs zs) H2 Q E) :
    tKw n k sp gV E t tk σ H Q := h
theorem i_mk (h : t σ H fun vs H1 => Made C sp E H1 Q fun x => .ref x :: vs) : tMk C sp [] E t σ H Q := by
  unfold tMk
  simp only [List.append_nil]
  exact h
theorem i_mkD {dvs : List V} (h : t σ H fun vs H1 => Made C sp E H1 Q fun x => .ref x :: (vs ++ dvs)) : tMk C sp dvs E t σ H Q := h
theorem i_mkK (h : t σ H fun vs H1 => tk σ H1 fun zs H2 => vs.length = n ∧ zs.length = k ∧
    Made C sp E H2 Q fun x => gV (.ref x :: vs) zs) : tMkK C n k sp gV E t tk σ H Q := h
/-- an attribute -/
def FldR (K : PySem.W.Frag) (f : Str) (x : V) (H1 : Hp) (Q : VK) : Prop := ∃ a C dx fs v, x = .ref a ∧
  H1 a = some (.ins C dx fs) ∧ Cls K C ∧ NoAttr K C f ∧ fs.lookup f = some v ∧ Q v H1
theorem i_fld (h : ta σ H fun x H1 => FldR K f x H1 Q) : tFld K ta f σ H Q := h
theorem i_fldR (ho : H a = some (.ins C dx fs)) (c : Cls K C) (n : NoAttr K C f) (hl : fs.lookup f = some v)
    (h : Q v H) : FldR K f (.ref a) H Q := ⟨a, C, dx, fs, v, rfl, ho, c, n, hl, h⟩
def FldS (K : PySem.W.Frag) (f : Str) (y x : V) (D : Ends) (σ : L2.St) (H2 : Hp) : Prop := ∃ a C dx fs, x = .ref a ∧
  H2 a = some (.ins C dx fs) ∧ Cls K C ∧ NoAttr K C f ∧ fs.length < 1000 ∧ D.nx σ (upd H2 a (.ins C dx (putF f y fs)))
theorem i_fldS (h : tv σ H fun y H1 => ta σ H1 fun x H2 => FldS K f y x D σ H2) : sFld K ta tv f D σ H := h
theorem i_fldSR {y : V} (ho : H a = some (.ins C dx fs)) (c : Cls K C) (n : NoAttr K C f) (hl : fs.length < 1000)
    (h : D.nx σ (upd H a (.ins C dx (putF f y fs)))) : FldS K f y (.ref a) D σ H := ⟨a, C, dx, fs, rfl, ho, c, n, hl, h⟩
end
end G
namespace G
open PySem PySem.Spec PyProof.Rows L2
/-! the facts of the top -/
section
variable {K : PySem.W.Frag} {x qual : Str} {st : Stmt} {f D : Addr} {oc : Value} {od an : Option Addr} {osl : Array (Option Value)}
variable {kV doc pm cdv ct : Value} {ps : List Str}
theorem fund0 (l : K.lookup f = some ⟨oc, od, .func (PySem.W.fnOf x qual (defArgs st) (defBody st)
      (defScope st) .none kV doc pm an cdv ct), osl⟩)
    (c : PySem.W.codeIn K cdv qual = true) (k : PySem.W.keepIn K (.ref f) = true) :
    FunD K x qual (defArgs st) (defBody st) (defScope st) [] [] f
      (PySem.W.fnOf x qual (defArgs st) (defBody st) (defScope st) .none kV doc pm an cdv ct) :=
  ⟨⟨oc, od, .none, kV, doc, pm, an, cdv, ct, osl, rfl, l, c, .inl ⟨rfl, rfl⟩, .inl rfl⟩, k⟩
theorem fund1 {kws : List (Str × V)} (l : K.lookup f = some ⟨oc, od, .func (PySem.W.fnOf x qual (defArgs st) (defBody st)
      (defScope st) .none (.ref D) doc pm an cdv ct), osl⟩)
    (c : PySem.W.codeIn K cdv qual = true) (k : PySem.W.keepIn K (.ref f) = true)
    (q : ∀ q ∈ kws, ∃ u, PySem.W.nsIn K D q.1 = some (some u) ∧ RelV q.2 u) :
    FunD K x qual (defArgs st) (defBody st) (defScope st) [] kws f
      (PySem.W.fnOf x qual (defArgs st) (defBody st) (defScope st) .none (.ref D) doc pm an cdv ct) :=
  ⟨⟨oc, od, .none, .ref D, doc, pm, an, cdv, ct, osl, rfl, l, c, .inl ⟨rfl, rfl⟩, .inr ⟨D, rfl, q⟩⟩, k⟩
theorem kw_one {nm : Str} {v : V} {u : Value} (e : PySem.W.nsIn K D nm = some (some u)) (r : RelV v u) :
    ∀ q ∈ [(nm, v)], ∃ u, PySem.W.nsIn K D q.1 = some (some u) ∧ RelV q.2 u := fun q hq => by
  rw [List.mem_singleton.mp hq]
  exact ⟨u, e, r⟩
theorem kw_more {nm : Str} {v : V} {u : Value} {l : List (Str × V)} (e : PySem.W.nsIn K D nm = some (some u)) (r : RelV v u)
    (h : ∀ q ∈ l, ∃ u, PySem.W.nsIn K D q.1 = some (some u) ∧ RelV q.2 u) :
    ∀ q ∈ (nm, v) :: l, ∃ u, PySem.W.nsIn K D q.1 = some (some u) ∧ RelV q.2 u := fun q hq => by
  rcases List.mem_cons.mp hq with z | z
  · rw [z]
    exact ⟨u, e, r⟩
  · exact h q z
/-- positional values, then by places of what the keywords and the defaults give -/
def gp (idx : List Nat) {α : Type} (vs mz zs : List α) : List α := vs ++ idx.filterMap fun i => (zs ++ mz)[i]?
theorem vals_idx {vs : List V} {us : List Value} (r : Vals vs us) : ∀ idx : List Nat,
    Vals (idx.filterMap fun i => vs[i]?) (idx.filterMap fun i => us[i]?)
  | [] => .nil
  | i :: idx => by
    have ih := vals_idx r idx
    cases e : vs[i]? with
    | none =>
      have e2 := Vals.none_of r e
      rw [List.filterMap_cons_none e, List.filterMap_cons_none e2]
      exact ih
    | some v =>
      obtain ⟨u, e2, q⟩ := Vals.get r e
      rw [List.filterMap_cons_some e, List.filterMap_cons_some e2]
      exact .cons q ih
theorem gp_rel (idx : List Nat) {vs mz zs : List V} {us mv ws : List Value} (r : Vals vs us) (r1 : Vals mz mv) (r2 : Vals zs ws) :
    Vals (gp idx vs mz zs) (gp idx us mv ws) := r.append (vals_idx (r2.append r1) idx)
variable {params : Arguments} {body : List Stmt} {scope : Scope} {fd : FuncData} {kws : List (Str × V)}
theorem bindN (F : FunD K x qual params body scope [] [] f fd)
    (h : ∀ (kV doc pm : Value) (an : Option Addr) (cdv ct : Value) (us : List Value), us.length = ps.length →
      bindArgs (PySem.W.fnOf x qual params body scope .none kV doc pm an cdv ct) ⟨us, []⟩ = pure (ps.zip us)) :
    BindsD K fd ps [] := BindsD.plain (F.bindsN h)
theorem bindK (F : FunD K x qual params body scope [] kws f fd) (n : Nat) (hk : kws ≠ []) (hn : n + kws.length = ps.length)
    (h : ∀ (D : Addr) (doc pm : Value) (an : Option Addr) (cdv ct : Value) (us ks : List Value), us.length = n →
      ks.length = kws.length → KwChain D ((kws.map (·.1)).zip ks)
        (bindArgs (PySem.W.fnOf x qual params body scope .none (.ref D) doc pm an cdv ct) ⟨us, []⟩) (ps.zip (us ++ ks))) :
    BindsD K fd ps (kws.map (·.2)) := F.binds0 n hk hn h
theorem kbN (F : FunD K x qual params body scope [] [] f fd) (n : Nat) (ks : List Str) (idx : List Nat)
    (h : ∀ (kV doc pm : Value) (an : Option Addr) (cdv ct : Value) (us ws : List Value), us.length = n →
      ws.length = ks.length → bindArgs (PySem.W.fnOf x qual params body scope .none kV doc pm an cdv ct) ⟨us, ks.zip ws⟩ =
        pure (ps.zip (gp idx us [] ws))) : KBnD K fd ps n ks (fun vs zs => gp idx vs [] zs) := by
  refine ⟨fun us ws => gp idx us [] ws, ?_, fun r1 r2 => gp_rel idx r1 .nil r2⟩
  intro s us ws kin l1 l2
  obtain ⟨oc, od, dV, kV, doc, pm, an, cdv, ct, osl, rfl, lk, hcd, hD, hK⟩ := F.ex
  rcases hD with ⟨_, rfl⟩ | ⟨e, _⟩
  · exact .of_eq (h kV doc pm an cdv ct us ws l1 l2)
  · exact absurd rfl e
theorem kbK (F : FunD K x qual params body scope [] kws f fd) (n : Nat) (ks : List Str) (ms : List (Str × V)) (idx : List Nat)
    (hk : kws ≠ []) (hms : ∀ q ∈ ms, q ∈ kws)
    (h : ∀ (D : Addr) (doc pm : Value) (an : Option Addr) (cdv ct : Value) (us mv ws : List Value), us.length = n →
      mv.length = ms.length → ws.length = ks.length → KwChain D ((ms.map (·.1)).zip mv)
        (bindArgs (PySem.W.fnOf x qual params body scope .none (.ref D) doc pm an cdv ct) ⟨us, ks.zip ws⟩)
        (ps.zip (gp idx us mv ws))) : KBnD K fd ps n ks (fun vs zs => gp idx vs (ms.map (·.2)) zs) := by
  obtain ⟨mv, h⟩ := F.kbinds0 n ks ms (fun vs mz zs => gp idx vs mz zs) hk hms (fun r r1 r2 => gp_rel idx r r1 r2) h
  exact ⟨_, h⟩
end
end G
namespace G
open PySem PySem.Spec PyProof.Rows L2
section
variable {X : Cx} {K : PySem.W.Frag} {k n : Nat} {f C : Addr} {fd : FuncData} {ps : List Str} {sp : Sp}
variable {dvs : List V} {E : XK} {x m : Str} {p pos pos' : Pos} {e o value : Expr} {fl : Str} {ta tv : TE}
theorem d0 (F : Fg X k f fd ps sp) (z : RoomG k X.A) (hg : Gl X x) (hm : X.mg x = some (.ref f))
    (hk : PySem.W.keepIn X.K (.ref f) = true) (hb : BindsD X.K fd ps dvs)
    (hx : Ps X E) (hdb : (x == ("__debug__" : Str)) = false := by decide) :
    PE X (.Call (.Name x p) [] [] pos) (tCall sp dvs E tNil) := by
  obtain ⟨ds, hd, hb⟩ := hb
  exact c0 F z hg hm hk hb hd hx hdb
theorem k_sfld (h : X.K = K) (ha : PE X o ta) (hv : PE X value tv)
    (hs : swapsWith value (some (.Attribute o fl pos')) pos.line X.env = pure false) :
    PS X (.Assign [.Attribute o fl pos'] value pos) (sFld K ta tv fl) := h ▸ ps_fld ha hv hs
theorem k_pzip {e2 : Expr} {t : TA} {tpos : Pos} {elts : List Expr} {kk : Nat} (h : X.K = K) (hg : Gl X "zip") (hm : X.mg "zip" = none)
    (ha : PA X [e, e2] t) (hs : starEach [e, e2] X.env = (false, eval e X.env) :: starEach [e2] X.env := by rfl)
    (hpl : (backTo pos (starEach [e2] X.env)).any (·.1) = false := by rfl) :
    PI X (.Tuple elts kk tpos) (.Call (.Name "zip" p) [e, e2] [] pos) (iZip K t) := h ▸ pi_zip hg hm ha hs hpl
end
section
variable {K : PySem.W.Frag} {σ : L2.St} {H H1 : Hp} {Q : VK} {D : Ends} {tb : TS} {te : TE} {tt : TT} {g : TG}
variable {a b p q l C dx : Addr} {xs ys vs us : List V} {v x y : V} {fs : List (Str × V)} {f m : Str} {t ta : TE} {tr : TA} {sp : Sp} {E : XK}
variable {dvs : List V} {vn : List Nat}
theorem i_methD {t : TA} (h : ta σ H fun x H1 => MethR C m sp E (fun σ H Q => t σ H fun vs H' => Q (vs ++ dvs) H') σ x H1 Q) :
    tMeth C m sp dvs E ta t σ H Q := h
theorem i_isNn (h : Q (.bl true) H) : rIsN .non .non H Q := ⟨rfl, h⟩
theorem i_isNr (h : Q (.bl false) H) : rIsN (.ref a) .non H Q := ⟨rfl, h⟩
theorem i_isNi {n : Int} (h : Q (.bl false) H) : rIsN (.int n) .non H Q := ⟨rfl, h⟩
theorem i_notNn (h : Q (.bl false) H) : rNotN .non .non H Q := ⟨rfl, h⟩
theorem i_notNr (h : Q (.bl true) H) : rNotN (.ref a) .non H Q := ⟨rfl, h⟩
theorem i_notNi {n : Int} (h : Q (.bl true) H) : rNotN (.int n) .non H Q := ⟨rfl, h⟩
/-- a for over zip of two lists -/
def ForZ (K : PySem.W.Frag) (ws : List V) (g : TG) (tb : TS) (D : Ends) (σ : L2.St) (H : Hp) : Prop :=
  ∃ a b xs ys, ws = [.ref a, .ref b] ∧ SqL K H a xs ∧ SqL K H b ys ∧ ∃ W : Nat → Nat → L2.St → Hp → Prop,
    (∃ m, W 0 m σ H) ∧ ∀ i m σ H, W i m σ H → ((Itz K a b).stop i H ∧ D.nx σ H) ∨
      ((Itz K a b).go i H ∧ ∃ Nx : L2.St → Hp → Prop,
        (∀ σ' H', Nx σ' H' → ∃ m', m' < m ∧ W (i + 1) m' σ' H') ∧
        ∀ x H', (Itz K a b).yld i H x H' → g x σ H' fun σ2 H2 =>
          tb { D with nx := Nx, ct := Nx, bk := D.nx } σ2 H2)
theorem i_forZ (h : tr σ H fun ws H1 => ForZ K ws g tb D σ H1) : tFor (iZip K tr) g tb D σ H := h
theorem i_both (hx : SqL K H a xs) (hy : SqL K H b ys) (Pv : Nat → L2.St → Hp → Prop) (h0 : Pv 0 σ H)
    (hl : ∀ i σ H, Pv i σ H → SqL K H a xs ∧ SqL K H b ys)
    (st : ∀ i x y T σ H, xs[i]? = some x → ys[i]? = some y → Pv i σ H → Fr H T → g (.ref T) σ (upd H T (.tup [x, y])) fun σ2 H2 =>
      tb { D with nx := Pv (i + 1), ct := Pv (i + 1), bk := D.nx } σ2 H2)
    (hd : ∀ σ H, Pv (min xs.length ys.length) σ H → D.nx σ H) : ForZ K [.ref a, .ref b] g tb D σ H := by
  refine ⟨a, b, xs, ys, rfl, hx, hy, fun i m σ H => m = min xs.length ys.length - i ∧ i ≤ min xs.length ys.length ∧ Pv i σ H,
    ⟨_, rfl, Nat.zero_le _, h0⟩, ?_⟩
  rintro i m σ H ⟨rfl, hi, z⟩
  obtain ⟨qx, qy⟩ := hl i σ H z
  by_cases c : i < min xs.length ys.length
  · have c1 : i < xs.length := by omega
    have c2 : i < ys.length := by omega
    refine .inr ⟨⟨xs, ys, _, _, qx, qy, List.getElem?_eq_getElem c1, List.getElem?_eq_getElem c2⟩, Pv (i + 1),
      fun σ' H' w => ⟨_, by omega, rfl, by omega, w⟩, ?_⟩
    rintro v H' ⟨T, x', y', rfl, hT, rfl, f1, f2⟩
    exact st i x' y' T σ H (f1 xs qx) (f2 ys qy) z ⟨hT⟩
  · have e : i = min xs.length ys.length := by omega
    refine .inl ⟨⟨xs, ys, qx, qy, by omega⟩, hd σ H (by rw [← e]; exact z)⟩
/-- a comprehension over zip of two lists -/
def LcZ (K : PySem.W.Frag) (ws : List V) (g : TG) (tt : TT) (te : TE) (vs : List Nat) (σ : L2.St) (H1 : Hp) (Q : VK) : Prop :=
  ∃ a b xs ys, ws = [.ref a, .ref b] ∧ SqL K H1 a xs ∧ SqL K H1 b ys ∧ ∀ D, H1 D = none →
    ∃ W : Nat → Nat → Hp → Prop, (∃ m, W 0 m (upd H1 D (.lst []))) ∧ ∀ i m H, W i m H →
      ((Itz K a b).stop i H ∧ Q (.ref D) H) ∨ ((Itz K a b).go i H ∧ ∃ Nx : Hp → Prop,
        (∀ H', Nx H' → ∃ m', m' < m ∧ W (i + 1) m' H') ∧
        ∀ x H', (Itz K a b).yld i H x H' → g x (wipe σ vs) H' fun σ2 H2 => wipe σ2 vs = wipe σ vs ∧ tt σ2 H2 fun b H3 =>
          if b = true then te σ2 H3 fun y H4 => ∃ acc, H4 D = some (.lst acc) ∧ acc.length < sizeLine ∧
            Nx (upd H4 D (.lst (acc ++ [y]))) else Nx H3)
theorem i_lcZ (h : tr σ H fun ws H1 => LcZ K ws g tt te vn σ H1 Q) : tLc (iZip K tr) g tt te vn σ H Q := h
theorem i_eltz (hx : SqL K H a xs) (hy : SqL K H b ys) (Pv : Addr → Nat → Hp → Prop)
    (h0 : ∀ D, Fr H D → Pv D 0 (upd H D (.lst [])))
    (hl : ∀ D i H', Fr H D → Pv D i H' → SqL K H' a xs ∧ SqL K H' b ys)
    (st : ∀ D i x y T H', Fr H D → xs[i]? = some x → ys[i]? = some y → Pv D i H' → Fr H' T →
      g (.ref T) (wipe σ vn) (upd H' T (.tup [x, y])) fun σ2 H2 =>
      wipe σ2 vn = wipe σ vn ∧ tt σ2 H2 fun b H3 => if b = true then te σ2 H3 fun y H4 =>
        ∃ acc, H4 D = some (.lst acc) ∧ acc.length < sizeLine ∧ Pv D (i + 1) (upd H4 D (.lst (acc ++ [y])))
        else Pv D (i + 1) H3)
    (hd : ∀ D H', Fr H D → Pv D (min xs.length ys.length) H' → Q (.ref D) H') : LcZ K [.ref a, .ref b] g tt te vn σ H Q := by
  refine ⟨a, b, xs, ys, rfl, hx, hy, fun D hD => ⟨fun i m H => m = min xs.length ys.length - i ∧ i ≤ min xs.length ys.length ∧ Pv D i H,
    ⟨_, rfl, Nat.zero_le _, h0 D ⟨hD⟩⟩, ?_⟩⟩
  rintro i m H ⟨rfl, hi, z⟩
  obtain ⟨qx, qy⟩ := hl D i H ⟨hD⟩ z
  by_cases c : i < min xs.length ys.length
  · have c1 : i < xs.length := by omega
    have c2 : i < ys.length := by omega
    refine .inr ⟨⟨xs, ys, _, _, qx, qy, List.getElem?_eq_getElem c1, List.getElem?_eq_getElem c2⟩, Pv D (i + 1),
      fun H' w => ⟨_, by omega, rfl, by omega, w⟩, ?_⟩
    rintro v H' ⟨T, x', y', rfl, hT, rfl, f1, f2⟩
    exact st D i x' y' T H ⟨hD⟩ (f1 xs qx) (f2 ys qy) z ⟨hT⟩
  · have e : i = min xs.length ys.length := by omega
    refine .inl ⟨⟨xs, ys, qx, qy, by omega⟩, hd D H ⟨hD⟩ (by rw [← e]; exact z)⟩
/-- [v] * n -/
theorem i_rep {n : Int} (h : H l = some (.lst [v])) (h0 : 0 ≤ n) (h1 : n ≤ 1000000)
    (q : New H fun p => Q (.ref p) (upd H p (.lst (List.replicate n.toNat v)))) : rRep (.ref l) (.int n) H Q := by
  refine ⟨l, n, [v], rfl, rfl, h, by omega, by omega, ?_, fun p hp => ?_⟩
  · have e : ([v] : List V).length * n.toNat ≤ 1000000 := by
      rw [List.length_singleton]
      omega
    exact Nat.le_trans e (by decide)
  · have e : (List.replicate n.toNat [v]).flatten = List.replicate n.toNat v := by
      induction n.toNat with
      | zero => rfl
      | succ k ih => rw [List.replicate_succ, List.flatten_cons, ih, List.replicate_succ]; rfl
    rw [e]
    exact q p hp
/-- an object's entry -/
theorem Kp.upi {ws : List Addr} {H0 H1 : Hp} (k : Kp ws H0 H1) (h : H1 p = some (.ins C dx fs)) (hp : p ∈ ws) {o : HO} : Kp ws H0 (L2.upd H1 p o) :=
  k.trans (Kp.mut h (fun z => z) hp)
end
/-! ### runs and cells -/
def cells (ps : List (Int × Int)) : List Int := ps.flatMap fun p => List.replicate p.1.toNat p.2
def tag (c : Int) : Int × Int := (1, c)
end G
namespace G
open PySem PySem.Spec PyProof.Rows L2
section
variable {K : PySem.W.Frag} {σ : L2.St} {H H1 : Hp} {Q : VK} {a b p q l m C dx : Addr} {xs ys : List V} {fs : List (Str × V)} {o : HO}
variable {ds : List PyData} {ws : List Addr}
theorem i_addL (hx : H a = some (.lst xs)) (hy : H b = some (.lst ys)) (hz : xs.length + ys.length ≤ 1000000)
    (h : New H fun p => Q (.ref p) (upd H p (.lst (xs ++ ys)))) : uAdd K (.ref a) (.ref b) H Q :=
  .inr (.inr (.inl ⟨a, b, xs, ys, rfl, rfl, hx, hy, Nat.le_trans hz (by decide), h⟩))
theorem ld_ins (h : LD K H l ds) (hi : imms ds = true) (hq : H q = some (.ins C dx fs)) : LD K (upd H q o) l ds := by
  have k : Kp [q] H (L2.upd H q o) := Kp.mut hq (fun z => z) List.mem_cons_self
  refine h.kp k hi (not_one ?_)
  obtain ⟨vs, e, _⟩ := h
  intro z
  rw [z, hq] at e
  cases e
end
end G
namespace G
open L2 PySem
theorem fs_few {fs : List (Str × V)} (h : fs.length.blt 1000 = true) : fs.length < 1000 := by
  rw [Nat.blt_eq] at h
  exact h
end G
namespace G
open L2 PySem
theorem ld_push {K : PySem.W.Frag} {H0 H1 : Hp} {l : Addr} {vs : List V} {y : V} {ds : List PyData} {d : PyData} {ws : List Addr}
    (kp : Kp ws H0 H1) (h : DpAll K H0 vs ds) (hi : imms ds = true) (hv : H1 l = some (.lst (vs ++ [y]))) (hd : Dp K H1 y d) :
    LD K H1 l (ds ++ [d]) := ⟨_, hv, dpa_app (dpa_imm kp _ _ hi h) (dpa_one hd)⟩
end G
namespace G
open PySem PySem.Spec PyProof.Rows L2
/-! slices: read and written -/
section
variable {X : Cx} {o : Expr} {lo hi : Option Expr} {to : TE} {tl th : TO} {pos p2 : Pos}
def CutS (x : V) (i j : Option Int) (v : V) (H : Hp) (P : Hp → Prop) : Prop := ∃ l b xs ys a c, x = .ref l ∧ v = .ref b ∧
  i = some a ∧ j = some c ∧ H l = some (.lst xs) ∧ H b = some (.lst ys) ∧ l ≠ b ∧ 0 ≤ a ∧ a ≤ c ∧ c ≤ xs.length ∧
  xs.length + ys.length ≤ sizeLine ∧ P (upd H l (.lst (xs.take a.toNat ++ ys ++ xs.drop c.toNat)))
def gCut (to : TE) (tl th : TO) : TG := fun v σ H S => to σ H fun x H1 => tl σ H1 fun i H2 => th σ H2 fun j H3 =>
  CutS x i j v H3 fun H4 => S σ H4
theorem pg_cut (ho : PE X o to) (hl : PO X lo tl) (hu : PO X hi th)
    (ha : ∀ v, assign (.Subscript o (.Slice lo hi none p2) pos) X.env v = (do
      let ov ← holding [v] (eval o X.env)
      let iv ← holding [v, ov] (eval (.Slice lo hi none p2) X.env)
      standAt pos
      holding [v, ov, iv] (setItem ov iv v)
      release [iv, v, ov] []) := by intro _; rfl) :
    PG X (.Subscript o (.Slice lo hi none p2) pos) (gCut to tl th) := by
  constructor
  intro pins s σ H v u Q I r h
  rw [ha]
  refine wpAny_bind (wpAny_holding (thn (ho.run pins s σ H _ I h) ?_))
  rintro ov s1 ⟨x, H1, I1, r1, q1⟩
  refine wpAny_bind (wpAny_holding (PySem.wpAny_Slice (thn (hl.run pins s1 σ H1 _ I1 q1) ?_)))
  rintro vl s2 ⟨i, H2, I2, pl, q2⟩
  refine thn (hu.run pins s2 σ H2 _ I2 q2) ?_
  rintro vu s3 ⟨j, H3, I3, pu, q3⟩
  rw [evalPart_none]
  refine wpAny_pure ?_
  have I4 : Inv X pins σ H3 { s3 with heap := s3.heap.push { cls := .type "slice", data := .fields #[vl, vu, .none] } } :=
    I3.kept (t' := s3.toks) fun b ob z => Heap.get?_push_of_some _ z
  obtain ⟨l, b, xs, ys, a, c, rfl, rfl, rfl, rfl, e1, e2, ne, h0, hac, hc, hz, q⟩ := q3
  cases r1
  cases r
  cases pl
  rename_i ta
  cases pu
  rename_i tc
  refine wpAny_bind (wpAny_standAt (wpAny_bind (wpAny_holding ?_)))
  refine set_slice I4 e1 e2 ne (Heap.IsSliceOf.new ..) ⟨ta, rfl⟩ ⟨tc, rfl⟩ h0 hac hc hz ?_
  intro s5 I5
  exact wpAny_release ⟨σ, _, I5, q⟩
end
section
variable {K : PySem.W.Frag} {σ : L2.St} {H : Hp} {Q : VK} {a b l : Addr} {xs ys : List V} {r : V → Option Int → Option Int → Hp → VK → Prop}
variable {te to : TE} {tl th : TO} {P : Hp → Prop} {S : L2.St → Hp → Prop} {v x : V} {lo hi : Option Int} {R : Option Int → Hp → Prop}
theorem i_gCut (h : to σ H fun x H1 => tl σ H1 fun i H2 => th σ H2 fun j H3 => CutS x i j v H3 fun H4 => S σ H4) :
    gCut to tl th v σ H S := h
theorem i_cutS {i j : Int} (h1 : H l = some (.lst xs)) (h2 : H b = some (.lst ys)) (ne : l ≠ b) (h0 : 0 ≤ i ∧ i ≤ j ∧ j ≤ xs.length)
    (hz : xs.length + ys.length ≤ 1000000) (q : P (upd H l (.lst (xs.take i.toNat ++ ys ++ xs.drop j.toNat)))) :
    CutS (.ref l) (some i) (some j) (.ref b) H P :=
  ⟨l, b, xs, ys, i, j, rfl, rfl, rfl, rfl, h1, h2, ne, h0.1, h0.2.1, h0.2.2, Nat.le_trans hz (by decide), q⟩
theorem i_sl (h : te σ H fun x H1 => tl σ H1 fun l H2 => th σ H2 fun u H3 => r x l u H3 Q) : tSl r te tl th σ H Q := h
theorem i_part (h : te σ H fun x H1 => ∃ i, x = .int i ∧ R (some i) H1) : tPart te σ H R := h
theorem i_partI {n : Int} {P : Int → Prop} (h : P n) : ∃ i, V.int n = .int i ∧ P i := ⟨n, rfl, h⟩
theorem i_noPart (h : R none H) : tNoPart σ H R := h
theorem i_slL (h : SqL K H a xs) (q : New H fun p => Q (.ref p) (upd H p (.lst (cutV xs lo hi)))) : rSlL K (.ref a) lo hi H Q :=
  ⟨a, xs, rfl, h, q⟩
end
theorem cutV_mid {xs : List V} {i j : Int} (h : 0 ≤ i ∧ i ≤ j ∧ j ≤ xs.length) :
    cutV xs (some i) (some j) = (xs.drop i.toNat).take (j.toNat - i.toNat) := by
  obtain ⟨a, rfl⟩ := Int.eq_ofNat_of_zero_le h.1
  obtain ⟨c, rfl⟩ := Int.eq_ofNat_of_zero_le (Int.le_trans h.1 h.2.1)
  unfold cutV
  rw [HT.sIx_nat, HT.sIx_nat, Int.toNat_natCast, Int.toNat_natCast, Nat.min_eq_left (by omega), Nat.min_eq_left (by omega)]
theorem cutV_tail (x : V) (xs : List V) : cutV (x :: xs) (some 1) none = xs := by
  have e := HT.sIx_nat (x :: xs).length 0 1
  unfold cutV
  rw [show ((1 : Int)) = ((1 : Nat) : Int) from rfl, e, HT.sIx_none, List.length_cons, Nat.min_eq_left (by omega), List.drop_succ_cons, List.drop_zero]
  exact List.take_of_length_le (by omega)
theorem ix_nat {n j : Nat} (h : j < n) : ixN n (j : Int) = some j := by
  unfold ixN
  rw [if_pos (by omega), if_pos (by omega), Int.toNat_natCast]
theorem ix_int {n : Nat} {j : Int} (h0 : 0 ≤ j) (h : j < n) : ixN n j = some j.toNat := by
  unfold ixN
  rw [if_pos h0, if_pos h]
/-- one of two -/
theorem at_two {f : Nat → V} {r : Int} (h0 : 0 ≤ r) (h1 : r < 2) : atI [f 0, f 1] r = some (f r.toNat) := by
  have e : r = 0 ∨ r = 1 := by omega
  rcases e with rfl | rfl <;> rfl
end G
set_option Elab.async false
set_option linter.all false
set_option maxRecDepth 100000
set_option maxHeartbeats 4000000
namespace My
open PySem L2 G
/-! ### exceptions of the text's own classes, with an __init__ of their own -/
section
open PySem.W PySem.Calls PyProof.Rows
/-- what a class of the library gives to a class of the text over it -/
structure Under (B newId initId : String) (tail : List Value) : Prop where
  F : ExcBaseFacts B newId initId tail
  pass : ∀ self, refuseLoop self "__setattr__" tail = pure ()
  ob : tail.contains (.type "object") = true
  ne : tail.isEmpty = false
/-- classes of the text, then the library's -/
def refsOn (tail : List Value) : List Value → Bool
  | .ref _ :: r => refsOn tail r
  | l => l == tail
theorem refsOn_or {tail l : List Value} (h : refsOn tail l = true) : (∃ c r, l = .ref c :: r ∧ refsOn tail r = true) ∨ l = tail := by
  cases l with
  | nil => exact .inr (beq_iff_eq.mp h)
  | cons a r =>
    cases a with
    | ref c => exact .inl ⟨c, r, rfl, h⟩
    | _ => exact .inr (beq_iff_eq.mp h)
theorem Under.pass_all {B newId initId : String} {tail : List Value} (U : Under B newId initId tail) (self : Value) :
    ∀ l : List Value, refsOn tail l = true → refuseLoop self "__setattr__" l = pure () := by
  intro l
  induction l with
  | nil =>
    intro h
    rcases refsOn_or h with ⟨c, r, e, _⟩ | e
    · cases e
    · rw [e]
      exact U.pass self
  | cons a r ih =>
    intro h
    rcases refsOn_or h with ⟨c, r2, e, h2⟩ | e
    · cases e
      rw [refuseLoop_ref]
      exact ih h2
    · rw [e]
      exact U.pass self
theorem Under.has_all {B newId initId : String} {tail : List Value} (U : Under B newId initId tail) (X : String) :
    ∀ l : List Value, refsOn tail l = true → l.contains (.type X) = tail.contains (.type X) := by
  intro l
  induction l with
  | nil =>
    intro h
    rcases refsOn_or h with ⟨c, r, e, _⟩ | e
    · cases e
    · rw [e]
  | cons a r ih =>
    intro h
    rcases refsOn_or h with ⟨c, r2, e, h2⟩ | e
    · cases e
      rw [List.contains_cons, ih h2]
      rfl
    · rw [e]
theorem under_RuntimeError : Under "RuntimeError" "RuntimeError.__new__" "RuntimeError.__init__" [.type "RuntimeError", .type "Exception", .type "BaseException", .type "object"] :=
  ⟨PySem.F.excBase_RuntimeError, fun _ => by kernel_rfl, by decide +kernel, rfl⟩
theorem under_LookupError : Under "LookupError" "LookupError.__new__" "LookupError.__init__" [.type "LookupError", .type "Exception", .type "BaseException", .type "object"] :=
  ⟨PySem.F.excBase_LookupError, fun _ => by kernel_rfl, by decide +kernel, rfl⟩
section
open Builtin Builtin.ObjectAttr
variable {prog : Program} {w : World} {A : Around} {E : Value → Shared → Prop} {R : Result → Shared → Prop} {hp : Heap} {g : Array GenState} {d : Drawn} {t : Nat} {os : OsState}
/-- the first field that is stored in such an exception -/
theorem first_field {K : PySem.W.Frag} {name : Str} {tk : Tok} {v : Value} {x C : Addr} {fv : Array Value} {cd : ClassData}
    (inn : K.In hp) (hx : hp.get? x = some { cls := .ref C, data := .fields fv }) (cl : clsIn K C = some cd) (pass : ∀ self, refuseLoop self "__setattr__" cd.mro = pure ())
    (ob : cd.mro.contains (.type "object") = true) (ne : cd.mro.isEmpty = false) (dct : cd.hasDict = true) (no : findIn K (.ref C) name = some none)
    (q : ∀ h' tk' dx, (∀ b o, b ≠ x → hp.get? b = some o → h'.get? b = some o) → hp.objs.size ≤ dx → dx ≠ x → h'.get? x = some { cls := .ref C, dict := some dx, data := .fields fv } →
      h'.Ns1 dx (fun y => if y = name then some v else none) → R (.ok (.ret .none)) ⟨h', g, d, tk', os⟩) :
    codeAny (model prog w) A (.call (.builtin "object.__setattr__") ⟨[.ref x, .str name tk, v], []⟩) R ⟨hp, g, d, t, os⟩ := by
  have J : InstAt hp x { cls := .ref C, data := .fields fv } C none := ⟨hx, rfl, rfl, trivial⟩
  have S := PySem.F.store_object
  have nx : x ≠ hp.objs.size := Nat.ne_of_lt (Heap.lt_size hx)
  have isob : Looks (model prog w) hp (isInstance (.ref x) (.type "object")) true := by
    refine J.type.andThen (looks_mroIn inn ?_)
    unfold mroIn
    rw [cl, Option.bind_some, if_neg (by rw [ne]; decide), ob]
  have mro_ : Looks (model prog w) hp (mroOf (.ref C)) cd.mro := (looks_clsIn inn cl).andThen .now
  have taker : Looks (model prog w) hp (storeTaker? none) none := .now
  have data_ : Looks (model prog w) hp (classData C) cd := looks_clsIn inn cl
  refine codeAny_call_builtin S.slot.plain S.entry
    (check_slot (M := model prog w) (s := ⟨hp, g, d, t, os⟩) (owner := "object") (n := "__setattr__") S.kind S.split isob (S.args (.ref x) (.str name tk) v) ?_)
  rw [osa_eq, refuse_eq]
  apply wpAny_bind
  apply wpAny_bind
  refine J.type.at ?_
  apply wpAny_bind
  refine mro_.at ?_
  rw [pass]
  apply wpAny_pure
  apply wpAny_bind
  refine J.type.at ?_
  apply wpAny_bind
  refine (looks_findIn inn no).at ?_
  apply wpAny_bind
  refine taker.at ?_
  show wpAny _ _ (storeInOwnDict (.ref x) (.ref C) (.str name tk) name v false) _ _ _
  cases cd
  dsimp only at dct
  subst dct
  unfold storeInOwnDict ownDictForStores
  repeat (first
    | with_reducible refine HandSPX.store_in_new ?_ ?_
    | with_reducible refine wpAny_loadPart_at hx ?_
    | with_reducible refine data_.at ?_
    | wp_step)
  · have e : ∀ f, ((hp.push { cls := .type "dict", data := .dict #[] }).update x f).get? hp.objs.size = some { cls := .type "dict", data := .dict #[] } := fun f => by
      rw [Heap.get?_update_ne _ _ _ _ (Ne.symm nx)]
      exact Heap.get?_push_at rfl rfl
    exact ⟨_, #[], _, e _, rfl, fun e he => absurd he (by simp), fun _ => rfl⟩
  · intro h' tk' hn same
    have hx1 : (hp.push { cls := .type "dict", data := .dict #[] }).get? x = some { cls := .ref C, data := .fields fv } := Heap.get?_push_of_some _ hx
    refine q h' tk' hp.objs.size ?_ (Nat.le_refl _) (Ne.symm nx) ?_ hn
    · intro b o hb ho
      rw [same.2 b (Nat.ne_of_lt (Heap.lt_size ho)), Heap.get?_update_ne _ _ _ _ hb]
      exact Heap.get?_push_of_some _ ho
    · rw [same.2 x nx]
      exact Heap.get?_update_self _ hx1 rfl
end
end
/-- what the written part tells of such a class -/
structure XC (K : PySem.W.Frag) (C : Addr) (B newId initId : String) (tail : List Value) : Prop where
  U : Under B newId initId tail
  cls : ∃ nm q N bs bm sn sub ab col dd k0 k1 k2 k3 k5, K.lookup C = some (excClassObj nm q C N bs bm true sn sub ab col dd k0 k1 k2 k3 k5 newId) ∧ refsOn tail bm = true
  sa : PySem.W.findIn K (.ref C) "__setattr__" = some (some (.builtin "object.__setattr__"))
  ex : PySem.W.subIn K (.ref C) (.type "BaseException") = some true
  ty : PySem.W.typeIn K (.ref C) = some (.type "type")
  kp : PySem.W.keepIn K (.ref C) = true
section
variable {X : Cx} {pins : List (Addr × Obj)} {σ : L2.St} {H : Hp} {s : Shared} {a C : Addr} {f : Str} {y : V} {u : Value} {A : Around} {B newId initId : String} {tail : List Value}
/-- the base's own __init__: the exception stays as it is told -/
theorem base_init {us : List Value} {Q : Value → Shared → Prop} {E : Value → Shared → Prop} (T : XC X.K C B newId initId tail) (I : Inv X pins σ H s) (ha : H a = some (exo a C none)) (few : us.length ≤ sizeLine)
    (h : ∀ s', Inv X pins σ H s' → Q .none s') : wpAny (model X.prog X.w) A (call (.builtin initId) (.ref a :: us)) Q E s := by
  obtain ⟨nm, q, N, bs, bm, sn, sub, ab, col, dd, k0, k1, k2, k3, k5, hC, on⟩ := T.cls
  obtain ⟨t1, ho⟩ := exo_at I.hok ha
  cases s with
  | mk hp g d t os =>
    refine wpAny_call (PySem.HandSPX.init_base T.U.F (fun Y => T.U.has_all Y bm on) (I.kIn _ _ hC) ho few ?_)
    intro h' t2 keep hx
    have J := I.write (t' := t) (x := a) (e := a) (o := exo a C none) (by rw [ha]; trivial) (.inl rfl) keep ⟨_, hx⟩ (exo_ok hx)
    have same : upd H a (exo a C none) = H := by
      funext b
      by_cases e : b = a
      · rw [e, upd_same]
        exact ha.symm
      · exact upd_ne e
    rw [same] at J
    exact h _ J
/-- its first field -/
theorem field_new {Q : Unit → Shared → Prop} {E : Value → Shared → Prop} (T : XC X.K C B newId initId tail) (I : Inv X pins σ H s) (ha : H a = some (exo a C none))
    (no : PySem.W.findIn X.K (.ref C) f = some none) (ry : RelV y u)
    (h : ∀ dx s', H dx = none → dx ≠ a → Inv X pins σ (upd (upd H dx (exd dx [(f, y)])) a (exo a C (some dx))) s' → Q () s') :
    wpAny (model X.prog X.w) A (setAttr (.ref a) f u) Q E s := by
  obtain ⟨nm, q, N, bs, bm, sn, sub, ab, col, dd, k0, k1, k2, k3, k5, hC, on⟩ := T.cls
  have cl : PySem.W.clsIn X.K C = some { name := nm, bases := bs, mro := .ref C :: bm, ns := N, qualname := q, hasDict := true, slotNames := sn, subclasses := sub, abstract := ab, collection := col, hasDel := false } := by
    unfold PySem.W.clsIn
    rw [hC] <;> rfl
  have on2 : refsOn tail (.ref C :: bm) = true := on
  obtain ⟨t1, ho⟩ := exo_at I.hok ha
  cases s with
  | mk hp g d t os =>
    refine PySem.W.set_plain I.kIn (ox := { cls := .ref C, dict := none, data := .fields #[.ref t1, .none, .none, .none, .bool false, .none] }) (od := none) ⟨ho, rfl, rfl, trivial⟩ T.sa ?_
    refine first_field I.kIn ho cl (fun self => T.U.pass_all self _ on2) ((T.U.has_all "object" _ on2).trans T.U.ob) rfl rfl no ?_
    intro h' tk' dx keep big dne hx hn
    have hdx : H dx = none := I.hok.fresh big
    have old : ∀ {b : Addr} {o : Obj}, hp.get? b = some o → b ≠ dx := fun {b o} e => Nat.ne_of_lt (Nat.lt_of_lt_of_le (Heap.lt_size e) big)
    have off : ∀ {b : Addr}, H b = none → b ≠ a := fun {b} n z => by
      rw [z, ha] at n
      exact nomatch n
    have U1 : Un X.fs [] H (upd (upd H dx (exd dx [(f, y)])) a (exo a C (some dx))) hp h' := by
      refine ⟨fun b o e n _ _ => keep b o (off n) e, fun b o e n _ _ => ⟨o.slots, keep b o (off n) e⟩, ?_, ?_, ?_, ?_, ?_⟩
      · intro b o e n _
        rw [upd_ne (off n), upd_ne (old e)]
        exact n
      · intro b o e _
        by_cases z : b = a
        · exact ⟨_, by rw [z]; exact hx⟩
        · exact ⟨o, keep b o z e⟩
      · intro b xs e
        rw [upd_ne (at_ne ha e exo_tup), upd_ne (ne_of_none e hdx)]
        exact e
      · intro b o v e
        rw [upd_ne (at_ne ha e exo_frz), upd_ne (ne_of_none e hdx)]
        exact e
      · intro b ps e
        refine ⟨#[], ?_⟩
        rw [upd_ne (at_ne ha e exo_tbl), upd_ne (ne_of_none e hdx), e]
        simp
    refine h dx _ hdx dne (I.un (t' := tk') U1 ?_)
    intro b o e
    by_cases z : b = a
    · subst z
      rw [upd_same] at e
      cases e
      exact exo_ok hx
    rw [upd_ne z] at e
    by_cases z2 : b = dx
    · subst z2
      rw [upd_same] at e
      cases e
      exact exd_ok hn (relO_put (fs := []) ry fun g => trivial)
    rw [upd_ne z2] at e
    refine (I.hok b o e).stay ?_ ?_ ?_
    · intro c v hc r
      refine keep c v ?_ r
      rcases hc with hc | hc
      · rw [hc]
        exact z
      · exact at_ne ha hc exo_own
    · intro c hc
      rw [upd_ne (at_ne ha hc exo_own), upd_ne (ne_of_none hc hdx)]
      exact hc
    · intro c xs hc
      rw [upd_ne (at_ne ha hc exo_tup), upd_ne (ne_of_none hc hdx)]
      exact hc
end
/-- B.__init__(self, ..) -/
def tBase (K : PySem.W.Frag) (B newId initId : String) (tail : List Value) (ta : TA) : TE := fun σ H Q => ta σ H fun vs H1 =>
  ∃ (a C : Addr) (ws : List V), vs = .ref a :: ws ∧ ws.length ≤ 1000 ∧ XC K C B newId initId tail ∧ H1 a = some (exo a C none) ∧ Q .non H1
/-- self.f = e, the one field -/
def tPut (K : PySem.W.Frag) (B newId initId : String) (tail : List Value) (f : Str) (to te : TE) : TS := fun D σ H => te σ H fun y H1 => to σ H1 fun x H2 =>
  ∃ a C : Addr, x = .ref a ∧ XC K C B newId initId tail ∧ PySem.W.findIn K (.ref C) f = some none ∧ H2 a = some (exo a C none) ∧
    ∀ dx, H2 dx = none → dx ≠ a → D.nx σ (upd (upd H2 dx (exd dx [(f, y)])) a (exo a C (some dx)))
section
variable {X : Cx} {o e : Expr} {es : List Expr} {to te : TE} {ta : TA} {f : Str} {p p' p1 p2 pos : Pos} {B newId initId : String} {tail : List Value} {nB : Str}
theorem x_base {pl : Sem Bool} (U : Under B newId initId tail) (hg : Gl X nB) (hm : X.mg nB = none) (hv : bootBuiltins nB = some (.type B))
    (ty : typeOf (.type B) = pure (.type "type")) (vV : PySem.W.findCls X.K (.type B) (.type "type") "__init__" = some (.val (.builtin initId)))
    (ha : PA X (e :: es) ta)
    (hn : nB ≠ "__name__" := by decide) (hdb : (nB == ("__debug__" : Str)) = false := by decide)
    (c1 : PySem.W.handedIn (.builtin initId) = true := by decide +kernel) (c2 : Manifest.isStub B = false := by decide +kernel)
    (hc : eval (.Call (.Attribute (.Name nB p1) "__init__" p2) (e :: es) [] pos) X.env = (do
      let ov ← eval (.Name nB p1) X.env
      standAt p2.atName
      let (f, first) ← holding [ov] (getMethod ov "__init__" pl)
      callWith pos f first (backTo pos (starEach (e :: es) X.env)) (backToKw pos (keywordEach [] X.env))) := by rfl)
    (he : starEach (e :: es) X.env = (false, eval e X.env) :: starEach es X.env := by rfl) (hpl : (backTo pos (starEach es X.env)).any (·.1) = false := by rfl) :
    PE X (.Call (.Attribute (.Name nB p1) "__init__" p2) (e :: es) [] pos) (tBase X.K B newId initId tail ta) := by
  constructor
  intro pins s σ H Q I h
  refine PySem.W.methodCall_KW (ld_blt I hg hm hv ?_ hn hdb) hc
  obtain ⟨m, fr⟩ := I.fr
  refine PySem.W.method_type fr I.ok.mod.kin ty c2 vV c1 ?_
  show wpAny _ _ (callWith pos (Value.builtin initId) [] (backTo pos (starEach (e :: es) X.env)) []) _ _ _
  refine PyProof.Rows.callWith_method1 (thn (ha.run pos pins _ σ H _ (I.tok _) h) ?_) he hpl
  rintro us s1 ⟨vs, H1, I1, r1, a, C, ws, rfl, few, T, ea, q⟩
  cases r1 with
  | cons ra rw' =>
    cases ra
    refine base_init T I1 ea ?_ fun s' J => ⟨.non, H1, J, rfl, q⟩
    rw [← Paired.length rw', sizeLine_eq]
    omega
theorem x_put (ho : PE X o to) (he : PE X e te) (hs : swapsWith e (some (.Attribute o f p')) pos.line X.env = pure false := by rfl) :
    PS X (.Assign [.Attribute o f p'] e pos) (tPut X.K B newId initId tail f to te) := by
  constructor
  intro pins s σ H D I h
  refine plainObj_wpAny_Assign_Attribute (thn (he.run pins s σ H _ I h) ?_) hs
  rintro v s1 ⟨y, H1, I1, r1, q1⟩
  refine thn (ho.run pins s1 σ H1 _ I1 q1) ?_
  rintro u s2 ⟨x, H2, I2, r2, a, C, rfl, T, no, ea, q⟩
  cases r2
  exact field_new T I2 ea no r1 fun dx s' n ne J => ⟨σ, _, J, q dx n ne⟩
end
/-- C(e, ..), C's own __init__ keeping sp -/
def tNewX (C : Addr) (sp : Sp) (ta : TA) : L2.St → Hp → XK → Prop := fun σ H Q => ta σ H fun vs H1 => vs.length ≤ 1000 ∧ ∀ a, H1 a = none → sp (.ref a :: vs) (upd H1 a (exo a C none))
  (fun v H2 => v = .non ∧ ∃ (d : Addr) (fs : List (Str × V)), H2 a = some (exo a C (some d)) ∧ H2 d = some (exd d fs) ∧ H1 d = none ∧ Q (.ref C) (some d) (upd (del H2 a) d (.xd fs))) E0
section
variable {X : Cx} {e : Expr} {es : List Expr} {ta : TA} {p pos : Pos} {B newId initId : String} {tail : List Value} {x : Str} {C fI : Addr} {k : Nat} {fd : FuncData} {ps : List Str} {sp : Sp}
theorem x_new (T : XC X.K C B newId initId tail) (iC : PySem.W.findIn X.K (.ref C) "__init__" = some (some (.ref fI))) (tI : PySem.W.typeIn X.K (.ref fI) = some (.type "function"))
    (F1 : Fg X k fI fd ps sp) (z : RoomG (k + 1) X.A) (hb : BindsD X.K fd ps []) (hg : Gl X x) (hm : X.mg x = some (.ref C)) (ha : PA X (e :: es) ta)
    (hdb : (x == ("__debug__" : Str)) = false := by decide) (he : starEach (e :: es) X.env = (false, eval e X.env) :: starEach es X.env := by rfl) (hpl : (backTo pos (starEach es X.env)).any (·.1) = false := by rfl) :
    PMk X (.Call (.Name x p) (e :: es) [] pos) (tNewX C sp ta) := by
  obtain ⟨ds, hd, hb⟩ := hb
  cases hd
  intro pins s σ H Q I h
  obtain ⟨nm, q, N, bs, bm, sn, sub, ab, col, dd, k0, k1, k2, k3, k5, hC, on⟩ := T.cls
  refine wpAny_Call_Name_kw (ld_glob I hg hm ?_ hdb)
  refine PySem.W.callWith_K (h₀ := X.base) I.ok.mod.kin T.kp (thn (ha.run pos pins s σ H _ I h) ?_) he hpl
  rintro us s1 ⟨vs, H1, I1, r1, few, q1⟩
  refine ⟨I1.kIn, ?_⟩
  show wpAny _ _ (call (.ref C) us) _ _ _
  cases s1 with
  | mk hp g dr tk os =>
    have big : hp.objs.size ≤ hp.objs.size + 1 := Nat.le_succ _
    have hq := q1 (hp.objs.size + 1) (I1.hok.fresh big)
    have keep : ∀ b o, hp.get? b = some o → ((hp.push (PySem.W.kdv_tup us)).push (PySem.HandSPX.excO C hp.objs.size)).get? b = some o :=
      fun b o e => Heap.get?_push_of_some _ (Heap.get?_push_of_some _ e)
    have there : ((hp.push (PySem.W.kdv_tup us)).push (PySem.HandSPX.excO C hp.objs.size)).get? (hp.objs.size + 1) = some (PySem.HandSPX.excO C hp.objs.size) := by heap_get
    have I2 : Inv X pins σ (upd H1 (hp.objs.size + 1) (exo (hp.objs.size + 1) C none)) ⟨(hp.push (PySem.W.kdv_tup us)).push (PySem.HandSPX.excO C hp.objs.size), g, dr, tk, os⟩ :=
      I1.laid (t' := tk) (a := hp.objs.size + 1) (o := exo (hp.objs.size + 1) C none) keep big (exo_ok there)
    have r2 : Vals (V.ref (hp.objs.size + 1) :: vs) (Value.ref (hp.objs.size + 1) :: us) := .cons rfl r1
    have hl : (Value.ref (hp.objs.size + 1) :: us ++ []).length = ps.length := by
      rw [List.append_nil, ← r2.length]
      exact F1.len _ _ _ _ hq
    have hus : us.length ≤ sizeLine := by
      rw [← Paired.length r1, sizeLine_eq]
      omega
    have b := hb _ (Value.ref (hp.objs.size + 1) :: us) I2.kIn hl
    rw [List.append_nil] at b
    refine wpAny_call (PySem.HandSPX.call_own T.U.F (fun Y => T.U.has_all Y bm on) (I1.kIn _ _ hC) (PySem.W.looks_findIn I1.kIn iC) (fun self => PySem.W.bind_fn I1.kIn self tI) hus
      (codeAny_mono (F1.run _ X.stack _ _ ⟨Value.ref (hp.objs.size + 1) :: us, []⟩ _ _ _ E0 (z.make C us []) (I2.env0.make C us []) b r2 hq) ?_))
    intro r s' hr
    match r, hr with
    | .error er, hr => exact passL pins σ _ _ er s' I2 hr
    | .ok (.ret u), hr =>
      obtain ⟨v, H2, os2, bare2, un2, hok2, rv, ev, d, fs, ea, ed, hd1, q2⟩ := hr
      subst ev
      cases s' with
      | mk h2 g2 d2 t2 os' => exact ⟨rv, mk_end (raises_own T.ex T.ty) I1 big keep un2 hok2 os2 bare2 ea ed hd1 q2⟩
    | .ok .next, hr => exact False.elim hr
    | .ok .brk, hr => exact False.elim hr
    | .ok .cont, hr => exact False.elim hr
end

/-! ### calls that may raise; what is asked of a caught exception -/
section
variable {X : Cx} {k n : Nat} {f C : Addr} {fd : FuncData} {ps ks : List Str} {sp : Sp} {dvs : List V} {E : L2.St → XK} {x m : Str} {p pos apos : Pos} {e o : Expr} {es : List Expr} {ta : TE} {t : TA}
variable {pins : List (Addr × Obj)} {σ : L2.St} {H : Hp} {s s' : Shared} {Q : VK}
abbrev PsAt (X : Cx) (E : L2.St → XK) : Prop := ∀ σ, PassesAt (L2.CX X.prog X.w) X σ (E σ)
theorem raise_run {us : List Value} {vs : List V} (F : Fg X k f fd ps sp) (z : RoomG k X.A) (hb : BindsD X.K fd ps dvs) (hx : PsAt X E) (I : Inv X pins σ H s) (rv : Vals vs us)
    (h : sp (vs ++ dvs) H Q (E σ)) : wpAny (model X.prog X.w) X.A (call (.ref f) us) (EP X pins σ Q) X.xe s := by
  obtain ⟨ds, hd, hb⟩ := hb
  have r2 : Vals (vs ++ dvs) (us ++ ds) := rv.append hd
  have hl : (us ++ ds).length = ps.length := by
    rw [← r2.length]
    exact F.len _ _ _ _ h
  refine wpAny_call (codeAny_mono (F.run X.A X.stack s H ⟨us, []⟩ _ _ Q (E σ) z I.env0 (hb s us I.kIn hl) r2 h) ?_)
  intro r s' q
  match r, q with
  | .error e, q => exact hx σ pins H s e s' I q
  | .ok (.ret u), q => exact I.after q
  | .ok .next, q => exact False.elim q
  | .ok .brk, q => exact False.elim q
  | .ok .cont, q => exact False.elim q
/-- f(..), that may raise -/
def tCallX (sp : Sp) (dvs : List V) (E : L2.St → XK) (t : TA) : TE := fun σ H Q => t σ H fun vs H1 => sp (vs ++ dvs) H1 Q (E σ)
theorem s1 (F : Fg X k f fd ps sp) (z : RoomG k X.A) (hg : Gl X x) (hm : X.mg x = some (.ref f)) (hk : PySem.W.keepIn X.K (.ref f) = true) (hb : BindsD X.K fd ps dvs)
    (hx : PsAt X E) (ha : PA X (e :: es) t) (hdb : (x == ("__debug__" : Str)) = false := by decide)
    (he : starEach (e :: es) X.env = (false, eval e X.env) :: starEach es X.env := by rfl) (hpl : (backTo pos (starEach es X.env)).any (·.1) = false := by rfl) :
    PE X (.Call (.Name x p) (e :: es) [] pos) (tCallX sp dvs E t) := by
  constructor
  intro pins s σ H Q I h
  refine wpAny_Call_Name_kw (ld_glob I hg hm ?_ hdb)
  refine PySem.W.callWith_K (h₀ := X.base) I.ok.mod.kin hk (thn (ha.run pos pins s σ H _ I h) ?_) he hpl
  rintro us s1 ⟨vs, H1, I1, r, q⟩
  exact ⟨I1.kIn, raise_run F z hb hx I1 r q⟩
/-- o.m(..), that may raise -/
def tMethX (C : Addr) (nm : Str) (sp : Sp) (dvs : List V) (E : L2.St → XK) (ta : TE) (t : TA) : TE := fun σ H Q => ta σ H fun x H1 => ∃ a dx fs, x = .ref a ∧ H1 a = some (.ins C dx fs) ∧ fs.lookup nm = none ∧
  t σ H1 fun vs H2 => sp (x :: vs ++ dvs) H2 Q (E σ)
theorem sm {pl : Sem Bool} (c : Cls X.K C) (hm : Meth X.K C m f) (F : Fg X k f fd ps sp) (z : RoomG k X.A) (hb : BindsD X.K fd ps dvs) (hx : PsAt X E) (he : PE X o ta) (ha : PA X (e :: es) t)
    (hst : starEach (e :: es) X.env = (false, eval e X.env) :: starEach es X.env := by rfl) (hpl : (backTo pos (starEach es X.env)).any (·.1) = false := by rfl)
    (ht : eval (.Call (.Attribute o m apos) (e :: es) [] pos) X.env = (do
      let y ← eval o X.env
      standAt apos.atName
      let (g, a) ← holding [y] (getMethod y m pl)
      callWith pos g a (backTo pos (starEach (e :: es) X.env)) (backToKw pos (keywordEach [] X.env))) := by rfl) :
    PE X (.Call (.Attribute o m apos) (e :: es) [] pos) (tMethX C m sp dvs E ta t) := by
  constructor
  intro pins s σ H Q I h
  refine PySem.W.methodCall_KW (pl := pl) (thn (he.run pins s σ H _ I h) ?_) ht
  rintro u s1 ⟨v, H1, I1, rx, a, dx, fs, rfl, ea, l, q⟩
  cases rx
  refine getmeth_ok I1 ea c hm l ?_
  refine PySem.W.callWith_K (first := [.ref a]) (h₀ := X.base) I.ok.mod.kin hm.kp (thn (ha.run pos pins s1 σ H1 _ I1 q) ?_) hst hpl
  rintro us s2 ⟨vs, H2, I2, r, q2⟩
  exact ⟨I2.kIn, raise_run (us := .ref a :: us) (vs := .ref a :: vs) F z hb hx I2 (.cons rfl r) q2⟩
theorem sm0 {pl : Sem Bool} (c : Cls X.K C) (hm : Meth X.K C m f) (F : Fg X k f fd ps sp) (z : RoomG k X.A) (hb : BindsD X.K fd ps dvs) (hx : PsAt X E) (he : PE X o ta)
    (ht : eval (.Call (.Attribute o m apos) [] [] pos) X.env = (do
      let y ← eval o X.env
      standAt apos.atName
      let (g, a) ← holding [y] (getMethod y m pl)
      callWith pos g a (backTo pos (starEach [] X.env)) (backToKw pos (keywordEach [] X.env))) := by rfl) :
    PE X (.Call (.Attribute o m apos) [] [] pos) (tMethX C m sp dvs E ta tNil) := by
  constructor
  intro pins s σ H Q I h
  refine PySem.W.methodCall_KW (pl := pl) (thn (he.run pins s σ H _ I h) ?_) ht
  rintro u s1 ⟨v, H1, I1, rx, a, dx, fs, rfl, ea, l, q⟩
  cases rx
  refine getmeth_ok I1 ea c hm l ?_
  refine PySem.W.callWith_K0 (first := [.ref a]) I1.kIn hm.kp ?_
  exact raise_run (us := [.ref a]) (vs := [.ref a]) F z hb hx I1 (.cons rfl .nil) q
theorem i_callX {σ : L2.St} {H : Hp} {Q : VK} (h : t σ H fun vs H1 => sp (vs ++ dvs) H1 Q (E σ)) : tCallX sp dvs E t σ H Q := h
theorem i_callX0 {σ : L2.St} {H : Hp} {Q : VK} (h : t σ H fun vs H1 => sp vs H1 Q (E σ)) : tCallX sp [] E t σ H Q := by
  unfold tCallX
  simp only [List.append_nil]
  exact h
end
section
open PySem.W PySem.Calls PyProof.Rows
variable {prog : Program} {w : World} {K : PySem.W.Frag} {x D : Addr} {ox : Obj}
theorem kit_exc (T : L2.ExcC K D) : KitX K (.ref x) (.ref D) (fun h => ∃ od, InstAt h x ox D od) := by
  obtain ⟨cd, hc, _⟩ := any_some T.hd
  have at_ : ∃ o, K.lookup D = some o ∧ ∀ cls dict its n sl, o ≠ ⟨cls, dict, .seq its n, sl⟩ := by
    unfold clsIn at hc
    split at hc
    · rename_i c' d' cd' sl' ho
      exact ⟨_, ho, fun _ _ _ _ _ z => nomatch z⟩
    · cases hc
  have hf : ∀ od, findObj K D od "__class__" = some (.bind (.builtin "getset_descriptor.__get__") (.builtin "object.__class__")) :=
    fun od => findObj_dataE (by rw [hc]; rfl) T.ha T.hn T.ht
  refine ⟨fun _ _ _ ⟨_, I⟩ => I.type, ?_, ?_, ?_⟩
  · intro M h inn _
    unfold clsIn at hc
    split at hc
    · rename_i c' d' cd' sl' ho
      intro A Q E s keep q
      unfold isType loadHead
      exact wpAny_bind (wpAny_loadPart (keep _ _ (inn _ _ ho)) (wpAny_pure q))
    · cases hc
  · intro h tp dd its n sl inn htp
    rw [Bool.eq_false_iff]
    intro q
    have e : D = tp := Value.ref.inj (beq_iff_eq.mp q)
    subst e
    obtain ⟨o, ho, no⟩ := at_
    have z := (inn _ _ ho).symm.trans htp
    exact no _ _ _ _ _ (Option.some.inj z)
  · intro prog w A E Q s inn ⟨od, I⟩ q
    exact kx_classE inn I T.hg T.hk T.hs (hf od) T.hm q
end
/-- isinstance(e, c), e the caught exception at a, of the class cls, its dict d -/
def rIsX (K : PySem.W.Frag) (a : Addr) (cls : Value) (d : Option Addr) : List V → Hp → VK → Prop := fun xs H Q => ∃ (D : Addr) (c : V) (cv : Value) (b : Bool), cls = .ref D ∧ L2.ExcC K D ∧
  (d = none ∨ ∃ dd fs, d = some dd ∧ H dd = some (.xd fs)) ∧ xs = [.ref a, c] ∧ ClsV c cv ∧ PySem.W.kitOne K (.ref D) cv = some b ∧ Q (.bl b) H
/-- isinstance(e, (c1, c2, ..)) -/
def rIsXT (K : PySem.W.Frag) (a : Addr) (cls : Value) (d : Option Addr) : List V → Hp → VK → Prop := fun xs H Q => ∃ (D tp : Addr) (cs : List V) (us : List Value) (b : Bool), cls = .ref D ∧ L2.ExcC K D ∧
  (d = none ∨ ∃ dd fs, d = some dd ∧ H dd = some (.xd fs)) ∧ xs = [.ref a, .ref tp] ∧ H tp = some (.tup cs) ∧ Paired ClsV cs us ∧ PySem.W.kitAny K (.ref D) us = some b ∧ Q (.bl b) H
section
variable {X : Cx} {a : Addr} {oe : Obj} {cls : Value} {d : Option Addr} {pn : List (Addr × Obj)} {K : PySem.W.Frag}
theorem caught_at {D : Addr} {pins : List (Addr × Obj)} {σ : L2.St} {H : Hp} {s : Shared} (I : Inv (X.suite a ((a, oe) :: pn)) pins σ H s) (hz : Zc (.ref D) d oe) (hf : ∃ vs, oe.data = .fields vs)
    (hd : d = none ∨ ∃ dd fs, d = some dd ∧ H dd = some (.xd fs)) : ∃ od, PySem.W.InstAt s.heap a oe D od := by
  obtain ⟨there, _⟩ := I.pin (a, oe) (List.mem_append_left _ List.mem_cons_self)
  obtain ⟨vs, hv⟩ := hf
  obtain ⟨h1, h2⟩ := hz
  have nc : PySem.W.notCls oe = true := by
    unfold PySem.W.notCls
    rw [hv] <;> rfl
  rcases hd with rfl | ⟨dd, fs, rfl, e⟩
  · exact ⟨none, there, h1, nc, by rw [h2]; trivial⟩
  · obtain ⟨mA, hns, _⟩ : ObjOk X.prog X.w H s.heap dd (.xd fs) := I.hok dd _ e
    obtain ⟨od, ho, _⟩ := lookIn_ns hns
    exact ⟨some od, there, h1, nc, by rw [h2]; exact ho⟩
theorem k_isX (h : X.K = K) (hz : Zc cls d oe) (hf : ∃ vs, oe.data = .fields vs) : CallR (X.suite a ((a, oe) :: pn)) (.builtin "isinstance") (rIsX K a cls d) := by
  subst h
  intro pins s σ H xs us Q I r q
  obtain ⟨D, c, cv, b, rfl, T, hd, rfl, hc, kit, q⟩ := q
  obtain ⟨u1, u2, rfl, r1, r2⟩ := vals2 r
  cases r1
  have e := hc.eq r2
  subst e
  exact PySem.W.kia_one (kit_exc (ox := oe) T) I.kIn (caught_at I hz hf hd) kit (fun z => nomatch z) fun tk => ⟨.bl b, H, I.tok tk, rfl, q⟩
theorem k_isXT (h : X.K = K) (hz : Zc cls d oe) (hf : ∃ vs, oe.data = .fields vs) : CallR (X.suite a ((a, oe) :: pn)) (.builtin "isinstance") (rIsXT K a cls d) := by
  subst h
  intro pins s σ H xs us Q I r q
  obtain ⟨D, tp, cs, ws, b, rfl, T, hd, rfl, hT, hc, kit, q⟩ := q
  obtain ⟨u1, u2, rfl, r1, r2⟩ := vals2 r
  cases r1
  cases r2
  obtain ⟨_, its, rv, o, h1, h2, n, h3⟩ := (show ObjOk X.prog X.w H s.heap tp (.tup cs) from I.hok tp _ hT)
  have e3 := ClsV.all hc rv
  subst e3
  cases o
  simp only at h2 h3
  subst h2 h3
  exact PySem.W.kia_tup (kit_exc (ox := oe) T) I.kIn (caught_at I hz hf hd) h1 kit (fun z => nomatch z) fun tk => ⟨.bl b, H, I.tok tk, rfl, q⟩
end

/-! ### several except clauses, each with a name -/
section
open PySem.Spec PyProof.Rows
/-- what the clauses 'except x as n' wish of an exception of the body, one after the other -/
def wManyAs (K : PySem.W.Frag) (Wout : WX) (D : Ends) : List (Value × Nat × (Addr → Value → Option Addr → TS)) → WX
  | [] => Wout
  | (c, i, ts) :: r => fun cls d σ H => ∃ b, PySem.W.exmOne K cls c = some b ∧
      (b = true → ∀ a, H a = none → ts a cls d { nx := fun σ' H' => D.nx (σ'.set i none) H', rt := D.rt, bk := fun σ' H' => D.bk (σ'.set i none) H', ct := fun σ' H' => D.ct (σ'.set i none) H' } (σ.set i (some (.ref a))) H) ∧
      (b = false → wManyAs K Wout D r cls d σ H)
inductive HdsAs (X : Cx) : List ExceptHandler → List (Value × Nat × (Addr → Value → Option Addr → TS)) → Prop
  | nil : HdsAs X [] []
  | cons {x n : Str} {c : Value} {i : Nat} {ts : Addr → Value → Option Addr → TS} {b₀ : Stmt} {suite : List Stmt} {np pos' : Pos} {hds : List ExceptHandler} {l : List (Value × Nat × (Addr → Value → Option Addr → TS))}
      (hi : X.N[i]? = some n) (hln : X.env.kindOf n = some .local) (hc : Names X x c)
      (hsu : ∀ (a : Addr) (oe : Obj) (cls : Value) (d : Option Addr) (pn : List (Addr × Obj)), Zc cls d oe → (∃ vs, oe.data = .fields vs) → PSs (X.suite a ((a, oe) :: pn)) (b₀ :: suite) (ts a cls d)) (r : HdsAs X hds l) :
      HdsAs X (.ExceptHandler (some (.Name x np)) (some n) (b₀ :: suite) pos' :: hds) ((c, i, ts) :: l)
variable {X : Cx} {body : List Stmt} {h₀ : ExceptHandler} {hds : List ExceptHandler} {l : List (Value × Nat × (Addr → Value → Option Addr → TS))} {pos : Pos} {tb : WX → TS} {Wout : WX}
theorem ps_try_manyAs (hs : X.stack = X.env :: X.outer) (hf : X.env.frame = some X.env.locals) (hN : X.N.Nodup) (tk : Takes X Wout)
    (hb : ∀ (W : WX) (pn : List (Addr × Obj)) (xe : Value → Shared → Prop), Takes (X.tr pn xe) W → PassesOwn (model X.prog X.w) X.A X.env xe → PSs (X.tr pn xe) body (tb W))
    (hh : HdsAs X (h₀ :: hds) l) : PS X (.Try body (h₀ :: hds) [] [] pos) (fun D σ H => tb (wManyAs X.K Wout D l) D σ H) := by
  refine ⟨fun pins s σ H D I h => ?_⟩
  have ok := I.ok
  have hfr : X.A.frames = some (X.env :: X.outer) := by rw [ok.frames, hs]
  refine wpAny_Try_except ?_
  refine wpAny_mono ((hb (wManyAs X.K Wout D l) (X.pn ++ pins) (fun e s₁ => wpAny (model X.prog X.w) X.A (noteFrame e X.env) (fun _ s₂ => wpAny (model X.prog X.w) X.A (setFlight e none) (fun _ s₃ =>
    wpAny (model X.prog X.w) X.A (handleBy e X.env (h₀ :: hds)) (SP X pins D) X.xe s₃) X.xe s₂) X.xe s₁) (fun u s' xx => ?_) PassesOwn.looking).run [] s σ H D (I.toTry _) h) (fun f s1 hsp => ?_) (fun e s1 he => he)
  · -- the catch
    obtain ⟨a, B, sI, pins', σ', H', cls, d, rfl, J', nb, up, sky, na, os, ag, w⟩ := xx
    have J : Inv X pins σ' H' sI := J'.ofTry ok
    have sky' : Sky B (X.env :: X.outer) a (Zc cls d) X.env.locals s'.heap := by rw [← hs]; exact sky
    show wpAny (model X.prog X.w) X.A (noteFrame (.ref a) X.env) _ _ _
    refine Sky.land Zc.steady hfr hf sky' fun h3 fl3 up3 => ?_
    have J3 : Inv X pins σ' H' { s' with heap := h3 } := J.landed nb fl3.1 (up.trans up3) os ag
    obtain ⟨oe3, vs3, he3, hz3, hd3⟩ := fl3.there
    have notFr : ∀ {h : Heap} {o : Obj} {vs : Array Value}, h.FunFrames B (X.env :: X.outer) → h.get? a = some o → o.data = .fields vs → a ∉ frs (X.env :: X.outer) := fun {h o vs} ff e dd hm => by
      obtain ⟨_, o', e', hnf⟩ := ff.mem hm
      rw [e] at e'; cases e'
      exact hnf _ dd
    have nfr := notFr fl3.2.2.1 he3 hd3
    have nL : a ≠ X.env.locals := fun z => nfr (List.mem_filterMap.mpr ⟨X.env, List.mem_cons_self, by rw [hf, z]⟩)
    have nF : a ∉ X.fs := fun hm => by
      obtain ⟨e, he, q⟩ := List.mem_filterMap.mp hm
      exact nfr (List.mem_filterMap.mpr ⟨e, List.mem_cons_of_mem _ he, q⟩)
    have S3 := J3.suite he3 hd3 na nL nF
    have go : ∀ {hds' : List ExceptHandler} {l' : List (Value × Nat × (Addr → Value → Option Addr → TS))}, HdsAs X hds' l' → wManyAs X.K Wout D l' cls d σ' H' →
        wpAny (model X.prog X.w) X.A (handleBy (.ref a) X.env hds') (SP X pins D) X.xe { s' with heap := h3 } := by
      intro hds' l' hk
      induction hk with
      | nil =>
        intro w
        refine wpAny_handleBy_nil ?_
        obtain ⟨k1, k2, k3, oe, vs, T, oT, ts', he, hz, hd, h1, hr⟩ := id fl3
        unfold PySem.passOn
        refine wpAny_bind (wpAny_field he hd h1 ?_)
        rw [if_neg (show ¬ ((Value.ref T == Value.none) = true) from by simp)]
        have fin : wpAny (model X.prog X.w) X.A (setFlight (.ref a) X.env.frame) (fun _ s4 => wpAny (model X.prog X.w) X.A (throw (.ref a) : Sem Flow) (SP X pins D) X.xe s4) X.xe { s' with heap := h3 } := by
          rw [hf]
          refine HandSPX.setFlight_upZ fl3 fun h4 hh4 up4 => wpAny_throw (tk _ _ ?_)
          exact ⟨a, B, sI, pins, σ', H', cls, d, rfl, J, nb, (up.trans up3).trans up4, .inr (.inr (by rw [hs]; exact hh4)), na, os, ag, w⟩
        first
          | exact wpAny_bind (wpAny_pure (wpAny_bind fin))
          | exact wpAny_bind fin
      | @cons x n c i ts b₀ suite np pos' hds2 l2 hi hln hc hsu r ih =>
        intro w
        obtain ⟨b, hb1, hyes, hno⟩ := w
        have hloc : Loc X.env.scope n := .inl hln
        refine wpAny_handleBy_cons (codeAny_handlers_test ?_) (by intro q; cases q)
        have LT : PySem.W.Looks (model X.prog X.w) h3 (typeOf (.ref a)) cls := fun A Q E s k q => wpAny_typeOf_ref (k _ _ he3) (by rw [hz3.1]; exact q)
        have LM := PySem.W.exm_one (M := model X.prog X.w) (J3.kIn) LT hb1
        have test : ∀ {Q : Value → Shared → Prop} {E : Value → Shared → Prop}, Q c { s' with heap := h3 } → wpAny (model X.prog X.w) (X.A.mark (some (.ref a))) (eval (.Name x np) X.env) Q E { s' with heap := h3 } := fun {Q E} q => by
          obtain ⟨hg, hdbg, hm | ⟨hm, hv, hnn⟩⟩ := hc
          · exact ld_glob (X := X.suite a ((a, oe3) :: (X.pn ++ pins))) S3 hg hm q hdbg
          · exact ld_blt (X := X.suite a ((a, oe3) :: (X.pn ++ pins))) S3 hg hm hv q hnn hdbg
        refine test (LM.here ?_)
        cases b with
        | true =>
          refine codeAny_handlers_suite_as ?_
          refine HandSPX.lands_againZ fl3 fun h4 fl4 up4 => ?_
          have J4 : Inv X pins σ' H' { s' with heap := h4 } := J.landed nb fl4.1 ((up.trans up3).trans up4) os ag
          obtain ⟨oe4, vs4, he4, hz4, hd4⟩ := fl4.there
          have S4 := J4.suite he4 hd4 na nL nF
          refine store_ok (X := X.suite a ((a, oe4) :: (X.pn ++ pins))) (v := .ref a) S4 hN hi hloc rfl (fun s5 S5 => ?_) (.inr hln)
          refine wpAny_mono ((hsu a oe4 cls d (X.pn ++ pins) hz4 ⟨_, hd4⟩).run [] s5 _ H' _ S5 (hyes rfl a na)) (fun f s6 hsp => ?_) (fun _ _ z => False.elim z)
          have end_ : ∀ {σ6 : L2.St} {H6 : Hp} {Q : Shared → Prop}, Inv (X.suite a ((a, oe4) :: (X.pn ++ pins))) [] σ6 H6 s6 → (∀ s7, Inv X pins (σ6.set i none) H6 s7 → Q s7) →
              wpAny (model X.prog X.w) X.A (do bindName X.env n .none; unbindBehindTheSuite X.env n pos') (fun _ s7 => Q s7) X.xe s6 := fun {σ6 H6 Q} S6 hq => gone_ok (S6.unsuite ok) hN hi hln hq
          cases f with
          | next =>
            obtain ⟨σ6, H6, S6, q6⟩ := hsp
            exact end_ S6 fun s7 J7 => ⟨_, _, J7, q6⟩
          | brk =>
            obtain ⟨σ6, H6, S6, q6⟩ := hsp
            exact end_ S6 fun s7 J7 => ⟨_, _, J7, q6⟩
          | cont =>
            obtain ⟨σ6, H6, S6, q6⟩ := hsp
            exact end_ S6 fun s7 J7 => ⟨_, _, J7, q6⟩
          | ret u =>
            obtain ⟨v6, σ6, H6, S6, r6, q6⟩ := hsp
            exact end_ S6 fun s7 J7 => ⟨_, _, _, J7, r6, q6⟩
        | false =>
          show wpAny _ X.A (handleBy (.ref a) X.env hds2) _ _ _
          exact ih (hno rfl)
    exact go hh w
  · cases f with
    | next =>
      obtain ⟨σ', H', J', q⟩ := hsp
      exact wpAny_execs_nil ⟨σ', H', J'.ofTry ok, q⟩
    | brk =>
      obtain ⟨σ', H', J', q⟩ := hsp
      exact ⟨σ', H', J'.ofTry ok, q⟩
    | cont =>
      obtain ⟨σ', H', J', q⟩ := hsp
      exact ⟨σ', H', J'.ofTry ok, q⟩
    | ret u =>
      obtain ⟨v, σ', H', J', r, q⟩ := hsp
      exact ⟨v, σ', H', J'.ofTry ok, r, q⟩
end

/-! ### a test of three links -/
section
open PyProof.Rows
variable {X : Cx} {a b c d : Expr} {ta tb tc td : TE} {pos : Pos}
def tChain3 (r r' r'' : R2) (ta tb tc td : TE) : TE := fun σ H Q => ta σ H fun x H1 => tb σ H1 fun y H2 => r x y H2 fun z H3 => ∃ k, z = .bl k ∧
  (if k = true then tc σ H3 fun w' H4 => r' y w' H4 fun z' H5 => ∃ k', z' = .bl k' ∧ (if k' = true then td σ H5 fun u H6 => r'' w' u H6 Q else Q (.bl false) H5) else Q (.bl false) H3)
theorem pt_chain3 {op op' op'' : CmpOp} {r r' r'' : R2} (ho : OpR X (compareOp op) r) (ho' : OpR X (compareOp op') r') (ho'' : OpR X (compareOp op'') r'') (ha : PE X a ta) (hb : PE X b tb) (hc : PE X c tc) (hd : PE X d td)
    (hm : lastMarks [op, op', op''] [b, c, d] = false := by with_unfolding_all rfl) : PT X (.Compare a [op, op', op''] [b, c, d] pos) (tTest (tChain3 r r' r'' ta tb tc td)) := by
  refine ⟨fun pins s σ H Q I h => ?_⟩
  refine isTrue_chain (thn (ha.run pins s σ H _ I h) fun v s1 ⟨x, H1, I1, r1, q1⟩ => test_link (thn (hb.run pins s1 σ H1 _ I1 q1) fun u s2 ⟨y, H2, I2, r2, q2⟩ =>
    thn (ho pins s2 σ H2 x y v u _ I2 r1 r2 q2) fun d s3 ⟨z, H3, I3, r3, k, e, q3⟩ => ?_)) hm
  subst e
  cases r3
  refine wpAny_truthy_bool ?_
  cases k with
  | false =>
    obtain ⟨k', e', q'⟩ := q3
    cases e'
    exact ite_ff ⟨H3, I3, q'⟩
  | true =>
    refine ite_tt (test_link (thn (hc.run pins s3 σ H3 _ I3 q3) fun w' s4 ⟨z', H4, I4, r4, q4⟩ => thn (ho' pins s4 σ H4 y z' u w' _ I4 r2 r4 q4) fun d' s5 ⟨z2, H5, I5, r5, k2, e2, q5⟩ => ?_))
    subst e2
    cases r5
    refine wpAny_truthy_bool ?_
    cases k2 with
    | false =>
      obtain ⟨k', e', q'⟩ := q5
      cases e'
      exact ite_ff ⟨H5, I5, q'⟩
    | true =>
      refine ite_tt (test_last (thn (hd.run pins s5 σ H5 _ I5 q5) fun w2 s6 ⟨z3, H6, I6, r6, q6⟩ => thn (ho'' pins s6 σ H6 z' z3 w' w2 _ I6 r4 r6 q6) fun d2 s7 ⟨z4, H7, I7, r7, k3, e3, q7⟩ => ?_))
      subst e3
      cases r7
      exact wpAny_truthy_bool ⟨H7, I7, q7⟩
theorem i_chain3 {r r' r'' : R2} {σ : L2.St} {H : Hp} {Q : VK} (h : ta σ H fun x H1 => tb σ H1 fun y H2 => r x y H2 fun z H3 => ∃ k, z = .bl k ∧
  (if k = true then tc σ H3 fun w' H4 => r' y w' H4 fun z' H5 => ∃ k', z' = .bl k' ∧ (if k' = true then td σ H5 fun u H6 => r'' w' u H6 Q else Q (.bl false) H5) else Q (.bl false) H3)) : tChain3 r r' r'' ta tb tc td σ H Q := h
end

local macro_rules | `(tactic| walk_at "g_tr") => `(tactic| first
  | with_reducible assumption
  | (with_reducible exact tr_of (by with_reducible assumption))
  | with_reducible exact tr_same
  | ((with_reducible refine tr_upd ?_); walk_at "g_tr")
  | (with_reducible exact tr_pot (by with_reducible assumption))
  | (with_reducible exact tr_ld (by with_reducible assumption))
  | ((with_reducible apply tr_kp (by with_reducible assumption) ?h); (case h => walk_at "g_tr")))
local macro_rules | `(tactic| walk_at "g_ne") => `(tactic| first
  | with_reducible assumption
  | (with_reducible exact Ne.symm (by with_reducible assumption))
  | ((with_reducible apply fr_tr ?h (by with_reducible assumption)); (case h => walk_at "g_tr"))
  | ((with_reducible apply Ne.symm (fr_tr ?h (by with_reducible assumption))); (case h => walk_at "g_tr")))
local macro_rules | `(tactic| walk_at "g_hp") => `(tactic| first
  | with_reducible assumption
  | with_reducible apply upd_same
  | ((with_reducible apply upd_nn ?h ?k); (case h => walk_at "g_ne"); (case k => walk_at "g_hp"))
  | ((with_reducible apply kp_at (by with_reducible assumption) ?h ?n); (case n => walk_at "g_ni"); (case h => walk_at "g_hp")))
local macro_rules | `(tactic| walk_at "g_ni") => `(tactic| first
  | exact not_nil
  | with_reducible assumption
  | ((with_reducible refine not_one ?_); walk_at "g_ne")
  | ((with_reducible refine not_two ?_ ?_) <;> walk_at "g_ne"))
local macro_rules | `(tactic| walk_at "g_pot") => `(tactic| first
  | with_reducible assumption
  | ((with_reducible apply pot_upd ?h ?n); (case n => walk_at "g_ne"); (case h => walk_at "g_pot"))
  | ((with_reducible apply PotAt.kp ?h (by with_reducible assumption) ?n); (case n => walk_at "g_ni"); (case h => walk_at "g_pot")))
local macro_rules | `(tactic| walk_at "g_ld") => `(tactic| first
  | with_reducible assumption
  | ((with_reducible apply ld_upd ?h ?i ?n); (case n => walk_at "g_fr"); (case i => walk_at "g_im"); (case h => walk_at "g_ld"))
  | ((with_reducible apply ld_upl ?h ?i ?n ?m); (case n => walk_at "g_hp"); (case m => walk_at "g_ne"); (case i => walk_at "g_im"); (case h => walk_at "g_ld"))
  | ((with_reducible apply ld_ins ?h ?i ?n); (case n => walk_at "g_hp"); (case i => walk_at "g_im"); (case h => walk_at "g_ld"))
  | ((with_reducible apply LD.kp ?h (by with_reducible assumption) ?i ?n); (case n => walk_at "g_ni"); (case i => walk_at "g_im"); (case h => walk_at "g_ld")))
local macro_rules | `(tactic| walk_at "g_im") => `(tactic| first
  | with_reducible assumption
  | exact imms_d2 _
  | rfl)
local macro_rules | `(tactic| walk_at "g_fx") => `(tactic| first
  | with_reducible assumption
  | with_reducible exact fx_refl
  | ((with_reducible apply fx_new ?h ?f); (case f => with_reducible assumption); (case h => walk_at "g_fx"))
  | ((with_reducible apply fx_mut ?h ?f ?g); (case f => walk_at "g_hp"); (case g => exact fun z => z); (case h => walk_at "g_fx"))
  | ((with_reducible apply fx_kp (by with_reducible assumption) ?h); (case h => walk_at "g_fx")))
local macro_rules | `(tactic| walk_at "g_st") => `(tactic| first
  | with_reducible assumption
  | ((with_reducible apply Fx.seqT ?k (by with_reducible assumption)); (case k => walk_at "g_fx"))
  | ((with_reducible apply SqT.of ?h); (case h => walk_at "g_hp")))
local macro_rules | `(tactic| walk_at "g_sq") => `(tactic| first
  | with_reducible assumption
  | ((with_reducible apply SqL.of ?h); (case h => walk_at "g_hp"))
  | ((with_reducible apply sqL_new ?h (by with_reducible assumption)); (case h => walk_at "g_sq"))
  | ((with_reducible apply sqL_kp (by with_reducible assumption) ?h ?n); (case h => walk_at "g_sq"); (case n => walk_at "g_ni")))
local macro_rules | `(tactic| walk_at "g_kp") => `(tactic| first
  | with_reducible assumption
  | with_reducible exact Kp.refl
  | with_reducible exact Kp.wide (by with_reducible assumption)
  | ((with_reducible apply Kp.trans ?k (by with_reducible assumption)); (case k => walk_at "g_kp"))
  | ((with_reducible apply Kp.trans ?k (Kp.wide (by with_reducible assumption))); (case k => walk_at "g_kp"))
  | ((with_reducible apply Kp.trans ?k (Kp.mono (by with_reducible assumption) ?m)); (case m => simp only [List.mem_cons, List.not_mem_nil, or_false, forall_eq, true_or, or_true, List.mem_singleton, implies_true]); (case k => walk_at "g_kp"))
  | ((with_reducible apply Kp.upd ?k ?h); (case h => walk_at "g_fr"); (case k => walk_at "g_kp"))
  | ((with_reducible apply Kp.upi ?k ?h ?m); (case h => walk_at "g_hp"); (case m => simp only [List.mem_cons, true_or, or_true]); (case k => walk_at "g_kp"))
  | ((with_reducible apply Kp.upm ?k ?h ?m); (case h => walk_at "g_hp"); (case m => simp only [List.mem_cons, true_or, or_true]); (case k => walk_at "g_kp")))
local macro_rules | `(tactic| walk_at "g_old") => `(tactic| first
  | with_reducible exact Old.refl
  | ((with_reducible apply old_upd ?k); (case k => walk_at "g_old"))
  | ((with_reducible apply old_kp (by with_reducible assumption) ?k); (case k => walk_at "g_old")))
local macro_rules | `(tactic| walk_at "g_fr") => `(tactic| first
  | with_reducible assumption
  | ((with_reducible apply fr_of (by with_reducible assumption) ?o); (case o => walk_at "g_old")))
local macro_rules | `(tactic| walk_at "g_at") => `(tactic| first
  | assumption
  | exact atI_last _ _
  | exact at_zero
  | rfl)
local macro_rules | `(tactic| walk_at "g_sz") => `(tactic| first
  | assumption
  | ((with_reducible apply small_sz); (try simp only [List.length_append, List.length_cons, List.length_nil]); omega))
local macro_rules | `(tactic| walk_at "g1") => `(tactic| first
  | (with_reducible refine i_seq ?_)
  | (with_reducible refine i_set ?_)
  | ((with_reducible apply i_var ?h ?_); (case h => exact rfl))
  | (with_reducible refine i_c ?_)
  | (with_reducible refine i_ret ?_)
  | (with_reducible refine i_op ?_)
  | (with_reducible refine i_addI ?_)
  | (with_reducible refine i_I0 ?_)
  | (with_reducible refine i_ifS ?_)
  | (with_reducible refine i_test ?_)
  | (with_reducible refine i_bl ?_)
  | (with_reducible refine i_eqI ?_)
  | (with_reducible refine i_neI ?_)
  | (with_reducible refine i_eqS ?_)
  | (with_reducible refine i_neS ?_)
  | (with_reducible refine i_and ?_)
  | (with_reducible refine i_or ?_)
  | (with_reducible refine i_not ?_)
  | (with_reducible refine i_asg ?_)
  | (with_reducible refine i_drop ?_)
  | (with_reducible refine i_cons ?_)
  | (with_reducible refine i_nil ?_)
  | (with_reducible refine i_tup ?_)
  | (with_reducible refine i_lst ?_)
  | (with_reducible refine i_few (by simp only [List.length_cons, List.length_nil]; decide) ?_)
  | (with_reducible refine i_CB ?_)
  | (with_reducible refine i_call0 ?_)
  | (with_reducible refine i_call ?_)
  | (with_reducible refine i_BM ?_)
  | (with_reducible refine i_BM0 ?_)
  | (with_reducible refine i_un ?_)
  | (with_reducible refine i_U ?_)
  | (with_reducible refine i_iteT ?_)
  | (with_reducible refine i_iteF ?_)
  | (with_reducible refine i_ntT ?_)
  | (with_reducible refine i_ntF ?_)
  | (with_reducible refine i_next ?_)
  | (with_reducible refine i_retN ?_)
  | (with_reducible refine i_brk ?_)
  | (with_reducible refine i_cont ?_)
  | ((with_reducible apply i_aug ?h ?_); (case h => exact rfl))
  | (with_reducible refine i_ipI ?_)
  | (with_reducible refine i_par ?_)
  | (with_reducible refine i_two ?_)
  | (with_reducible refine i_B ?_)
  | (with_reducible refine i_andV ?_)
  | (with_reducible refine i_orV ?_)
  | (with_reducible refine i_notV ?_)
  | (with_reducible refine i_ifE ?_)
  | (with_reducible refine i_chain ?_)
  | (with_reducible refine i_forL ?_)
  | (with_reducible refine i_forR ?_)
  | (with_reducible refine i_lcL ?_)
  | (with_reducible refine i_lcR ?_)
  | ((with_reducible refine i_wipe ?e ?_); (case e => rfl))
  | (with_reducible refine i_yes ?_)
  | ((with_reducible apply i_tyL ?h ?_); (case h => walk_at "g_sq"))
  | ((with_reducible apply i_app ?h ?g ?_); (case h => walk_at "g_hp"); (case g => walk_at "g_sz"))
  | ((with_reducible apply i_lenO ?h ?g ?_); (case h => walk_at "g_hp"); (case g => exact rfl))
  | ((with_reducible apply i_lenL ?h ?_); (case h => walk_at "g_sq"))
  | ((with_reducible apply i_lenT ?h ?_); (case h => walk_at "g_st"))
  | ((with_reducible apply i_gTup ?h ?g ?_); (case h => walk_at "g_st"); (case g => rfl))
  | ((with_reducible apply i_setL ?h ?g ?_); (case h => walk_at "g_hp"); (case g => first | (simp only [List.length_append, List.length_cons, List.length_nil]; exact ix_last _) | (simp only [List.length_cons]; exact ix_zero _) | rfl))
  | (with_reducible refine i_gCons ?_)
  | (with_reducible refine i_gNil ?_)
  | (with_reducible refine i_gName ?_)
  | (with_reducible refine i_gSub ?_)
  | (with_reducible refine i_revL ?_)
  | ((with_reducible apply i_revd ?h ?g); (case h => walk_at "g_sq"))
  | ((with_reducible apply i_ins0 ?h ?g ?k); (case h => walk_at "g_hp"); (case g => walk_at "g_sz"))
  | ((with_reducible apply i_ixS (by with_reducible assumption) ?k ?g ?_); (case k => walk_at "g_fx"); (case g => walk_at "g_at"))
  | ((with_reducible apply i_ixO ?h ?g ?_); (case h => walk_at "g_hp"); (case g => walk_at "g_at"))
  | ((with_reducible apply i_ixL ?h ?g ?_); (case h => walk_at "g_sq"); (case g => walk_at "g_at"))
  | (with_reducible refine i_abs ?_)
  | (with_reducible refine i_max2 ?_)
  | (with_reducible refine i_min2 ?_)
  | (with_reducible refine i_pw6 ?_)
  | (with_reducible refine i_pw16 ?_)
  | (with_reducible refine i_pw18 ?_)
  | (with_reducible refine i_pw58 ?_)
  | (with_reducible refine i_pw59 ?_)
  | (with_reducible refine i_pw60 ?_)
  | (with_reducible refine i_pw61 ?_)
  | ((with_reducible refine i_mod ?c ?_); (case c => omega))
  | ((with_reducible refine i_div ?c ?d ?_); (case c => omega); (case d => omega))
  | ((with_reducible refine i_dm ?c ?d ?_); (case c => omega); (case d => omega))
  | ((with_reducible apply i_listL ?h ?g); (case h => walk_at "g_sq"))
  | ((with_reducible apply i_listT ?h ?g); (case h => walk_at "g_st"))
  | (with_reducible refine i_isNn ?_)
  | (with_reducible refine i_isNr ?_)
  | (with_reducible refine i_isNi ?_)
  | (with_reducible refine i_notNn ?_)
  | (with_reducible refine i_notNr ?_)
  | (with_reducible refine i_notNi ?_)
  | (with_reducible refine i_meth ?_)
  | (with_reducible refine i_methD ?_)
  | ((with_reducible apply i_methR ?h ?g ?_); (case h => walk_at "g_hp"); (case g => exact rfl))
  | (walk_at "g_own")
  | (with_reducible refine i_methW ?_)
  | ((with_reducible apply i_methWR ?h ?g ?_); (case h => walk_at "g_hp"); (case g => exact rfl))
  | ((with_reducible apply i_lens ?h ?g ?_); (case h => exact rfl); (case g => exact rfl))
  | (with_reducible refine i_kw ?_)
  | (with_reducible refine i_mk ?_)
  | (with_reducible refine i_mkD ?_)
  | (with_reducible refine i_mkK ?_)
  | (with_reducible refine i_fld ?_)
  | ((with_reducible apply i_fldR ?h ?c ?n ?g ?_); (case h => walk_at "g_hp"); (case c => with_reducible assumption); (case n => with_reducible assumption); (case g => exact rfl))
  | (with_reducible refine i_fldS ?_)
  | ((with_reducible apply i_fldSR ?h ?c ?n ?g ?_); (case h => walk_at "g_hp"); (case c => with_reducible assumption); (case n => with_reducible assumption); (case g => exact fs_few (by rfl)))
  | (with_reducible refine i_gCut ?_)
  | (with_reducible refine i_sl ?_)
  | (with_reducible refine i_part ?_)
  | (with_reducible refine i_partI ?_)
  | (with_reducible refine i_noPart ?_)
  | ((with_reducible apply i_slL ?h ?_); (case h => walk_at "g_sq"))
  | (with_reducible refine i_forZ ?_)
  | (with_reducible refine i_lcZ ?_)
  | ((with_reducible apply i_addL ?h ?g ?z ?_); (case h => walk_at "g_hp"); (case g => walk_at "g_hp"); (case z => (try simp only [List.length_append, List.length_cons, List.length_nil, List.length_map]); omega))
  | ((with_reducible refine i_mulI ?c ?_); (case c => first | exact Or.inl ⟨by omega, by omega⟩ | exact Or.inr ⟨by omega, by omega⟩)))
local macro_rules | `(tactic| walk_at "gr") => `(tactic| first | ((walk_at "g1"); (walk_at "gr")) | skip)
local macro_rules | `(tactic| walk_at "gs") => `(tactic| (walk_at "gr"))

def top (i : Nat) : Stmt := PySem.Challenge.pw_forkthrift_k11_sizes_numbers_runs.main.body.getD i (.Pass ⟨0, 0, 0, 0⟩)
abbrev s_wall : Stmt := top 0
abbrev s_is_number : Stmt := top 3
abbrev s_is_whole : Stmt := top 4
abbrev s_is_size : Stmt := top 5
abbrev s_is_run : Stmt := top 6
abbrev s_are_runs : Stmt := top 7
abbrev s_joined : Stmt := top 8
abbrev s_cut_out : Stmt := top 9
abbrev s_want_size : Stmt := top 17
abbrev s_want_number : Stmt := top 18
abbrev s_want_cell : Stmt := top 19
abbrev s_Memory_init : Stmt := inClass (top 20) 0
abbrev s_Memory_size : Stmt := inClass (top 20) 1
abbrev s_Memory_at : Stmt := inClass (top 20) 2
abbrev s_Memory_runs : Stmt := inClass (top 20) 3
abbrev s_Memory_lay : Stmt := inClass (top 20) 4
abbrev s_Memory_put : Stmt := inClass (top 20) 5
abbrev s_Memory_fill : Stmt := inClass (top 20) 6
abbrev s_Memory_bring : Stmt := inClass (top 20) 7
abbrev s_Memory_copied : Stmt := inClass (top 20) 8
abbrev s_Memory_eq : Stmt := inClass (top 20) 9
abbrev s_Memory_len : Stmt := inClass (top 20) 10
abbrev s_Memory_repr : Stmt := inClass (top 20) 11
abbrev s_memory_of : Stmt := top 21
abbrev s_law_pot : Stmt := top 23
abbrev s_law_draw : Stmt := top 24
abbrev s_law_size : Stmt := top 25
abbrev s_law_value : Stmt := top 26
abbrev s_law_thing : Stmt := top 27
abbrev s_law_is_whole : Stmt := top 28
abbrev s_law_pairs : Stmt := top 29
abbrev s_law_odd_pair : Stmt := top 30
abbrev s_law_spoilt : Stmt := top 31
abbrev s_law_are_due : Stmt := top 32
abbrev s_law_is : Stmt := top 33
abbrev s_law_made : Stmt := top 34
abbrev s_law_of_any_size : Stmt := top 35
abbrev s_law_right : Stmt := top 36
abbrev s_law : Stmt := top 37
def tyNames : List String := ["NoneType", "int", "bool", "str", "list", "tuple", "dict"]
theorem kit_other {K : PySem.W.Frag} {C : Addr} (hc : PySem.W.isClsIn K C = true) (ht : PySem.W.typeIn K (.ref C) = some (.type "type")) {n : String} (h : PySem.W.subIn K (.type n) (.ref C) = some false) : PySem.W.kitOne K (.type n) (.ref C) = some false := by
  unfold PySem.W.kitOne PySem.W.kitCls
  unfold PySem.W.isClsIn at hc
  rw [if_neg (by simp)]
  simp only [hc, ht, h, beq_self_eq_true, Bool.and_self, if_true]
theorem kit_me {K : PySem.W.Frag} {C : Addr} : PySem.W.kitOne K (.ref C) (.ref C) = some true := by
  unfold PySem.W.kitOne
  rw [if_pos (by simp)]
/-- what the top leaves -/
structure Txt (K : PySem.W.Frag) (mg : Str → Option Value) where
  c_Memory : Addr
  cl_Memory : Cls K c_Memory
  mg_Memory : mg "Memory" = some (.ref c_Memory)
  na_Memory_pairs : NoAttr K c_Memory "pairs"
  na_Memory_wide : NoAttr K c_Memory "wide"
  ic_Memory : C8.InsC K c_Memory
  ot_Memory : ∀ n ∈ tyNames, PySem.W.kitOne K (.type n) (.ref c_Memory) = some false
  ne_Memory : PySem.W.findIn K (.ref c_Memory) "__ne__" = some (some (.builtin "object.__ne__"))
  x_ForkError : Addr
  mx_ForkError : mg "ForkError" = some (.ref x_ForkError)
  ec_ForkError : L2.ExcC K x_ForkError
  et_ForkError : PySem.W.typeIn K (.ref x_ForkError) = some (.type "type")
  x_NoRuns : Addr
  mx_NoRuns : mg "NoRuns" = some (.ref x_NoRuns)
  ec_NoRuns : L2.ExcC K x_NoRuns
  et_NoRuns : PySem.W.typeIn K (.ref x_NoRuns) = some (.type "type")
  ek_NoRuns : PySem.W.keepIn K (.ref x_NoRuns) = true
  en_NoRuns : PySem.W.excIn K x_NoRuns [.type "ValueError", .type "Exception", .type "BaseException", .type "object"] "ValueError.__new__" = true
  is_NoRuns_ForkError : PySem.W.subIn K (.ref x_NoRuns) (.ref x_ForkError) = some true
  is_NoRuns_NoRuns : PySem.W.subIn K (.ref x_NoRuns) (.ref x_NoRuns) = some true
  a_wall : Addr
  d_wall : FuncData
  F_wall : FunD K "_wall" "_wall" (defArgs s_wall) (defBody s_wall) (defScope s_wall) [] ([] : List (Str × V)) a_wall d_wall
  m_wall : mg "_wall" = some (.ref a_wall)
  b_wall : BindsD K d_wall ["k"] []
  a_is_number : Addr
  d_is_number : FuncData
  F_is_number : FunD K "is_number" "is_number" (defArgs s_is_number) (defBody s_is_number) (defScope s_is_number) [] ([] : List (Str × V)) a_is_number d_is_number
  m_is_number : mg "is_number" = some (.ref a_is_number)
  b_is_number : BindsD K d_is_number ["thing"] []
  a_is_whole : Addr
  d_is_whole : FuncData
  F_is_whole : FunD K "is_whole" "is_whole" (defArgs s_is_whole) (defBody s_is_whole) (defScope s_is_whole) [] ([] : List (Str × V)) a_is_whole d_is_whole
  m_is_whole : mg "is_whole" = some (.ref a_is_whole)
  b_is_whole : BindsD K d_is_whole ["thing", "least", "most"] []
  a_is_size : Addr
  d_is_size : FuncData
  F_is_size : FunD K "is_size" "is_size" (defArgs s_is_size) (defBody s_is_size) (defScope s_is_size) [] ([] : List (Str × V)) a_is_size d_is_size
  m_is_size : mg "is_size" = some (.ref a_is_size)
  b_is_size : BindsD K d_is_size ["thing"] []
  a_is_run : Addr
  d_is_run : FuncData
  F_is_run : FunD K "is_run" "is_run" (defArgs s_is_run) (defBody s_is_run) (defScope s_is_run) [] ([] : List (Str × V)) a_is_run d_is_run
  m_is_run : mg "is_run" = some (.ref a_is_run)
  b_is_run : BindsD K d_is_run ["thing"] []
  a_are_runs : Addr
  d_are_runs : FuncData
  F_are_runs : FunD K "are_runs" "are_runs" (defArgs s_are_runs) (defBody s_are_runs) (defScope s_are_runs) [] ([] : List (Str × V)) a_are_runs d_are_runs
  m_are_runs : mg "are_runs" = some (.ref a_are_runs)
  b_are_runs : BindsD K d_are_runs ["thing", "size"] []
  a_joined : Addr
  d_joined : FuncData
  F_joined : FunD K "joined" "joined" (defArgs s_joined) (defBody s_joined) (defScope s_joined) [] ([] : List (Str × V)) a_joined d_joined
  m_joined : mg "joined" = some (.ref a_joined)
  b_joined : BindsD K d_joined ["pairs"] []
  a_cut_out : Addr
  d_cut_out : FuncData
  F_cut_out : FunD K "cut_out" "cut_out" (defArgs s_cut_out) (defBody s_cut_out) (defScope s_cut_out) [] ([] : List (Str × V)) a_cut_out d_cut_out
  m_cut_out : mg "cut_out" = some (.ref a_cut_out)
  b_cut_out : BindsD K d_cut_out ["pairs", "begin", "end"] []
  a_want_size : Addr
  d_want_size : FuncData
  F_want_size : FunD K "want_size" "want_size" (defArgs s_want_size) (defBody s_want_size) (defScope s_want_size) [] ([] : List (Str × V)) a_want_size d_want_size
  m_want_size : mg "want_size" = some (.ref a_want_size)
  b_want_size : BindsD K d_want_size ["thing"] []
  a_want_number : Addr
  d_want_number : FuncData
  F_want_number : FunD K "want_number" "want_number" (defArgs s_want_number) (defBody s_want_number) (defScope s_want_number) [] ([] : List (Str × V)) a_want_number d_want_number
  m_want_number : mg "want_number" = some (.ref a_want_number)
  b_want_number : BindsD K d_want_number ["thing"] []
  a_want_cell : Addr
  d_want_cell : FuncData
  F_want_cell : FunD K "want_cell" "want_cell" (defArgs s_want_cell) (defBody s_want_cell) (defScope s_want_cell) [] ([] : List (Str × V)) a_want_cell d_want_cell
  m_want_cell : mg "want_cell" = some (.ref a_want_cell)
  b_want_cell : BindsD K d_want_cell ["thing", "size"] []
  a_Memory_init : Addr
  d_Memory_init : FuncData
  F_Memory_init : FunD K "__init__" "Memory.__init__" (defArgs s_Memory_init) (defBody s_Memory_init) (defScope s_Memory_init) [] ([("number", V.int 0)] : List (Str × V)) a_Memory_init d_Memory_init
  mk_Memory : Mk K c_Memory a_Memory_init
  b_Memory_init : BindsD K d_Memory_init ["self", "size", "number"] [V.int 0]
  a_Memory_size : Addr
  d_Memory_size : FuncData
  F_Memory_size : FunD K "size" "Memory.size" (defArgs s_Memory_size) (defBody s_Memory_size) (defScope s_Memory_size) [] ([] : List (Str × V)) a_Memory_size d_Memory_size
  me_Memory_size : Meth K c_Memory "size" a_Memory_size
  b_Memory_size : BindsD K d_Memory_size ["self"] []
  a_Memory_at : Addr
  d_Memory_at : FuncData
  F_Memory_at : FunD K "at" "Memory.at" (defArgs s_Memory_at) (defBody s_Memory_at) (defScope s_Memory_at) [] ([] : List (Str × V)) a_Memory_at d_Memory_at
  me_Memory_at : Meth K c_Memory "at" a_Memory_at
  b_Memory_at : BindsD K d_Memory_at ["self", "cell"] []
  a_Memory_runs : Addr
  d_Memory_runs : FuncData
  F_Memory_runs : FunD K "runs" "Memory.runs" (defArgs s_Memory_runs) (defBody s_Memory_runs) (defScope s_Memory_runs) [] ([] : List (Str × V)) a_Memory_runs d_Memory_runs
  me_Memory_runs : Meth K c_Memory "runs" a_Memory_runs
  b_Memory_runs : BindsD K d_Memory_runs ["self"] []
  a_Memory_lay : Addr
  d_Memory_lay : FuncData
  F_Memory_lay : FunD K "lay" "Memory.lay" (defArgs s_Memory_lay) (defBody s_Memory_lay) (defScope s_Memory_lay) [] ([] : List (Str × V)) a_Memory_lay d_Memory_lay
  me_Memory_lay : Meth K c_Memory "lay" a_Memory_lay
  b_Memory_lay : BindsD K d_Memory_lay ["self", "begin", "pairs", "end"] []
  a_Memory_put : Addr
  d_Memory_put : FuncData
  F_Memory_put : FunD K "put" "Memory.put" (defArgs s_Memory_put) (defBody s_Memory_put) (defScope s_Memory_put) [] ([] : List (Str × V)) a_Memory_put d_Memory_put
  me_Memory_put : Meth K c_Memory "put" a_Memory_put
  b_Memory_put : BindsD K d_Memory_put ["self", "cell", "number"] []
  a_Memory_fill : Addr
  d_Memory_fill : FuncData
  F_Memory_fill : FunD K "fill" "Memory.fill" (defArgs s_Memory_fill) (defBody s_Memory_fill) (defScope s_Memory_fill) [] ([] : List (Str × V)) a_Memory_fill d_Memory_fill
  me_Memory_fill : Meth K c_Memory "fill" a_Memory_fill
  b_Memory_fill : BindsD K d_Memory_fill ["self", "begin", "end", "number"] []
  a_Memory_bring : Addr
  d_Memory_bring : FuncData
  F_Memory_bring : FunD K "bring" "Memory.bring" (defArgs s_Memory_bring) (defBody s_Memory_bring) (defScope s_Memory_bring) [] ([("source", V.non)] : List (Str × V)) a_Memory_bring d_Memory_bring
  me_Memory_bring : Meth K c_Memory "bring" a_Memory_bring
  b_Memory_bring : BindsD K d_Memory_bring ["self", "begin", "end", "to", "source"] [V.non]
  a_Memory_copied : Addr
  d_Memory_copied : FuncData
  F_Memory_copied : FunD K "copied" "Memory.copied" (defArgs s_Memory_copied) (defBody s_Memory_copied) (defScope s_Memory_copied) [] ([] : List (Str × V)) a_Memory_copied d_Memory_copied
  me_Memory_copied : Meth K c_Memory "copied" a_Memory_copied
  b_Memory_copied : BindsD K d_Memory_copied ["self"] []
  a_Memory_eq : Addr
  d_Memory_eq : FuncData
  F_Memory_eq : FunD K "__eq__" "Memory.__eq__" (defArgs s_Memory_eq) (defBody s_Memory_eq) (defScope s_Memory_eq) [] ([] : List (Str × V)) a_Memory_eq d_Memory_eq
  me_Memory_eq : Meth K c_Memory "__eq__" a_Memory_eq
  b_Memory_eq : BindsD K d_Memory_eq ["self", "other"] []
  a_Memory_len : Addr
  d_Memory_len : FuncData
  F_Memory_len : FunD K "__len__" "Memory.__len__" (defArgs s_Memory_len) (defBody s_Memory_len) (defScope s_Memory_len) [] ([] : List (Str × V)) a_Memory_len d_Memory_len
  me_Memory_len : Meth K c_Memory "__len__" a_Memory_len
  b_Memory_len : BindsD K d_Memory_len ["self"] []
  a_Memory_repr : Addr
  d_Memory_repr : FuncData
  F_Memory_repr : FunD K "__repr__" "Memory.__repr__" (defArgs s_Memory_repr) (defBody s_Memory_repr) (defScope s_Memory_repr) [] ([] : List (Str × V)) a_Memory_repr d_Memory_repr
  me_Memory_repr : Meth K c_Memory "__repr__" a_Memory_repr
  b_Memory_repr : BindsD K d_Memory_repr ["self"] []
  a_memory_of : Addr
  d_memory_of : FuncData
  F_memory_of : FunD K "memory_of" "memory_of" (defArgs s_memory_of) (defBody s_memory_of) (defScope s_memory_of) [] ([] : List (Str × V)) a_memory_of d_memory_of
  m_memory_of : mg "memory_of" = some (.ref a_memory_of)
  b_memory_of : BindsD K d_memory_of ["runs"] []
  a_law_pot : Addr
  d_law_pot : FuncData
  F_law_pot : FunD K "_law_pot" "_law_pot" (defArgs s_law_pot) (defBody s_law_pot) (defScope s_law_pot) [] ([] : List (Str × V)) a_law_pot d_law_pot
  m_law_pot : mg "_law_pot" = some (.ref a_law_pot)
  b_law_pot : BindsD K d_law_pot ["_law_script", "_law_k"] []
  a_law_draw : Addr
  d_law_draw : FuncData
  F_law_draw : FunD K "_law_draw" "_law_draw" (defArgs s_law_draw) (defBody s_law_draw) (defScope s_law_draw) [] ([] : List (Str × V)) a_law_draw d_law_draw
  m_law_draw : mg "_law_draw" = some (.ref a_law_draw)
  b_law_draw : BindsD K d_law_draw ["_law_pot_here", "_law_many"] []
  a_law_size : Addr
  d_law_size : FuncData
  F_law_size : FunD K "_law_size" "_law_size" (defArgs s_law_size) (defBody s_law_size) (defScope s_law_size) [] ([] : List (Str × V)) a_law_size d_law_size
  m_law_size : mg "_law_size" = some (.ref a_law_size)
  b_law_size : BindsD K d_law_size ["_law_pot_here"] []
  a_law_value : Addr
  d_law_value : FuncData
  F_law_value : FunD K "_law_value" "_law_value" (defArgs s_law_value) (defBody s_law_value) (defScope s_law_value) [] ([] : List (Str × V)) a_law_value d_law_value
  m_law_value : mg "_law_value" = some (.ref a_law_value)
  b_law_value : BindsD K d_law_value ["_law_pot_here"] []
  a_law_thing : Addr
  d_law_thing : FuncData
  F_law_thing : FunD K "_law_thing" "_law_thing" (defArgs s_law_thing) (defBody s_law_thing) (defScope s_law_thing) [] ([] : List (Str × V)) a_law_thing d_law_thing
  m_law_thing : mg "_law_thing" = some (.ref a_law_thing)
  b_law_thing : BindsD K d_law_thing ["_law_pot_here"] []
  a_law_is_whole : Addr
  d_law_is_whole : FuncData
  F_law_is_whole : FunD K "_law_is_whole" "_law_is_whole" (defArgs s_law_is_whole) (defBody s_law_is_whole) (defScope s_law_is_whole) [] ([] : List (Str × V)) a_law_is_whole d_law_is_whole
  m_law_is_whole : mg "_law_is_whole" = some (.ref a_law_is_whole)
  b_law_is_whole : BindsD K d_law_is_whole ["_law_thing_here", "_law_least", "_law_most"] []
  a_law_pairs : Addr
  d_law_pairs : FuncData
  F_law_pairs : FunD K "_law_pairs" "_law_pairs" (defArgs s_law_pairs) (defBody s_law_pairs) (defScope s_law_pairs) [] ([] : List (Str × V)) a_law_pairs d_law_pairs
  m_law_pairs : mg "_law_pairs" = some (.ref a_law_pairs)
  b_law_pairs : BindsD K d_law_pairs ["_law_pot_here", "_law_wide"] []
  a_law_odd_pair : Addr
  d_law_odd_pair : FuncData
  F_law_odd_pair : FunD K "_law_odd_pair" "_law_odd_pair" (defArgs s_law_odd_pair) (defBody s_law_odd_pair) (defScope s_law_odd_pair) [] ([] : List (Str × V)) a_law_odd_pair d_law_odd_pair
  m_law_odd_pair : mg "_law_odd_pair" = some (.ref a_law_odd_pair)
  b_law_odd_pair : BindsD K d_law_odd_pair ["_law_pot_here", "_law_pair", "_law_ahead"] []
  a_law_spoilt : Addr
  d_law_spoilt : FuncData
  F_law_spoilt : FunD K "_law_spoilt" "_law_spoilt" (defArgs s_law_spoilt) (defBody s_law_spoilt) (defScope s_law_spoilt) [] ([] : List (Str × V)) a_law_spoilt d_law_spoilt
  m_law_spoilt : mg "_law_spoilt" = some (.ref a_law_spoilt)
  b_law_spoilt : BindsD K d_law_spoilt ["_law_pot_here", "_law_pairs_here"] []
  a_law_are_due : Addr
  d_law_are_due : FuncData
  F_law_are_due : FunD K "_law_are_due" "_law_are_due" (defArgs s_law_are_due) (defBody s_law_are_due) (defScope s_law_are_due) [] ([] : List (Str × V)) a_law_are_due d_law_are_due
  m_law_are_due : mg "_law_are_due" = some (.ref a_law_are_due)
  b_law_are_due : BindsD K d_law_are_due ["_law_thing_here", "_law_wide"] []
  a_law_is : Addr
  d_law_is : FuncData
  F_law_is : FunD K "_law_is" "_law_is" (defArgs s_law_is) (defBody s_law_is) (defScope s_law_is) [] ([] : List (Str × V)) a_law_is d_law_is
  m_law_is : mg "_law_is" = some (.ref a_law_is)
  b_law_is : BindsD K d_law_is ["_law_told", "_law_due"] []
  a_law_made : Addr
  d_law_made : FuncData
  F_law_made : FunD K "_law_made" "_law_made" (defArgs s_law_made) (defBody s_law_made) (defScope s_law_made) [] ([] : List (Str × V)) a_law_made d_law_made
  m_law_made : mg "_law_made" = some (.ref a_law_made)
  b_law_made : BindsD K d_law_made ["_law_thing_here"] []
  a_law_of_any_size : Addr
  d_law_of_any_size : FuncData
  F_law_of_any_size : FunD K "_law_of_any_size" "_law_of_any_size" (defArgs s_law_of_any_size) (defBody s_law_of_any_size) (defScope s_law_of_any_size) [] ([] : List (Str × V)) a_law_of_any_size d_law_of_any_size
  m_law_of_any_size : mg "_law_of_any_size" = some (.ref a_law_of_any_size)
  b_law_of_any_size : BindsD K d_law_of_any_size ["_law_thing_here"] []
  a_law_right : Addr
  d_law_right : FuncData
  F_law_right : FunD K "_law_right" "_law_right" (defArgs s_law_right) (defBody s_law_right) (defScope s_law_right) [] ([] : List (Str × V)) a_law_right d_law_right
  m_law_right : mg "_law_right" = some (.ref a_law_right)
  b_law_right : BindsD K d_law_right ["_law_pot_here"] []
  a_law : Addr
  d_law : FuncData
  F_law : FunD K "law" "law" (defArgs s_law) (defBody s_law) (defScope s_law) [] ([] : List (Str × V)) a_law d_law
  m_law : mg "law" = some (.ref a_law)
  b_law : BindsD K d_law ["_law_script"] []
  t_LARGEST : Tok
  g_LARGEST : mg "LARGEST" = some (.int 1000000000000000000 t_LARGEST)
  n_ValueError : mg "ValueError" = none
  n_abs : mg "abs" = none
  n_all : mg "all" = none
  n_any : mg "any" = none
  n_bool : mg "bool" = none
  n_divmod : mg "divmod" = none
  n_int : mg "int" = none
  n_isinstance : mg "isinstance" = none
  n_len : mg "len" = none
  n_list : mg "list" = none
  n_max : mg "max" = none
  n_min : mg "min" = none
  n_range : mg "range" = none
  n_repr : mg "repr" = none
  n_sum : mg "sum" = none
  n_tuple : mg "tuple" = none
  n_zip : mg "zip" = none
/-! ### pots and draws -/
def sp_law_pot (K : PySem.W.Frag) : Sp := fun vs H Q _ => ∃ (a : Addr) (ns : List Int) (i : Nat),
  vs = [.ref a, .int i] ∧ SqL K H a (ns.map V.int) ∧ i ≤ 100 ∧
  ∀ p H', Fr H p → Kp [] H H' → PotAt H' p → Q (.ref p) H'
theorem sc_law_pot : FnScope ["_law_script", "_law_k", "_law_cell"] ["_law_script", "_law_k"] (defScope s_law_pot) :=
  ⟨rfl, rfl, rfl, by decide +kernel, rfl, by decide +kernel, by decide +kernel⟩
theorem ok_law_pot {P : Program} {w : World} {K : PySem.W.Frag} {mg : Str → Option Value} {base : Heap} (T : Txt K mg) :
    FnG P w K mg base 1 T.a_law_pot T.d_law_pot ["_law_script", "_law_k"] (sp_law_pot K) := by
  refine okD T.F_law_pot sc_law_pot (fun vs H Q E h => ?_) (fun cdv A outer s H vs Q E hr h => ?_)
  · first
      | (obtain ⟨_, rfl, _⟩ := h; rfl)
      | (obtain ⟨_, _, rfl, _⟩ := h; rfl)
      | (obtain ⟨_, _, _, rfl, _⟩ := h; rfl)
      | (obtain ⟨_, _, _, _, rfl, _⟩ := h; rfl)
      | (obtain ⟨_, _, _, _, _, rfl, _⟩ := h; rfl)
      | (obtain ⟨_, _, _, _, _, _, rfl, _⟩ := h; rfl)
      | (obtain ⟨_, _, _, _, _, _, _, rfl, _⟩ := h; rfl)
      | (obtain ⟨_, _, _, _, _, _, _, _, rfl, _⟩ := h; rfl)
      | (obtain ⟨_, _, _, _, _, _, _, _, _, rfl, _⟩ := h; rfl)
      | (obtain ⟨_, _, _, _, _, _, _, _, _, _, rfl, _⟩ := h; rfl)
      | (obtain ⟨_, _, _, _, _, _, _, _, _, _, _, rfl, _⟩ := h; rfl)
  · obtain ⟨a, ns, i, rfl, hsq, hi, k⟩ := h
    refine ⟨_, (pss_cons (ps_set (i := 2) sc_law_pot.nd rfl (Or.inl rfl) (pe_ifExp (pt_cmpR op_lt (pv 1) (pe_callB (k_len (K := K) rfl) (by rfl) T.n_len (by decide +kernel) (pa_cons (pv 0) pa_nil)) (nomark _)) (pe_ix (k_ix (K := K) rfl) (pv 0) (pv 1) (fun _ _ => rfl)) (pe_op (k_add (K := K) rfl) (pe_op o_mul pe_int (pv 1)) pe_int)))
      (pss_one (ps_ret (pe_lst (pa_cons (pe_callB (c_max2 rfl) (by rfl) T.n_max (by decide +kernel) (pa_cons pe_int (pa_cons (pe_op op_sub (pe_callB c_abs (by rfl) T.n_abs (by decide +kernel) (pa_cons (pv 2) pa_nil)) (pe_op o_pow pe_int pe_int)) pa_nil))) (pa_cons (pe_op (k_add (K := K) rfl) (pe_op (k_add (K := K) rfl) (pe_op o_mod (pe_callB c_abs (by rfl) T.n_abs (by decide +kernel) (pa_cons (pv 2) pa_nil)) pe_int) (pe_op o_mul pe_int (pv 1))) pe_int) pa_nil)))))), ?_⟩
    dsimp only [cxOf, st_1, st_2, st_3, st_4, st_5, st_6, List.length_cons, List.length_nil, List.replicate_succ, List.replicate_zero, Nat.reduceAdd, Nat.reduceSub]
    walk_at "gs"
    refine i_dec (fun h0 => ?_) (fun h0 => ?_)
    · rw [List.length_map] at h0
      have hx : (ns.map V.int)[i]? = some (V.int (ns[i]'(by omega))) := by simp
      have hat := atI_nat hx
      walk_at "gs"
      refine i_new fun p hp => ?_
      refine k p _ hp (Kp.new hp) ⟨_, _, upd_same, ?_, ?_, ?_⟩ <;> omega
    · walk_at "gs"
      refine i_new fun p hp => ?_
      refine k p _ hp (Kp.new hp) ⟨_, _, upd_same, ?_, ?_, ?_⟩ <;> omega
def sp_law_draw : Sp := fun vs H Q _ => ∃ (p : Addr) (n : Int), vs = [.ref p, .int n] ∧ PotAt H p ∧ 0 < n ∧
  n ≤ 10000000000000000000000000000000000000000000000000000000000000000000000 ∧
  ∀ r H', 0 ≤ r → r < n → PotAt H' p → Kp [p] H H' → Q (.int r) H'
theorem sc_law_draw : FnScope ["_law_pot_here", "_law_many", "_law_digit"] ["_law_pot_here", "_law_many"] (defScope s_law_draw) :=
  ⟨rfl, rfl, rfl, by decide +kernel, rfl, by decide +kernel, by decide +kernel⟩
theorem ok_law_draw {P : Program} {w : World} {K : PySem.W.Frag} {mg : Str → Option Value} {base : Heap} (T : Txt K mg) :
    FnG P w K mg base 1 T.a_law_draw T.d_law_draw ["_law_pot_here", "_law_many"] sp_law_draw := by
  refine okD T.F_law_draw sc_law_draw (fun vs H Q E h => ?_) (fun cdv A outer s H vs Q E hr h => ?_)
  · first
      | (obtain ⟨_, rfl, _⟩ := h; rfl)
      | (obtain ⟨_, _, rfl, _⟩ := h; rfl)
      | (obtain ⟨_, _, _, rfl, _⟩ := h; rfl)
      | (obtain ⟨_, _, _, _, rfl, _⟩ := h; rfl)
      | (obtain ⟨_, _, _, _, _, rfl, _⟩ := h; rfl)
      | (obtain ⟨_, _, _, _, _, _, rfl, _⟩ := h; rfl)
      | (obtain ⟨_, _, _, _, _, _, _, rfl, _⟩ := h; rfl)
      | (obtain ⟨_, _, _, _, _, _, _, _, rfl, _⟩ := h; rfl)
      | (obtain ⟨_, _, _, _, _, _, _, _, _, rfl, _⟩ := h; rfl)
      | (obtain ⟨_, _, _, _, _, _, _, _, _, _, rfl, _⟩ := h; rfl)
      | (obtain ⟨_, _, _, _, _, _, _, _, _, _, _, rfl, _⟩ := h; rfl)
  · obtain ⟨p, n, rfl, ⟨x, y, hp, hx, hy, hy2⟩, h0, h1, k⟩ := h
    refine ⟨_, (pss_cons (ps_if (pt_cmpR op_gt (pe_ix (k_ix (K := K) rfl) (pv 0) pe_int (fun _ _ => rfl)) pe_int (nomark _)) (pss_cons (ps_asg (pe_callB c_dm (by rfl) T.n_divmod (by decide +kernel) (pa_cons (pe_ix (k_ix (K := K) rfl) (pv 0) pe_int (fun _ _ => rfl)) (pa_cons (pv 1) pa_nil))) (k_gtup (K := K) 2 rfl rfl (pgs_cons (pg_sub (pv 0) pe_int set_list) (pgs_cons (pg_name (i := 2) sc_law_draw.nd rfl (Or.inl rfl)) pgs_nil))))
      (pss_one (ps_ret (pv 2)))) pss_nil)
      (pss_cons (ps_asg (pe_op o_mod (pe_op (k_add (K := K) rfl) (pe_op o_mul (pe_ix (k_ix (K := K) rfl) (pv 0) pe_int (fun _ _ => rfl)) pe_int) pe_int) pe_int) (pg_sub (pv 0) pe_int set_list))
      (pss_one (ps_ret (pe_op o_mod (pe_op o_div (pe_op o_mod (pe_op o_mul (pe_ix (k_ix (K := K) rfl) (pv 0) pe_int (fun _ _ => rfl)) (pe_ix (k_ix (K := K) rfl) (pv 0) pe_int (fun _ _ => rfl))) pe_int) pe_int) (pv 1)))))), ?_⟩
    dsimp only [cxOf, st_1, st_2, st_3, st_4, st_5, st_6, List.length_cons, List.length_nil, List.replicate_succ, List.replicate_zero, Nat.reduceAdd, Nat.reduceSub]
    walk_at "gs"
    refine i_dec (fun hx0 => ?_) (fun hx0 => ?_)
    · walk_at "gs"
      refine i_new fun q hq => ?_
      walk_at "gs"
      refine k _ _ (Int.emod_nonneg _ (by omega)) (Int.emod_lt_of_pos _ h0) ⟨_, _, upd_same, ?_, hy, hy2⟩ ?_
      · exact Int.ediv_nonneg hx (by omega)
      · walk_at "g_kp"
    · walk_at "gs"
      refine k _ _ (Int.emod_nonneg _ (by omega)) (Int.emod_lt_of_pos _ h0) ⟨_, _, upd_same, hx, ?_, ?_⟩ ?_
      · omega
      · omega
      · walk_at "g_kp"
theorem use_draw {H : Hp} {Q : VK} {E : XK} {p : Addr} {n : Int} (hp : PotAt H p) (h0 : 0 < n)
    (h1 : n ≤ 10000000000000000000000000000000000000000000000000000000000000000000000)
    (k : ∀ r H', 0 ≤ r → r < n → PotAt H' p → Kp [p] H H' → Q (.int r) H') :
    sp_law_draw [.ref p, .int n] H Q E := ⟨p, n, rfl, hp, h0, h1, k⟩

def sp_law_value : Sp := fun vs H Q _ => ∃ (p : Addr), vs = [.ref p] ∧ PotAt H p ∧
  ∀ r H', -1000000000000000000000000000000000000000000000000000000000000 ≤ r →
    r ≤ 1000000000000000000000000000000000000000000000000000000000000 → PotAt H' p → Kp [p] H H' → Q (.int r) H'
theorem sc_law_value : FnScope ["_law_pot_here", "_law_way"] ["_law_pot_here"] (defScope s_law_value) :=
  ⟨rfl, rfl, rfl, by decide +kernel, rfl, by decide +kernel, by decide +kernel⟩
theorem ok_law_value {P : Program} {w : World} {K : PySem.W.Frag} {mg : Str → Option Value} {base : Heap} (T : Txt K mg) :
    FnG P w K mg base 2 T.a_law_value T.d_law_value ["_law_pot_here"] sp_law_value := by
  refine okD T.F_law_value sc_law_value (fun vs H Q E h => ?_) (fun cdv A outer s H vs Q E hr h => ?_)
  · first
      | (obtain ⟨_, rfl, _⟩ := h; rfl)
      | (obtain ⟨_, _, rfl, _⟩ := h; rfl)
      | (obtain ⟨_, _, _, rfl, _⟩ := h; rfl)
      | (obtain ⟨_, _, _, _, rfl, _⟩ := h; rfl)
      | (obtain ⟨_, _, _, _, _, rfl, _⟩ := h; rfl)
      | (obtain ⟨_, _, _, _, _, _, rfl, _⟩ := h; rfl)
      | (obtain ⟨_, _, _, _, _, _, _, rfl, _⟩ := h; rfl)
      | (obtain ⟨_, _, _, _, _, _, _, _, rfl, _⟩ := h; rfl)
      | (obtain ⟨_, _, _, _, _, _, _, _, _, rfl, _⟩ := h; rfl)
      | (obtain ⟨_, _, _, _, _, _, _, _, _, _, rfl, _⟩ := h; rfl)
      | (obtain ⟨_, _, _, _, _, _, _, _, _, _, _, rfl, _⟩ := h; rfl)
  · obtain ⟨p, rfl, hp, k⟩ := h
    refine ⟨_, (pss_cons (ps_set (i := 1) sc_law_value.nd rfl (Or.inl rfl) (d1 (ok_law_draw T) (hr.mono (by decide)) (by rfl) T.m_law_draw T.F_law_draw.kp T.b_law_draw passL (pa_cons (pv 0) (pa_cons pe_int pa_nil))))
      (pss_cons (ps_if (pt_cmpR op_lt (pv 1) pe_int (nomark _)) (pss_one (ps_ret (d1 (ok_law_draw T) (hr.mono (by decide)) (by rfl) T.m_law_draw T.F_law_draw.kp T.b_law_draw passL (pa_cons (pv 0) (pa_cons pe_int pa_nil))))) pss_nil)
      (pss_one (ps_ret (pe_ifExp (pt_cmpR (k_eq (K := K) rfl hr.r.units) (pv 1) pe_int (nomark _)) (pe_op op_sub (d1 (ok_law_draw T) (hr.mono (by decide)) (by rfl) T.m_law_draw T.F_law_draw.kp T.b_law_draw passL (pa_cons (pv 0) (pa_cons pe_int pa_nil))) pe_int) (pe_op op_sub (d1 (ok_law_draw T) (hr.mono (by decide)) (by rfl) T.m_law_draw T.F_law_draw.kp T.b_law_draw passL (pa_cons (pv 0) (pa_cons (pe_op o_pow pe_int pe_int) pa_nil))) (pe_op o_pow pe_int pe_int))))))), ?_⟩
    dsimp only [cxOf, st_1, st_2, st_3, st_4, st_5, st_6, List.length_cons, List.length_nil, List.replicate_succ, List.replicate_zero, Nat.reduceAdd, Nat.reduceSub]
    walk_at "gs"
    refine use_draw hp (by decide) (by decide) (fun r H1 a1 a2 hp1 k1 => ?_)
    walk_at "gs"
    refine i_dec (fun c => ?_) (fun c => ?_)
    · walk_at "gs"
      refine use_draw hp1 (by decide) (by decide) (fun r2 H2 b1 b2 hp2 k2 => ?_)
      exact k _ _ (by omega) (by omega) hp2 (k1.trans k2)
    · walk_at "gs"
      refine i_dec (fun c => ?_) (fun c => ?_)
      · walk_at "gs"
        refine use_draw hp1 (by decide) (by decide) (fun r2 H2 b1 b2 hp2 k2 => ?_)
        walk_at "gs"
        exact k _ _ (by omega) (by omega) hp2 (k1.trans k2)
      · walk_at "gs"
        refine use_draw hp1 (by decide) (by decide) (fun r2 H2 b1 b2 hp2 k2 => ?_)
        walk_at "gs"
        exact k _ _ (by omega) (by omega) hp2 (k1.trans k2)
theorem use_value {H : Hp} {Q : VK} {E : XK} {p : Addr} (hp : PotAt H p)
    (k : ∀ r H', -1000000000000000000000000000000000000000000000000000000000000 ≤ r →
      r ≤ 1000000000000000000000000000000000000000000000000000000000000 → PotAt H' p → Kp [p] H H' → Q (.int r) H') :
    sp_law_value [.ref p] H Q E := ⟨p, rfl, hp, k⟩

/-! ### joined -/
def jst (f : List (Int × Int)) (p : Int × Int) : List (Int × Int) :=
  if 0 < p.1 then
    match f.getLast? with
    | some q => if q.2 = p.2 then f.dropLast ++ [(q.1 + p.1, p.2)] else f ++ [p]
    | none => [p]
  else f
theorem jst_same {f0 : List (Int × Int)} {q0 p : Int × Int} (h0 : 0 < p.1) (h1 : q0.2 = p.2) :
    jst (f0 ++ [q0]) p = f0 ++ [(q0.1 + p.1, p.2)] := by
  unfold jst
  rw [if_pos h0]
  simp [h1]
theorem jst_other {f0 : List (Int × Int)} {q0 p : Int × Int} (h0 : 0 < p.1) (h1 : ¬ q0.2 = p.2) :
    jst (f0 ++ [q0]) p = f0 ++ [q0] ++ [p] := by
  unfold jst
  rw [if_pos h0]
  simp [h1]
theorem jst_nil {p : Int × Int} (h0 : 0 < p.1) : jst [] p = [p] := by
  unfold jst
  rw [if_pos h0]
  rfl
theorem jst_no {f : List (Int × Int)} {p : Int × Int} (h0 : ¬ 0 < p.1) : jst f p = f := by
  unfold jst
  rw [if_neg h0]
def jnd (ps : List (Int × Int)) : List (Int × Int) := ps.foldl jst []
theorem jst_len (f : List (Int × Int)) (p : Int × Int) : (jst f p).length ≤ f.length + 1 := by
  unfold jst
  split
  · split
    · split
      · rename_i q hq _
        simp only [List.length_append, List.length_dropLast, List.length_singleton]
        omega
      · simp
    · simp
  · omega
theorem jnd_take {ps : List (Int × Int)} {i : Nat} {p : Int × Int} (h : ps[i]? = some p) :
    jnd (ps.take (i + 1)) = jst (jnd (ps.take i)) p := by
  unfold jnd
  rw [List.take_add_one, h, List.foldl_append]
  rfl
theorem jnd_len : ∀ (ps : List (Int × Int)) (i : Nat), (jnd (ps.take i)).length ≤ i
  | ps, 0 => by simp [jnd]
  | ps, i + 1 => by
    cases h : ps[i]? with
    | none =>
      have e : ps.take (i + 1) = ps.take i := by
        rw [List.take_add_one, h]
        simp
      rw [e]
      have q := jnd_len ps i
      omega
    | some p =>
      rw [jnd_take h]
      have q := jnd_len ps i
      have q2 := jst_len (jnd (ps.take i)) p
      omega
def sp_joined (K : PySem.W.Frag) : Sp := fun vs H Q _ => ∃ (a : Addr) (ps : List (Int × Int)),
  vs = [.ref a] ∧ Dp K H (.ref a) (.list (ps.map d2)) ∧ ps.length ≤ 100000 ∧
  ∀ l H', Fr H l → Kp [] H H' → LD K H' l ((jnd ps).map d2) → Q (.ref l) H'
theorem sc_joined : FnScope ["pairs", "found", "many", "number"] ["pairs"] (defScope s_joined) :=
  ⟨rfl, rfl, rfl, by decide +kernel, rfl, by decide +kernel, by decide +kernel⟩
theorem ok_joined {P : Program} {w : World} {K : PySem.W.Frag} {mg : Str → Option Value} {base : Heap} (T : Txt K mg) :
    FnG P w K mg base 1 T.a_joined T.d_joined ["pairs"] (sp_joined K) := by
  refine okD T.F_joined sc_joined (fun vs H Q E h => ?_) (fun cdv A outer s H vs Q E hr h => ?_)
  · first
      | (obtain ⟨_, rfl, _⟩ := h; rfl)
      | (obtain ⟨_, _, rfl, _⟩ := h; rfl)
      | (obtain ⟨_, _, _, rfl, _⟩ := h; rfl)
      | (obtain ⟨_, _, _, _, rfl, _⟩ := h; rfl)
      | (obtain ⟨_, _, _, _, _, rfl, _⟩ := h; rfl)
      | (obtain ⟨_, _, _, _, _, _, rfl, _⟩ := h; rfl)
      | (obtain ⟨_, _, _, _, _, _, _, rfl, _⟩ := h; rfl)
      | (obtain ⟨_, _, _, _, _, _, _, _, rfl, _⟩ := h; rfl)
      | (obtain ⟨_, _, _, _, _, _, _, _, _, rfl, _⟩ := h; rfl)
      | (obtain ⟨_, _, _, _, _, _, _, _, _, _, rfl, _⟩ := h; rfl)
      | (obtain ⟨_, _, _, _, _, _, _, _, _, _, _, rfl, _⟩ := h; rfl)
  · obtain ⟨a, ps, rfl, ha, hps, k⟩ := h
    cases ha
    rename_i xs hsq hall
    have hlen := dpa_len hall
    rw [List.length_map] at hlen
    have cl_Memory := T.cl_Memory
    have na_Memory_pairs := T.na_Memory_pairs
    have na_Memory_wide := T.na_Memory_wide
    refine ⟨_, (pss_cons (ps_set (i := 1) sc_joined.nd rfl (Or.inl rfl) (pe_lst pa_nil))
      (pss_cons (ps_for (passes_of rfl) rfl (k_plist (K := K) rfl (pv 0)) (k_gtup (K := K) 2 rfl rfl (pgs_cons (pg_name (i := 2) sc_joined.nd rfl (Or.inl rfl)) (pgs_cons (pg_name (i := 3) sc_joined.nd rfl (Or.inl rfl)) pgs_nil)))
      (pss_one (ps_if (PW.pt (pw_and (pt_cmpR op_gt (pv 2) pe_int (nomark _)) (pw_and (pt_cmpR (k_ne (K := K) rfl hr.r.units) (pv 1) (pe_lst pa_nil) (nomark _)) (pw_and1 (pt_cmpR (k_eq (K := K) rfl hr.r.units) (pe_ix (k_ix (K := K) rfl) (pe_ix (k_ix (K := K) rfl) (pv 1) (pe_un un_neg pe_int) (fun _ _ => rfl)) pe_int (fun _ _ => rfl)) (pv 3) (nomark _)))))) (pss_one (ps_asg (pe_tup (pa_cons (pe_op (k_add (K := K) rfl) (pe_ix (k_ix (K := K) rfl) (pe_ix (k_ix (K := K) rfl) (pv 1) (pe_un un_neg pe_int) (fun _ _ => rfl)) pe_int (fun _ _ => rfl)) (pv 2)) (pa_cons (pv 3) pa_nil))) (pg_sub (pv 1) (pe_un un_neg pe_int) set_list))) (pss_one (ps_if (pt_cmpR op_gt (pv 2) pe_int (nomark _)) (pss_one (ps_expr (pe_bm PySem.F.plainAttrs_list PySem.F.slot_list_append PySem.F.type_list_append mt_append (pv 1) (pa_cons (pe_tup (pa_cons (pv 2) (pa_cons (pv 3) pa_nil))) pa_nil)))) pss_nil)))))
      (pss_one (ps_ret (pv 1))))), ?_⟩
    dsimp only [cxOf, st_1, st_2, st_3, st_4, st_5, st_6, List.length_cons, List.length_nil, List.replicate_succ, List.replicate_zero, Nat.reduceAdd, Nat.reduceSub]
    walk_at "gs"
    refine i_new fun l hl => ?_
    walk_at "gs"
    refine i_each ((Kp.new hl).seqL (ws := []) List.not_mem_nil hsq) (fun i σ H' => ∃ u v, σ = [some (.ref a), some (.ref l), u, v] ∧ Kp [] H H' ∧
      LD K H' l ((jnd (ps.take i)).map d2)) ?_ ?_ ?_ ?_
    · exact ⟨none, none, rfl, Kp.new hl, ⟨[], upd_same, .nil⟩⟩
    · rintro i σ H' _ ⟨u, v, rfl, kp, ld⟩
      exact kp.seqL List.not_mem_nil hsq
    · rintro i x σ H' hx ⟨u, v, rfl, kp, ld⟩
      obtain ⟨d, hd, hdp⟩ := dpa_getV hall hx
      obtain ⟨p, hp, rfl⟩ := map_get hd
      obtain ⟨pa, rfl, hpt⟩ := dp_pair hdp
      replace hpt := kp.seqT hpt
      obtain ⟨vs, hvs, hall2⟩ := id ld
      have hvl := dpa_len hall2
      rw [List.length_map] at hvl
      have hjl := jnd_len ps i
      have hil : i < ps.length := (List.getElem?_eq_some_iff.mp hp).1
      walk_at "gs"
      refine i_dec (fun h0 => ?_) (fun h0 => ?_)
      · walk_at "gs"
        refine i_new fun q hq => ?_
        walk_at "gs"
        refine ne_nil ld (imms_d2 _) (shaped_pairs _) hq ?_
        walk_at "gs"
        refine i_boN (fun e => ?_) (fun e => ?_)
        · obtain ⟨f0, q0, hF⟩ := list_last (l := jnd (ps.take i)) (by
            intro z
            rw [z] at e
            cases e)
          rw [hF, List.map_append] at hall2
          obtain ⟨us, x, rfl, hu, hx2⟩ := dpa_last hall2
          obtain ⟨qa, rfl, hqa⟩ := dp_pair hx2
          rw [List.length_append, List.length_singleton] at hvl
          walk_at "gs"
          refine i_dec (fun h1 => ?_) (fun h1 => ?_)
          · walk_at "gs"
            refine i_new fun t ht => ?_
            walk_at "gs"
            rw [set_last]
            refine ⟨_, _, rfl, ?_, _, upd_same, ?_⟩
            · walk_at "g_kp"
            · have kl : Kp [l] H' (upd (upd (upd H' q (.lst [])) t (.tup [.int (q0.1 + p.1), .int p.2])) l
                  (.lst (us ++ [V.ref t]))) := by walk_at "g_kp"
              rw [jnd_take hp, hF, jst_same h0 h1, List.map_append]
              exact dpa_app (dpa_imm kl _ _ (imms_d2 _) hu) (dpa_one (dp_mk2 (by walk_at "g_st")))
          · walk_at "gs"
            refine i_dec (fun _ => ?_) (fun z => absurd h0 z)
            walk_at "gs"
            refine i_new fun t ht => ?_
            walk_at "gs"
            refine ⟨_, _, rfl, ?_, _, upd_same, ?_⟩
            · walk_at "g_kp"
            · have kl : Kp [l] H' (upd (upd (upd H' q (.lst [])) t (.tup [.int p.1, .int p.2])) l
                  (.lst (us ++ [V.ref qa] ++ [V.ref t]))) := by walk_at "g_kp"
              rw [jnd_take hp, hF, jst_other h0 h1, List.map_append, List.map_append]
              exact dpa_app (dpa_app (dpa_imm kl _ _ (imms_d2 _) hu) (dpa_one (dp_imm kl _ _ rfl hx2))) (dpa_one (dp_mk2 (by walk_at "g_st")))
        · walk_at "gs"
          refine i_dec (fun _ => ?_) (fun z => absurd h0 z)
          walk_at "gs"
          refine i_new fun t ht => ?_
          walk_at "gs"
          have hF : jnd (ps.take i) = [] := by
            cases z : jnd (ps.take i) with
            | nil => rfl
            | cons x y =>
              rw [z] at e
              cases e
          rw [hF] at hall2
          cases hall2
          refine ⟨_, _, rfl, ?_, _, upd_same, ?_⟩
          · walk_at "g_kp"
          · rw [jnd_take hp, hF, jst_nil h0]
            exact dpa_one (dp_mk2 (by walk_at "g_st"))
      · walk_at "gs"
        refine i_dec (fun z => absurd z h0) (fun _ => ?_)
        walk_at "gs"
        refine ⟨_, _, rfl, kp, ?_⟩
        rw [jnd_take hp, jst_no h0]
        exact ld
    · rintro σ H' ⟨u, v, rfl, kp, ld⟩
      walk_at "gs"
      rw [List.take_of_length_le (by omega)] at ld
      exact k l H' hl kp ld

/-! ### counting from the back -/
def wst (f : List (Int × Int)) (p : Int × Int) : List (Int × Int) :=
  match f with
  | [] => [(0 + p.1, p.2)]
  | q :: t => if q.2 = p.2 then (q.1 + p.1, p.2) :: t else (0 + p.1, p.2) :: q :: t
def pos (p : Int × Int) : Bool := decide (0 < p.1)
def wrt (ps : List (Int × Int)) : List (Int × Int) := (ps.reverse.filter pos).foldl wst []
def wr : List (Int × Int) → List (Int × Int)
  | [] => []
  | p :: ps => if 0 < p.1 then wst (wr ps) p else wr ps
theorem wrt_eq (ps : List (Int × Int)) : wrt ps = wr ps := by
  induction ps with
  | nil => rfl
  | cons p ps ih =>
    unfold wrt at *
    rw [List.reverse_cons, List.filter_append, List.foldl_append, ih]
    by_cases h : 0 < p.1
    · simp [wr, h, pos]
    · simp [wr, h, pos]
/-- what is put ahead of the rest -/
def glue (f : List (Int × Int)) : List (Int × Int) → List (Int × Int)
  | [] => f
  | q :: t => jst f q ++ t
theorem wr_pos : ∀ (ps : List (Int × Int)) (q : Int × Int), q ∈ wr ps → 0 < q.1
  | [], _, h => nomatch h
  | p :: ps, q, h => by
    unfold wr at h
    by_cases hp : 0 < p.1
    · rw [if_pos hp] at h
      cases e : wr ps with
      | nil =>
        rw [e] at h
        simp only [wst, List.mem_singleton] at h
        rw [h]
        show 0 < 0 + p.1
        omega
      | cons x t =>
        have hx : 0 < x.1 := wr_pos ps x (by rw [e]; exact List.mem_cons_self)
        rw [e] at h
        unfold wst at h
        simp only at h
        by_cases hq : x.2 = p.2
        · rw [if_pos hq] at h
          rcases List.mem_cons.mp h with z | z
          · rw [z]
            show 0 < x.1 + p.1
            omega
          · exact wr_pos ps q (by rw [e]; exact List.mem_cons_of_mem _ z)
        · rw [if_neg hq] at h
          rcases List.mem_cons.mp h with z | z
          · rw [z]
            show 0 < 0 + p.1
            omega
          · exact wr_pos ps q (by rw [e]; exact z)
    · rw [if_neg hp] at h
      exact wr_pos ps q h
theorem jst_cases (f : List (Int × Int)) (p : Int × Int) (h : 0 < p.1) :
    (∃ f0 q0, f = f0 ++ [q0] ∧ q0.2 = p.2 ∧ jst f p = f0 ++ [(q0.1 + p.1, p.2)]) ∨
    ((∀ f0 q0, f = f0 ++ [q0] → q0.2 ≠ p.2) ∧ jst f p = f ++ [p]) := by
  by_cases e : f = []
  · subst e
    exact .inr ⟨fun f0 q0 z => by simp at z, jst_nil h⟩
  · obtain ⟨f0, q0, rfl⟩ := list_last e
    by_cases c : q0.2 = p.2
    · exact .inl ⟨f0, q0, rfl, c, jst_same h c⟩
    · refine .inr ⟨fun g0 r0 z => ?_, jst_other h c⟩
      have z2 := List.append_inj_right' z rfl
      cases z2
      exact c
theorem jst_two (f : List (Int × Int)) (p q : Int × Int) (hp : 0 < p.1) (hq : 0 < q.1) (e : q.2 = p.2) :
    jst (jst f p) q = jst f (q.1 + p.1, p.2) := by
  have h3 : 0 < ((q.1 + p.1, p.2) : Int × Int).1 := by
    show 0 < q.1 + p.1
    omega
  rcases jst_cases f p hp with ⟨f0, q0, rfl, c, z⟩ | ⟨c, z⟩
  · rw [z, jst_same (q0 := (q0.1 + p.1, p.2)) (p := q) hq e.symm, jst_same h3 c]
    congr 2
    rw [e]
    congr 1
    show q0.1 + p.1 + q.1 = q0.1 + (q.1 + p.1)
    omega
  · rw [z, jst_same hq e.symm]
    rcases jst_cases f (q.1 + p.1, p.2) h3 with ⟨f0, q0, rfl, c2, z2⟩ | ⟨c2, z2⟩
    · exact absurd c2 (c f0 q0 rfl)
    · rw [z2, e]
      congr 3
      omega
theorem fold_glue : ∀ (ps f : List (Int × Int)), ps.foldl jst f = glue f (wr ps)
  | [], f => rfl
  | p :: ps, f => by
    rw [List.foldl_cons, fold_glue ps (jst f p)]
    by_cases hp : 0 < p.1
    · have e : wr (p :: ps) = wst (wr ps) p := by
        show (if 0 < p.1 then wst (wr ps) p else wr ps) = _
        rw [if_pos hp]
      rw [e]
      cases h : wr ps with
      | nil =>
        show jst f p = jst f (0 + p.1, p.2) ++ []
        rw [Int.zero_add, List.append_nil]
      | cons q t =>
        have hq : 0 < q.1 := wr_pos ps q (by rw [h]; exact List.mem_cons_self)
        unfold wst
        simp only
        by_cases c : q.2 = p.2
        · rw [if_pos c]
          show jst (jst f p) q ++ t = jst f (q.1 + p.1, p.2) ++ t
          rw [jst_two f p q hp hq c]
        · rw [if_neg c]
          show jst (jst f p) q ++ t = jst f (0 + p.1, p.2) ++ (q :: t)
          rw [Int.zero_add]
          have z : jst (jst f p) q = jst f p ++ [q] := by
            rcases jst_cases f p hp with ⟨f0, q0, rfl, d, z⟩ | ⟨d, z⟩
            · rw [z, jst_other (q0 := (q0.1 + p.1, p.2)) (p := q) hq (fun k => c k.symm)]
            · rw [z, jst_other hq (fun k => c k.symm)]
          rw [z, List.append_assoc]
          rfl
    · have e : wr (p :: ps) = wr ps := by
        show (if 0 < p.1 then wst (wr ps) p else wr ps) = _
        rw [if_neg hp]
      rw [e, jst_no hp]
theorem jnd_wr (ps : List (Int × Int)) : jnd ps = wr ps := by
  unfold jnd
  rw [fold_glue]
  cases h : wr ps with
  | nil => rfl
  | cons q t =>
    have hq : 0 < q.1 := wr_pos ps q (by rw [h]; exact List.mem_cons_self)
    show jst [] q ++ t = q :: t
    rw [jst_nil hq]
    rfl
theorem wr_len : ∀ ps : List (Int × Int), (wr ps).length ≤ ps.length
  | [] => Nat.le_refl _
  | p :: ps => by
    have q := wr_len ps
    unfold wr
    split
    · cases h : wr ps with
      | nil => simp [wst]
      | cons x t =>
        rw [h] at q
        simp only [wst, List.length_cons] at *
        split <;> simp only [List.length_cons] <;> omega
    · rw [List.length_cons]
      omega
/-- told again of what was told it is the same -/
theorem wst_wr (f : List (Int × Int)) (p : Int × Int) (hp : 0 < p.1) (hf : wr f = f)
    (hpos : ∀ q ∈ f, 0 < q.1) : wr (wst f p) = wst f p := by
  cases f with
  | nil =>
    show (if 0 < 0 + p.1 then wst [] (0 + p.1, p.2) else []) = [(0 + p.1, p.2)]
    rw [Int.zero_add, if_pos hp]
    simp [wst]
  | cons q t =>
    have hq := hpos q List.mem_cons_self
    have ht : wst (wr t) q = q :: t := by
      have z : (if 0 < q.1 then wst (wr t) q else wr t) = q :: t := hf
      rwa [if_pos hq] at z
    unfold wst
    simp only
    by_cases c : q.2 = p.2
    · rw [if_pos c]
      show (if 0 < q.1 + p.1 then wst (wr t) (q.1 + p.1, p.2) else wr t) = _
      rw [if_pos (by omega)]
      cases e : wr t with
      | nil =>
        rw [e] at ht
        simp only [wst, List.cons.injEq] at ht
        simp [wst, ← ht.2]
      | cons x u =>
        rw [e] at ht
        unfold wst at ht ⊢
        simp only at ht ⊢
        by_cases d : x.2 = q.2
        · rw [if_pos d] at ht
          have hu : wr t = t := by
            have l1 := wr_len t
            rw [e] at l1
            have l2 := congrArg List.length ht
            simp only [List.length_cons] at l1 l2
            omega
          rw [hu] at e
          subst e
          have l2 := congrArg List.length ht
          simp only [List.length_cons] at l2
          omega
        · rw [if_neg d] at ht
          rw [if_neg (by rw [← c]; exact d)]
          rw [Int.zero_add]
          have z := (List.cons.inj ht).2
          rw [z]
    · rw [if_neg c]
      show (if 0 < 0 + p.1 then wst (wr (q :: t)) (0 + p.1, p.2) else wr (q :: t)) = _
      rw [Int.zero_add, if_pos hp, hf]
      unfold wst
      simp only
      rw [if_neg c, Int.zero_add]
theorem wr_wr : ∀ ps : List (Int × Int), wr (wr ps) = wr ps
  | [] => rfl
  | p :: ps => by
    have e : wr (p :: ps) = if 0 < p.1 then wst (wr ps) p else wr ps := rfl
    rw [e]
    split
    · exact wst_wr _ _ (by assumption) (wr_wr ps) (wr_pos ps)
    · exact wr_wr ps

/-! ### runs and cells -/
def rle (cs : List Int) : List (Int × Int) := wr (cs.map tag)
theorem cells_nil : cells [] = [] := rfl
theorem cells_cons (p : Int × Int) (ps : List (Int × Int)) : cells (p :: ps) = List.replicate p.1.toNat p.2 ++ cells ps := rfl
theorem cells_app (ps qs : List (Int × Int)) : cells (ps ++ qs) = cells ps ++ cells qs := List.flatMap_append
theorem cells_tag : ∀ cs : List Int, cells (cs.map tag) = cs
  | [] => rfl
  | c :: cs => by
    rw [List.map_cons, cells_cons, cells_tag cs]
    rfl
theorem cells_wst (f : List (Int × Int)) (p : Int × Int) (hp : 0 < p.1) (hf : ∀ q ∈ f, 0 < q.1) :
    cells (wst f p) = List.replicate p.1.toNat p.2 ++ cells f := by
  cases f with
  | nil => simp [wst, cells_cons]
  | cons q t =>
    have hq := hf q List.mem_cons_self
    unfold wst
    simp only
    by_cases c : q.2 = p.2
    · rw [if_pos c, cells_cons, cells_cons]
      show List.replicate (q.1 + p.1).toNat p.2 ++ cells t = _
      have e : (q.1 + p.1).toNat = p.1.toNat + q.1.toNat := by omega
      rw [e, ← List.replicate_append_replicate, List.append_assoc, c]
    · rw [if_neg c, cells_cons]
      show List.replicate (0 + p.1).toNat p.2 ++ _ = _
      rw [Int.zero_add]
theorem cells_wr : ∀ ps : List (Int × Int), cells (wr ps) = cells ps
  | [] => rfl
  | p :: ps => by
    rw [cells_cons]
    unfold wr
    by_cases hp : 0 < p.1
    · rw [if_pos hp, cells_wst _ _ hp (wr_pos ps), cells_wr ps]
    · rw [if_neg hp, cells_wr ps]
      have e : p.1.toNat = 0 := by omega
      rw [e]
      rfl
theorem wst_more (f : List (Int × Int)) (n v : Int) (hn : 0 < n) : wst (wst f (n, v)) (1, v) = wst f (n + 1, v) := by
  cases f with
  | nil =>
    show wst [(0 + n, v)] (1, v) = [(0 + (n + 1), v)]
    unfold wst
    simp only [if_true]
    congr 2
    omega
  | cons q t =>
    by_cases c : q.2 = v
    · have e1 : wst (q :: t) (n, v) = (q.1 + n, v) :: t := by simp [wst, c]
      have e2 : wst (q :: t) (n + 1, v) = (q.1 + (n + 1), v) :: t := by simp [wst, c]
      have e3 : wst ((q.1 + n, v) :: t) (1, v) = (q.1 + n + 1, v) :: t := by simp [wst]
      rw [e1, e2, e3]
      congr 2
      omega
    · have e1 : wst (q :: t) (n, v) = (0 + n, v) :: q :: t := by simp [wst, c]
      have e2 : wst (q :: t) (n + 1, v) = (0 + (n + 1), v) :: q :: t := by simp [wst, c]
      have e3 : wst ((0 + n, v) :: q :: t) (1, v) = (0 + n + 1, v) :: q :: t := by simp [wst]
      rw [e1, e2, e3]
      congr 2
      omega
theorem wst_one (f : List (Int × Int)) (c : Int) : wr (tag c :: f) = wst (wr f) (1, c) := by
  show (if (0 : Int) < 1 then wst (wr f) (1, c) else wr f) = _
  rw [if_pos (by decide)]
theorem rle_rep (v : Int) (cs : List Int) : ∀ n : Nat, rle (List.replicate (n + 1) v ++ cs) = wst (rle cs) ((n : Int) + 1, v)
  | 0 => by
    show wr (tag v :: cs.map tag) = _
    rw [wst_one]
    rfl
  | n + 1 => by
    have ih := rle_rep v cs n
    have e : rle (List.replicate (n + 1 + 1) v ++ cs) = wst (rle (List.replicate (n + 1) v ++ cs)) (1, v) := by
      show wr (tag v :: (List.replicate (n + 1) v ++ cs).map tag) = _
      rw [wst_one]
      rfl
    rw [e, ih, wst_more _ _ _ (by omega)]
    congr 2
theorem wr_rle : ∀ ps : List (Int × Int), wr ps = rle (cells ps)
  | [] => rfl
  | p :: ps => by
    have ih := wr_rle ps
    rw [cells_cons]
    unfold wr
    by_cases hp : 0 < p.1
    · obtain ⟨n, hn⟩ : ∃ n : Nat, p.1.toNat = n + 1 := ⟨p.1.toNat - 1, by omega⟩
      rw [if_pos hp, hn, rle_rep, ih]
      congr 1
      have e : ((n : Int) + 1) = p.1 := by omega
      rw [e]
    · rw [if_neg hp]
      have e : p.1.toNat = 0 := by omega
      rw [e]
      exact ih
theorem cells_rle (cs : List Int) : cells (rle cs) = cs := by
  unfold rle
  rw [cells_wr, cells_tag]
theorem rle_len (cs : List Int) : (rle cs).length ≤ cs.length := by
  have h := wr_len (cs.map tag)
  rw [List.length_map] at h
  exact h
theorem rle_pos (cs : List Int) : ∀ q ∈ rle cs, 0 < q.1 := wr_pos _
theorem jnd_rle (ps : List (Int × Int)) : jnd ps = rle (cells ps) := by rw [jnd_wr, wr_rle]
theorem rle_inj {cs ds : List Int} (h : rle cs = rle ds) : cs = ds := by
  rw [← cells_rle cs, h, cells_rle]
theorem rle_ne {cs : List Int} (h : cs ≠ []) : rle cs ≠ [] := fun z => h (by rw [← cells_rle cs, z]; rfl)
/-- what of the pairs, that begin at a, lies between b and e -/
def cutF (b e : Int) : Int → List (Int × Int) → List (Int × Int)
  | _, [] => []
  | a, p :: t => (if max b a < min e (a + p.1) then [(min e (a + p.1) - max b a, p.2)] else []) ++ cutF b e (a + p.1) t
def cut (b e : Int) (ps : List (Int × Int)) : List (Int × Int) := cutF b e 0 ps
theorem cutF_len (b e : Int) : ∀ (a : Int) (ps : List (Int × Int)), (cutF b e a ps).length ≤ ps.length
  | _, [] => Nat.le_refl _
  | a, p :: t => by
    have h := cutF_len b e (a + p.1) t
    unfold cutF
    rw [List.length_append, List.length_cons]
    split <;> simp <;> omega
theorem cut_len (b e : Int) (ps : List (Int × Int)) : (cut b e ps).length ≤ ps.length := cutF_len b e 0 ps
theorem cutF_pos (b e : Int) : ∀ (a : Int) (ps : List (Int × Int)) (q : Int × Int), q ∈ cutF b e a ps → 0 < q.1
  | _, [], _, h => nomatch h
  | a, p :: t, q, h => by
    unfold cutF at h
    rcases List.mem_append.mp h with h | h
    · split at h
      · rw [List.mem_singleton.mp h]
        show 0 < min e (a + p.1) - max b a
        omega
      · exact nomatch h
    · exact cutF_pos b e (a + p.1) t q h
def wide (ps : List (Int × Int)) : Int := (ps.map (·.1)).sum
theorem cutF_app (b e : Int) : ∀ (a : Int) (ps : List (Int × Int)) (p : Int × Int), cutF b e a (ps ++ [p]) =
    cutF b e a ps ++ (if max b (a + wide ps) < min e (a + wide ps + p.1) then [(min e (a + wide ps + p.1) - max b (a + wide ps), p.2)] else [])
  | a, [], p => by
    have e0 : a + wide [] = a := Int.add_zero a
    rw [e0]
    show (if max b a < min e (a + p.1) then [(min e (a + p.1) - max b a, p.2)] else []) ++ [] = [] ++ _
    rw [List.append_nil, List.nil_append]
  | a, q :: t, p => by
    have ih := cutF_app b e (a + q.1) t p
    have e0 : a + wide (q :: t) = a + q.1 + wide t := by
      show a + (q.1 + wide t) = _
      omega
    rw [List.cons_append, e0]
    conv => lhs; unfold cutF
    rw [ih]
    conv => rhs; unfold cutF
    rw [List.append_assoc]
theorem cut_take {b e : Int} {ps : List (Int × Int)} {i : Nat} {p : Int × Int} (h : ps[i]? = some p) :
    cut b e (ps.take (i + 1)) = cut b e (ps.take i) ++ (if max b (wide (ps.take i)) < min e (wide (ps.take i) + p.1)
      then [(min e (wide (ps.take i) + p.1) - max b (wide (ps.take i)), p.2)] else []) := by
  unfold cut
  rw [List.take_add_one, h]
  have k := cutF_app b e 0 (ps.take i) p
  rw [Int.zero_add] at k
  exact k
theorem wide_take {ps : List (Int × Int)} {i : Nat} {p : Int × Int} (h : ps[i]? = some p) :
    wide (ps.take (i + 1)) = wide (ps.take i) + p.1 := by
  unfold wide
  rw [List.take_add_one, h, List.map_append, List.sum_append]
  simp
theorem cells_cutF (b e : Int) : ∀ (a : Int) (ps : List (Int × Int)), (∀ q ∈ ps, 0 ≤ q.1) →
    cells (cutF b e a ps) = ((cells ps).drop (b - a).toNat).take ((e - a).toNat - (b - a).toNat)
  | a, [], _ => by simp [cutF, cells]
  | a, p :: t, h => by
    have hp := h p List.mem_cons_self
    have ih := cells_cutF b e (a + p.1) t fun q hq => h q (List.mem_cons_of_mem _ hq)
    unfold cutF
    rw [cells_app, ih, cells_cons, List.drop_append, List.take_append, List.drop_replicate, List.take_replicate, List.length_replicate, List.length_replicate]
    congr 1
    · split
      · rw [cells_cons, cells_nil, List.append_nil]
        show List.replicate (min e (a + p.1) - max b a).toNat p.2 = _
        congr 1
        omega
      · have e0 : min ((e - a).toNat - (b - a).toNat) (p.1.toNat - (b - a).toNat) = 0 := by omega
        rw [e0]
        rfl
    · have e1 : (b - (a + p.1)).toNat = (b - a).toNat - p.1.toNat := by omega
      have e2 : (e - (a + p.1)).toNat - (b - (a + p.1)).toNat = (e - a).toNat - (b - a).toNat - (p.1.toNat - (b - a).toNat) := by omega
      rw [e2, e1]
theorem cells_cut {b e : Int} {ps : List (Int × Int)} (h : ∀ q ∈ ps, 0 ≤ q.1) :
    cells (cut b e ps) = ((cells ps).drop b.toNat).take (e.toNat - b.toNat) := by
  have k := cells_cutF b e 0 ps h
  rw [Int.sub_zero, Int.sub_zero] at k
  exact k
theorem cut_rle {b e : Int} {cs : List Int} : cells (cut b e (rle cs)) = (cs.drop b.toNat).take (e.toNat - b.toNat) := by
  rw [cells_cut fun q hq => Int.le_of_lt (rle_pos cs q hq), cells_rle]
theorem one_cell {ps : List (Int × Int)} {v : Int} (hp : ∀ q ∈ ps, 0 < q.1) (h : cells ps = [v]) : ps = [(1, v)] := by
  cases ps with
  | nil => cases h
  | cons p t =>
    have h0 := hp p List.mem_cons_self
    rw [cells_cons] at h
    have hl := congrArg List.length h
    rw [List.length_append, List.length_replicate, List.length_singleton] at hl
    have e1 : p.1.toNat = 1 := by omega
    have e2 : t = [] := by
      cases t with
      | nil => rfl
      | cons q u =>
        have h1 := hp q (List.mem_cons_of_mem _ List.mem_cons_self)
        rw [cells_cons, List.length_append, List.length_replicate] at hl
        omega
    rw [e1, e2, cells_nil, List.append_nil] at h
    cases h
    rw [e2]
    congr 1
    have e3 : p.1 = 1 := by omega
    rw [← e3]
theorem cut_at {cs : List Int} {c : Nat} {v : Int} (h : cs[c]? = some v) : cut c (c + 1) (rle cs) = [(1, v)] := by
  refine one_cell (cutF_pos _ _ _ _) ?_
  rw [cut_rle]
  obtain ⟨hc, e⟩ := List.getElem?_eq_some_iff.mp h
  have e1 : ((c : Int)).toNat = c := by omega
  have e2 : ((c : Int) + 1).toNat - c = 1 := by omega
  rw [e1, e2, List.drop_eq_getElem_cons hc, e]
  rfl
/-- laid over -/
def laid (cs : List Int) (b : Nat) (xs : List Int) (e : Nat) : List Int := cs.take b ++ xs ++ cs.drop e
theorem laid_rle {cs : List Int} {b e : Int} {ps : List (Int × Int)} :
    jnd (cut 0 b (rle cs) ++ ps ++ cut e cs.length (rle cs)) = rle (laid cs b.toNat (cells ps) e.toNat) := by
  rw [jnd_rle, cells_app, cells_app, cut_rle, cut_rle]
  unfold laid
  rw [List.take_of_length_le (l := cs.drop e.toNat) (by rw [List.length_drop]; omega)]
  rfl
theorem laid_len {cs xs : List Int} {b e : Nat} (h : b ≤ e) (he : e ≤ cs.length) (hx : xs.length = e - b) :
    (laid cs b xs e).length = cs.length := by
  unfold laid
  rw [List.length_append, List.length_append, List.length_take, List.length_drop, hx]
  omega
theorem cells_len : ∀ ps : List (Int × Int), (∀ q ∈ ps, 0 < q.1) → ((cells ps).length : Int) = wide ps
  | [], _ => rfl
  | p :: ps, h => by
    have ih := cells_len ps fun q hq => h q (List.mem_cons_of_mem _ hq)
    have hp := h p List.mem_cons_self
    rw [cells_cons, List.length_append, List.length_replicate]
    show ((p.1.toNat + (cells ps).length : Nat) : Int) = p.1 + wide ps
    omega

/-! ### data of any kind -/
section
variable {K : PySem.W.Frag} {H H' : Hp} {ws : List Addr}
mutual
/-- data none of whose lists is in ws -/
inductive Dx (K : PySem.W.Frag) (H : Hp) (ws : List Addr) : V → PyData → Prop
  | non : Dx K H ws .non .none
  | bl (b : Bool) : Dx K H ws (.bl b) (.bool b)
  | int (i : Int) : Dx K H ws (.int i) (.int i)
  | str (x : Str) : Dx K H ws (.str x) (.str x)
  | lst {a : Addr} {xs : List V} {ds : List PyData} : a ∉ ws → H a = some (.lst xs) → DxAll K H ws xs ds → Dx K H ws (.ref a) (.list ds)
  | tup {a : Addr} {xs : List V} {ds : List PyData} : SqT K H a xs → DxAll K H ws xs ds → Dx K H ws (.ref a) (.tuple ds)
inductive DxAll (K : PySem.W.Frag) (H : Hp) (ws : List Addr) : List V → List PyData → Prop
  | nil : DxAll K H ws [] []
  | cons {v : V} {vs : List V} {d : PyData} {ds : List PyData} : Dx K H ws v d → DxAll K H ws vs ds → DxAll K H ws (v :: vs) (d :: ds)
end
mutual
theorem Dx.dp : ∀ (d : PyData) (v : V), Dx K H ws v d → Dp K H v d
  | .none, _, h => by cases h; exact .non
  | .bool b, _, h => by cases h; exact .bl b
  | .int i, _, h => by cases h; exact .int i
  | .str x, _, h => by cases h; exact .str x
  | .list ds, _, h => by
    cases h with
    | lst _ hs ha => exact .lst (SqL.of hs) (DxAll.dp ds _ ha)
  | .tuple ds, _, h => by
    cases h with
    | tup hs ha => exact .tup hs (DxAll.dp ds _ ha)
  | .dict _, _, h => by cases h
theorem DxAll.dp : ∀ (ds : List PyData) (vs : List V), DxAll K H ws vs ds → DpAll K H vs ds
  | [], _, h => by cases h; exact .nil
  | d :: ds, _, h => by
    cases h with
    | cons h1 h2 => exact .cons (Dx.dp d _ h1) (DxAll.dp ds _ h2)
end
mutual
theorem Dx.kp (k : Kp ws H H') : ∀ (d : PyData) (v : V), Dx K H ws v d → Dx K H' ws v d
  | .none, _, h => by cases h; exact .non
  | .bool b, _, h => by cases h; exact .bl b
  | .int i, _, h => by cases h; exact .int i
  | .str x, _, h => by cases h; exact .str x
  | .list ds, _, h => by
    cases h with
    | lst n hs ha => exact .lst n (k.at_ _ _ hs n) (DxAll.kp k ds _ ha)
  | .tuple ds, _, h => by
    cases h with
    | tup hs ha => exact .tup (k.seqT hs) (DxAll.kp k ds _ ha)
  | .dict _, _, h => by cases h
theorem DxAll.kp (k : Kp ws H H') : ∀ (ds : List PyData) (vs : List V), DxAll K H ws vs ds → DxAll K H' ws vs ds
  | [], _, h => by cases h; exact .nil
  | d :: ds, _, h => by
    cases h with
    | cons h1 h2 => exact .cons (Dx.kp k d _ h1) (DxAll.kp k ds _ h2)
end
mutual
theorem dx_imm : ∀ (d : PyData) (v : V), imm d = true → Dp K H v d → Dx K H ws v d
  | .none, _, _, h => by cases h; exact .non
  | .bool b, _, _, h => by cases h; exact .bl b
  | .int i, _, _, h => by cases h; exact .int i
  | .str x, _, _, h => by cases h; exact .str x
  | .list ds, _, e, h => by simp [imm] at e
  | .tuple ds, _, e, h => by
    cases h with
    | tup hs ha => exact .tup hs (dxs_imm ds _ (by simpa [imm] using e) ha)
  | .dict _, _, _, h => by cases h
theorem dxs_imm : ∀ (ds : List PyData) (vs : List V), imms ds = true → DpAll K H vs ds → DxAll K H ws vs ds
  | [], _, _, h => by cases h; exact .nil
  | d :: ds, _, e, h => by
    cases h with
    | cons h1 h2 =>
      simp only [imms, Bool.and_eq_true] at e
      exact .cons (dx_imm d _ e.1 h1) (dxs_imm ds _ e.2 h2)
end
mutual
theorem Dx.wider {us : List Addr} (hu : ∀ b ∈ us, ∀ xs, H b ≠ some (.lst xs)) : ∀ (d : PyData) (v : V), Dx K H ws v d → Dx K H (us ++ ws) v d
  | .none, _, h => by cases h; exact .non
  | .bool b, _, h => by cases h; exact .bl b
  | .int i, _, h => by cases h; exact .int i
  | .str x, _, h => by cases h; exact .str x
  | .list ds, _, h => by
    cases h with
    | lst n hs ha => exact .lst (fun z => (List.mem_append.mp z).elim (fun z => hu _ z _ hs) n) hs (DxAll.wider hu ds _ ha)
  | .tuple ds, _, h => by
    cases h with
    | tup hs ha => exact .tup hs (DxAll.wider hu ds _ ha)
  | .dict _, _, h => by cases h
theorem DxAll.wider {us : List Addr} (hu : ∀ b ∈ us, ∀ xs, H b ≠ some (.lst xs)) : ∀ (ds : List PyData) (vs : List V), DxAll K H ws vs ds → DxAll K H (us ++ ws) vs ds
  | [], _, h => by cases h; exact .nil
  | d :: ds, _, h => by
    cases h with
    | cons h1 h2 => exact .cons (Dx.wider hu d _ h1) (DxAll.wider hu ds _ h2)
end
theorem dxa_len : ∀ {ds : List PyData} {vs : List V}, DxAll K H ws vs ds → vs.length = ds.length
  | [], _, h => by cases h; rfl
  | d :: ds, _, h => by
    cases h with
    | cons h1 h2 => rw [List.length_cons, List.length_cons, dxa_len h2]
theorem dxa_get : ∀ {ds : List PyData} {vs : List V} {i : Nat} {v : V}, DxAll K H ws vs ds → vs[i]? = some v → ∃ d, ds[i]? = some d ∧ Dx K H ws v d
  | [], _, _, _, h, e => by
    cases h
    simp at e
  | d :: ds, _, 0, _, h, e => by
    cases h with
    | cons h1 h2 =>
      cases e
      exact ⟨d, rfl, h1⟩
  | d :: ds, _, i + 1, _, h, e => by
    cases h with
    | cons h1 h2 =>
      obtain ⟨q, e1, e2⟩ := dxa_get (i := i) h2 (by simpa using e)
      exact ⟨q, by simpa using e1, e2⟩
theorem dxa_app : ∀ {ds es : List PyData} {vs us : List V}, DxAll K H ws vs ds → DxAll K H ws us es → DxAll K H ws (vs ++ us) (ds ++ es)
  | [], _, _, _, h, h' => by
    cases h
    exact h'
  | d :: ds, _, _, _, h, h' => by
    cases h with
    | cons h1 h2 => exact .cons h1 (dxa_app h2 h')
theorem dxa_set : ∀ {ds : List PyData} {vs : List V} {i : Nat} {v : V} {d : PyData}, DxAll K H ws vs ds → Dx K H ws v d → DxAll K H ws (vs.set i v) (ds.set i d)
  | [], _, _, _, _, h, _ => by
    cases h
    exact .nil
  | _ :: ds, _, 0, _, _, h, h' => by
    cases h with
    | cons h1 h2 => exact .cons h' h2
  | _ :: ds, _, i + 1, _, _, h, h' => by
    cases h with
    | cons h1 h2 => exact .cons h1 (dxa_set h2 h')
theorem dxa_take : ∀ {ds : List PyData} {vs : List V} (i : Nat), DxAll K H ws vs ds → DxAll K H ws (vs.take i) (ds.take i)
  | [], _, _, h => by
    cases h
    rw [List.take_nil, List.take_nil]
    exact .nil
  | _ :: ds, _, 0, h => by
    rw [List.take_zero, List.take_zero]
    exact .nil
  | _ :: ds, _, i + 1, h => by
    cases h with
    | cons h1 h2 => exact .cons h1 (dxa_take i h2)
theorem dxa_drop : ∀ {ds : List PyData} {vs : List V} (i : Nat), DxAll K H ws vs ds → DxAll K H ws (vs.drop i) (ds.drop i)
  | [], _, _, h => by
    cases h
    rw [List.drop_nil, List.drop_nil]
    exact .nil
  | _ :: ds, _, 0, h => h
  | _ :: ds, _, i + 1, h => by
    cases h with
    | cons h1 h2 => exact dxa_drop i h2
/-- data, or an empty dict -/
def Tg (K : PySem.W.Frag) (H : Hp) (ws : List Addr) (v : V) (d : PyData) : Prop := Dx K H ws v d ∨ (d = .dict [] ∧ ∃ a, v = .ref a ∧ H a = some (.dK []) ∧ a ∉ ws)
theorem Tg.kp {v : V} {d : PyData} (t : Tg K H ws v d) (k : Kp ws H H') : Tg K H' ws v d := by
  rcases t with h | ⟨rfl, a, rfl, h, n⟩
  · exact .inl (h.kp k _ _)
  · exact .inr ⟨rfl, a, rfl, k.at_ _ _ h n, n⟩
theorem Tg.ty {v : V} {d : PyData} (t : Tg K H ws v d) : TyX K H v (.type (dty d)) := by
  rcases t with h | ⟨rfl, a, rfl, h, n⟩
  · exact dp_ty (h.dp _ _)
  · exact .base (.dK h)
theorem i_isT {T : String} {b : Bool} {Q : VK} {v : V} {d : PyData} (t : Tg K H ws v d) (e : kitB (dty d) T = some b) (h : Q (.bl b) H) :
    rIsi K [v, .ty T] H Q := ⟨v, .ty T, _, _, b, rfl, .ty T, t.ty, L2.kit_ty e, h⟩
def kInt : PyData → Bool
  | .int _ => true
  | .bool _ => true
  | _ => false
def kBool : PyData → Bool
  | .bool _ => true
  | _ => false
def kTup : PyData → Bool
  | .tuple _ => true
  | _ => false
def kLst : PyData → Bool
  | .list _ => true
  | _ => false
theorem kit_int (d : PyData) : kitB (dty d) "int" = some (kInt d) := by cases d <;> (simp only [dty, kInt]; decide +kernel)
theorem kit_bool (d : PyData) : kitB (dty d) "bool" = some (kBool d) := by cases d <;> (simp only [dty, kBool]; decide +kernel)
theorem kit_tup (d : PyData) : kitB (dty d) "tuple" = some (kTup d) := by cases d <;> (simp only [dty, kTup]; decide +kernel)
theorem kit_lst (d : PyData) : kitB (dty d) "list" = some (kLst d) := by cases d <;> (simp only [dty, kLst]; decide +kernel)
theorem i_bool2 {b : Bool} {A B : Prop} (h1 : b = true → A) (h2 : b = false → B) : if b = true then A else B := by
  cases b
  · exact iteF (h2 rfl)
  · exact iteT (h1 rfl)
def isI : PyData → Bool
  | .int _ => true
  | _ => false
def whD (d : PyData) (a b : Int) : Bool :=
  match d with
  | .int n => decide (a ≤ n ∧ n ≤ b)
  | _ => false
theorem isI_eq (d : PyData) : isI d = (kInt d && !kBool d) := by cases d <;> rfl
theorem isI_int {d : PyData} (h : isI d = true) : ∃ n, d = .int n := by
  cases d with
  | int n => exact ⟨n, rfl⟩
  | _ => cases h
theorem whD_no {d : PyData} {a b : Int} (h : isI d = false) : whD d a b = false := by
  cases d with
  | int n => cases h
  | _ => rfl
theorem whD_int {d : PyData} {a b : Int} (h : whD d a b = true) : ∃ n, d = .int n ∧ a ≤ n ∧ n ≤ b := by
  cases d with
  | int n => exact ⟨n, rfl, of_decide_eq_true h⟩
  | _ => cases h
end

/-! ### data, or one of two dicts -/
section
variable {K : PySem.W.Frag} {H H' : Hp} {ws : List Addr}
def dicts (kvs : List (Key × V)) (es : List (PyData × PyData)) : Prop := (kvs = [] ∧ es = []) ∨ (kvs = [(.inl 1, .int 1)] ∧ es = [(.int 1, .int 1)])
def Tz (K : PySem.W.Frag) (H : Hp) (ws : List Addr) (v : V) (d : PyData) : Prop := Dx K H ws v d ∨ ∃ a kvs es, v = .ref a ∧ d = .dict es ∧ H a = some (.dK kvs) ∧ a ∉ ws ∧ dicts kvs es
theorem Tz.kp {v : V} {d : PyData} (t : Tz K H ws v d) (k : Kp ws H H') : Tz K H' ws v d := by
  rcases t with h | ⟨a, kvs, es, e1, e2, h, n, z⟩
  · exact .inl (h.kp k _ _)
  · exact .inr ⟨a, kvs, es, e1, e2, k.at_ _ _ h n, n, z⟩
theorem Tz.ty {v : V} {d : PyData} (t : Tz K H ws v d) : TyX K H v (.type (dty d)) := by
  rcases t with h | ⟨a, kvs, es, rfl, rfl, h, n, z⟩
  · exact dp_ty (h.dp _ _)
  · exact .base (.dK h)
theorem Tz.list {v : V} {ds : List PyData} (t : Tz K H ws v (.list ds)) : Dx K H ws v (.list ds) := by
  rcases t with h | ⟨a, kvs, es, _, e, _⟩
  · exact h
  · cases e
end

/-! ### numbers, asked of anything -/
def Any (K : PySem.W.Frag) (H : Hp) (v : V) (d : PyData) : Prop := TyX K H v (.type (dty d)) ∧ ∀ n, d = .int n → v = .int n
theorem Any.dp {K : PySem.W.Frag} {H : Hp} {v : V} {d : PyData} (h : Dp K H v d) : Any K H v d := ⟨dp_ty h, fun n e => by
  subst e
  cases h
  rfl⟩
theorem Any.int {K : PySem.W.Frag} {H : Hp} (n : Int) : Any K H (.int n) (.int n) := .dp (.int n)
theorem i_isA {K : PySem.W.Frag} {H : Hp} {T : String} {b : Bool} {Q : VK} {v : V} {d : PyData} (t : Any K H v d) (e : kitB (dty d) T = some b) (h : Q (.bl b) H) :
    rIsi K [v, .ty T] H Q := ⟨v, .ty T, _, _, b, rfl, .ty T, t.1, L2.kit_ty e, h⟩
def sp_is_number (K : PySem.W.Frag) : Sp := fun vs H Q _ => ∃ (v : V) (d : PyData), vs = [v] ∧ Any K H v d ∧ Q (.bl (isI d)) H
theorem sc_is_number : FnScope ["thing"] ["thing"] (defScope s_is_number) :=
  ⟨rfl, rfl, rfl, by decide +kernel, rfl, by decide +kernel, by decide +kernel⟩
theorem ok_is_number {P : Program} {w : World} {K : PySem.W.Frag} {mg : Str → Option Value} {base : Heap} (T : Txt K mg) :
    FnG P w K mg base 1 T.a_is_number T.d_is_number ["thing"] (sp_is_number K) := by
  refine okD T.F_is_number sc_is_number (fun vs H Q E h => ?_) (fun cdv A outer s H vs Q E hr h => ?_)
  · first
      | (obtain ⟨_, rfl, _⟩ := h; rfl)
      | (obtain ⟨_, _, rfl, _⟩ := h; rfl)
      | (obtain ⟨_, _, _, rfl, _⟩ := h; rfl)
      | (obtain ⟨_, _, _, _, rfl, _⟩ := h; rfl)
      | (obtain ⟨_, _, _, _, _, rfl, _⟩ := h; rfl)
      | (obtain ⟨_, _, _, _, _, _, rfl, _⟩ := h; rfl)
      | (obtain ⟨_, _, _, _, _, _, _, rfl, _⟩ := h; rfl)
      | (obtain ⟨_, _, _, _, _, _, _, _, rfl, _⟩ := h; rfl)
      | (obtain ⟨_, _, _, _, _, _, _, _, _, rfl, _⟩ := h; rfl)
      | (obtain ⟨_, _, _, _, _, _, _, _, _, _, rfl, _⟩ := h; rfl)
      | (obtain ⟨_, _, _, _, _, _, _, _, _, _, _, rfl, _⟩ := h; rfl)
  · obtain ⟨v, d, rfl, hd, k⟩ := h
    rw [isI_eq] at k
    refine ⟨_, (pss_one (ps_ret (pe_and (pe_callB (k_isi (K := K) rfl) (by rfl) T.n_isinstance (by decide +kernel) (pa_cons (pv 0) (pa_cons (pe_bltn (v := .ty "int") (by rfl) T.n_int (by decide +kernel) rfl) pa_nil))) (pe_one (pe_not (pe_callB (k_isi (K := K) rfl) (by rfl) T.n_isinstance (by decide +kernel) (pa_cons (pv 0) (pa_cons (pe_bltn (v := .ty "bool") (by rfl) T.n_bool (by decide +kernel) rfl) pa_nil)))))))), ?_⟩
    dsimp only [cxOf, st_1, st_2, st_3, st_4, st_5, st_6, List.length_cons, List.length_nil, List.replicate_succ, List.replicate_zero, Nat.reduceAdd, Nat.reduceSub]
    walk_at "gs"
    refine i_isA hd (kit_int d) ?_
    walk_at "gs"
    refine i_bool2 (fun c => ?_) (fun c => ?_)
    · walk_at "gs"
      refine i_isA hd (kit_bool d) ?_
      walk_at "gs"
      rw [c, Bool.true_and] at k
      exact k
    · rw [c, Bool.false_and] at k
      exact k
theorem number_int {K : PySem.W.Frag} {n : Int} {H : Hp} {Q : VK} {E : XK} (h : Q (.bl true) H) : sp_is_number K [.int n] H Q E := ⟨.int n, .int n, rfl, .int n, h⟩
def sp_is_whole (K : PySem.W.Frag) : Sp := fun vs H Q _ => ∃ (v : V) (d : PyData) (a b : Int), vs = [v, .int a, .int b] ∧ Any K H v d ∧ Q (.bl (whD d a b)) H
theorem sc_is_whole : FnScope ["thing", "least", "most"] ["thing", "least", "most"] (defScope s_is_whole) :=
  ⟨rfl, rfl, rfl, by decide +kernel, rfl, by decide +kernel, by decide +kernel⟩
theorem ok_is_whole {P : Program} {w : World} {K : PySem.W.Frag} {mg : Str → Option Value} {base : Heap} (T : Txt K mg) :
    FnG P w K mg base 2 T.a_is_whole T.d_is_whole ["thing", "least", "most"] (sp_is_whole K) := by
  refine okD T.F_is_whole sc_is_whole (fun vs H Q E h => ?_) (fun cdv A outer s H vs Q E hr h => ?_)
  · first
      | (obtain ⟨_, rfl, _⟩ := h; rfl)
      | (obtain ⟨_, _, rfl, _⟩ := h; rfl)
      | (obtain ⟨_, _, _, rfl, _⟩ := h; rfl)
      | (obtain ⟨_, _, _, _, rfl, _⟩ := h; rfl)
      | (obtain ⟨_, _, _, _, _, rfl, _⟩ := h; rfl)
      | (obtain ⟨_, _, _, _, _, _, rfl, _⟩ := h; rfl)
      | (obtain ⟨_, _, _, _, _, _, _, rfl, _⟩ := h; rfl)
      | (obtain ⟨_, _, _, _, _, _, _, _, rfl, _⟩ := h; rfl)
      | (obtain ⟨_, _, _, _, _, _, _, _, _, rfl, _⟩ := h; rfl)
      | (obtain ⟨_, _, _, _, _, _, _, _, _, _, rfl, _⟩ := h; rfl)
      | (obtain ⟨_, _, _, _, _, _, _, _, _, _, _, rfl, _⟩ := h; rfl)
  · obtain ⟨v, d, a, b, rfl, hd, k⟩ := h
    refine ⟨_, (pss_one (ps_ret (pe_and (d1 (ok_is_number T) (hr.mono (by decide)) (by rfl) T.m_is_number T.F_is_number.kp T.b_is_number passL (pa_cons (pv 0) pa_nil)) (pe_one (pe_chain op_le op_le (pv 1) (pv 0) (pv 2)))))), ?_⟩
    dsimp only [cxOf, st_1, st_2, st_3, st_4, st_5, st_6, List.length_cons, List.length_nil, List.replicate_succ, List.replicate_zero, Nat.reduceAdd, Nat.reduceSub]
    walk_at "gs"
    refine ⟨v, d, rfl, hd, ?_⟩
    walk_at "gs"
    refine i_bool2 (fun c => ?_) (fun c => ?_)
    · obtain ⟨n, rfl⟩ := isI_int c
      obtain rfl := hd.2 n rfl
      walk_at "gs"
      refine i_dec (fun c => ?_) (fun c => ?_)
      · walk_at "gs"
        have e : decide (n ≤ b) = whD (.int n) a b := by simp only [whD, c, true_and]
        rw [e]
        exact k
      · have e : false = whD (.int n) a b := by simp only [whD, c, false_and, decide_false]
        rw [e]
        exact k
    · rw [whD_no c] at k
      exact k
theorem whole_int {K : PySem.W.Frag} {n a b : Int} {H : Hp} {Q : VK} {E : XK} (h : Q (.bl (decide (a ≤ n ∧ n ≤ b))) H) : sp_is_whole K [.int n, .int a, .int b] H Q E := ⟨.int n, .int n, a, b, rfl, .int n, h⟩
def sp_is_size (K : PySem.W.Frag) : Sp := fun vs H Q _ => ∃ (v : V) (d : PyData), vs = [v] ∧ Any K H v d ∧ Q (.bl (whD d 1 1000000000000000000)) H
theorem sc_is_size : FnScope ["thing"] ["thing"] (defScope s_is_size) :=
  ⟨rfl, rfl, rfl, by decide +kernel, rfl, by decide +kernel, by decide +kernel⟩
theorem ok_is_size {P : Program} {w : World} {K : PySem.W.Frag} {mg : Str → Option Value} {base : Heap} (T : Txt K mg) :
    FnG P w K mg base 3 T.a_is_size T.d_is_size ["thing"] (sp_is_size K) := by
  refine okD T.F_is_size sc_is_size (fun vs H Q E h => ?_) (fun cdv A outer s H vs Q E hr h => ?_)
  · first
      | (obtain ⟨_, rfl, _⟩ := h; rfl)
      | (obtain ⟨_, _, rfl, _⟩ := h; rfl)
      | (obtain ⟨_, _, _, rfl, _⟩ := h; rfl)
      | (obtain ⟨_, _, _, _, rfl, _⟩ := h; rfl)
      | (obtain ⟨_, _, _, _, _, rfl, _⟩ := h; rfl)
      | (obtain ⟨_, _, _, _, _, _, rfl, _⟩ := h; rfl)
      | (obtain ⟨_, _, _, _, _, _, _, rfl, _⟩ := h; rfl)
      | (obtain ⟨_, _, _, _, _, _, _, _, rfl, _⟩ := h; rfl)
      | (obtain ⟨_, _, _, _, _, _, _, _, _, rfl, _⟩ := h; rfl)
      | (obtain ⟨_, _, _, _, _, _, _, _, _, _, rfl, _⟩ := h; rfl)
      | (obtain ⟨_, _, _, _, _, _, _, _, _, _, _, rfl, _⟩ := h; rfl)
  · obtain ⟨v, d, rfl, hd, k⟩ := h
    refine ⟨_, (pss_one (ps_ret (d1 (ok_is_whole T) (hr.mono (by decide)) (by rfl) T.m_is_whole T.F_is_whole.kp T.b_is_whole passL (pa_cons (pv 0) (pa_cons pe_int (pa_cons (pe_glob (v := V.int 1000000000000000000) rfl T.g_LARGEST ⟨_, rfl⟩) pa_nil)))))), ?_⟩
    dsimp only [cxOf, st_1, st_2, st_3, st_4, st_5, st_6, List.length_cons, List.length_nil, List.replicate_succ, List.replicate_zero, Nat.reduceAdd, Nat.reduceSub]
    walk_at "gs"
    exact ⟨v, d, 1, _, rfl, hd, k⟩
theorem size_int {K : PySem.W.Frag} {n : Int} {H : Hp} {Q : VK} {E : XK} (h : Q (.bl (decide (1 ≤ n ∧ n ≤ 1000000000000000000))) H) : sp_is_size K [.int n] H Q E := ⟨.int n, .int n, rfl, .int n, h⟩
def sp_want_size : Sp := fun vs H Q _ => ∃ n : Int, vs = [.int n] ∧ (1 ≤ n ∧ n ≤ 1000000000000000000) ∧ Q .non H
theorem sc_want_size : FnScope ["thing"] ["thing"] (defScope s_want_size) :=
  ⟨rfl, rfl, rfl, by decide +kernel, rfl, by decide +kernel, by decide +kernel⟩
theorem ok_want_size {P : Program} {w : World} {K : PySem.W.Frag} {mg : Str → Option Value} {base : Heap} (T : Txt K mg) :
    FnG P w K mg base 4 T.a_want_size T.d_want_size ["thing"] sp_want_size := by
  refine okD T.F_want_size sc_want_size (fun vs H Q E h => ?_) (fun cdv A outer s H vs Q E hr h => ?_)
  · first
      | (obtain ⟨_, rfl, _⟩ := h; rfl)
      | (obtain ⟨_, _, rfl, _⟩ := h; rfl)
      | (obtain ⟨_, _, _, rfl, _⟩ := h; rfl)
      | (obtain ⟨_, _, _, _, rfl, _⟩ := h; rfl)
      | (obtain ⟨_, _, _, _, _, rfl, _⟩ := h; rfl)
      | (obtain ⟨_, _, _, _, _, _, rfl, _⟩ := h; rfl)
      | (obtain ⟨_, _, _, _, _, _, _, rfl, _⟩ := h; rfl)
      | (obtain ⟨_, _, _, _, _, _, _, _, rfl, _⟩ := h; rfl)
      | (obtain ⟨_, _, _, _, _, _, _, _, _, rfl, _⟩ := h; rfl)
      | (obtain ⟨_, _, _, _, _, _, _, _, _, _, rfl, _⟩ := h; rfl)
      | (obtain ⟨_, _, _, _, _, _, _, _, _, _, _, rfl, _⟩ := h; rfl)
  · obtain ⟨n, rfl, z, k⟩ := h
    refine ⟨_, (pss_one (ps_if (pt_not (pt_val (d1 (ok_is_size T) (hr.mono (by decide)) (by rfl) T.m_is_size T.F_is_size.kp T.b_is_size passL (pa_cons (pv 0) pa_nil)))) (pss_one ps_never) pss_nil)), ?_⟩
    dsimp only [cxOf, st_1, st_2, st_3, st_4, st_5, st_6, List.length_cons, List.length_nil, List.replicate_succ, List.replicate_zero, Nat.reduceAdd, Nat.reduceSub]
    walk_at "gs"
    refine size_int ?_
    walk_at "gs"
    refine i_decN (fun c => absurd z c) (fun _ => ?_)
    walk_at "gs"
    exact k
def sp_want_number : Sp := fun vs H Q _ => ∃ n : Int, vs = [.int n] ∧ Q .non H
theorem sc_want_number : FnScope ["thing"] ["thing"] (defScope s_want_number) :=
  ⟨rfl, rfl, rfl, by decide +kernel, rfl, by decide +kernel, by decide +kernel⟩
theorem ok_want_number {P : Program} {w : World} {K : PySem.W.Frag} {mg : Str → Option Value} {base : Heap} (T : Txt K mg) :
    FnG P w K mg base 2 T.a_want_number T.d_want_number ["thing"] sp_want_number := by
  refine okD T.F_want_number sc_want_number (fun vs H Q E h => ?_) (fun cdv A outer s H vs Q E hr h => ?_)
  · first
      | (obtain ⟨_, rfl, _⟩ := h; rfl)
      | (obtain ⟨_, _, rfl, _⟩ := h; rfl)
      | (obtain ⟨_, _, _, rfl, _⟩ := h; rfl)
      | (obtain ⟨_, _, _, _, rfl, _⟩ := h; rfl)
      | (obtain ⟨_, _, _, _, _, rfl, _⟩ := h; rfl)
      | (obtain ⟨_, _, _, _, _, _, rfl, _⟩ := h; rfl)
      | (obtain ⟨_, _, _, _, _, _, _, rfl, _⟩ := h; rfl)
      | (obtain ⟨_, _, _, _, _, _, _, _, rfl, _⟩ := h; rfl)
      | (obtain ⟨_, _, _, _, _, _, _, _, _, rfl, _⟩ := h; rfl)
      | (obtain ⟨_, _, _, _, _, _, _, _, _, _, rfl, _⟩ := h; rfl)
      | (obtain ⟨_, _, _, _, _, _, _, _, _, _, _, rfl, _⟩ := h; rfl)
  · obtain ⟨n, rfl, k⟩ := h
    refine ⟨_, (pss_one (ps_if (pt_not (pt_val (d1 (ok_is_number T) (hr.mono (by decide)) (by rfl) T.m_is_number T.F_is_number.kp T.b_is_number passL (pa_cons (pv 0) pa_nil)))) (pss_one ps_never) pss_nil)), ?_⟩
    dsimp only [cxOf, st_1, st_2, st_3, st_4, st_5, st_6, List.length_cons, List.length_nil, List.replicate_succ, List.replicate_zero, Nat.reduceAdd, Nat.reduceSub]
    walk_at "gs"
    refine number_int ?_
    walk_at "gs"
    exact k
def sp_want_cell : Sp := fun vs H Q _ => ∃ c n : Int, vs = [.int c, .int n] ∧ (0 ≤ c ∧ c < n) ∧ Q .non H
theorem sc_want_cell : FnScope ["thing", "size"] ["thing", "size"] (defScope s_want_cell) :=
  ⟨rfl, rfl, rfl, by decide +kernel, rfl, by decide +kernel, by decide +kernel⟩
theorem ok_want_cell {P : Program} {w : World} {K : PySem.W.Frag} {mg : Str → Option Value} {base : Heap} (T : Txt K mg) :
    FnG P w K mg base 3 T.a_want_cell T.d_want_cell ["thing", "size"] sp_want_cell := by
  refine okD T.F_want_cell sc_want_cell (fun vs H Q E h => ?_) (fun cdv A outer s H vs Q E hr h => ?_)
  · first
      | (obtain ⟨_, rfl, _⟩ := h; rfl)
      | (obtain ⟨_, _, rfl, _⟩ := h; rfl)
      | (obtain ⟨_, _, _, rfl, _⟩ := h; rfl)
      | (obtain ⟨_, _, _, _, rfl, _⟩ := h; rfl)
      | (obtain ⟨_, _, _, _, _, rfl, _⟩ := h; rfl)
      | (obtain ⟨_, _, _, _, _, _, rfl, _⟩ := h; rfl)
      | (obtain ⟨_, _, _, _, _, _, _, rfl, _⟩ := h; rfl)
      | (obtain ⟨_, _, _, _, _, _, _, _, rfl, _⟩ := h; rfl)
      | (obtain ⟨_, _, _, _, _, _, _, _, _, rfl, _⟩ := h; rfl)
      | (obtain ⟨_, _, _, _, _, _, _, _, _, _, rfl, _⟩ := h; rfl)
      | (obtain ⟨_, _, _, _, _, _, _, _, _, _, _, rfl, _⟩ := h; rfl)
  · obtain ⟨c, n, rfl, z, k⟩ := h
    refine ⟨_, (pss_one (ps_if (pt_not (pt_val (d1 (ok_is_whole T) (hr.mono (by decide)) (by rfl) T.m_is_whole T.F_is_whole.kp T.b_is_whole passL (pa_cons (pv 0) (pa_cons pe_int (pa_cons (pe_op op_sub (pv 1) pe_int) pa_nil)))))) (pss_one ps_never) pss_nil)), ?_⟩
    dsimp only [cxOf, st_1, st_2, st_3, st_4, st_5, st_6, List.length_cons, List.length_nil, List.replicate_succ, List.replicate_zero, Nat.reduceAdd, Nat.reduceSub]
    walk_at "gs"
    refine whole_int ?_
    walk_at "gs"
    refine i_decN (fun d => absurd (by omega) d) (fun _ => ?_)
    walk_at "gs"
    exact k

/-! ### cutting out -/
def sp_cut_out (K : PySem.W.Frag) : Sp := fun vs H Q _ => ∃ (a : Addr) (b e : Int) (ps : List (Int × Int)),
  vs = [.ref a, .int b, .int e] ∧ Dp K H (.ref a) (.list (ps.map d2)) ∧ ps.length ≤ 100000 ∧
  ∀ l H', Fr H l → Kp [] H H' → LD K H' l ((cut b e ps).map d2) → Q (.ref l) H'
theorem sc_cut_out : FnScope ["pairs", "begin", "end", "found", "at", "many", "number", "low", "high"] ["pairs", "begin", "end"] (defScope s_cut_out) :=
  ⟨rfl, rfl, rfl, by decide +kernel, rfl, by decide +kernel, by decide +kernel⟩
theorem ok_cut_out {P : Program} {w : World} {K : PySem.W.Frag} {mg : Str → Option Value} {base : Heap} (T : Txt K mg) :
    FnG P w K mg base 1 T.a_cut_out T.d_cut_out ["pairs", "begin", "end"] (sp_cut_out K) := by
  refine okD T.F_cut_out sc_cut_out (fun vs H Q E h => ?_) (fun cdv A outer s H vs Q E hr h => ?_)
  · first
      | (obtain ⟨_, rfl, _⟩ := h; rfl)
      | (obtain ⟨_, _, rfl, _⟩ := h; rfl)
      | (obtain ⟨_, _, _, rfl, _⟩ := h; rfl)
      | (obtain ⟨_, _, _, _, rfl, _⟩ := h; rfl)
      | (obtain ⟨_, _, _, _, _, rfl, _⟩ := h; rfl)
      | (obtain ⟨_, _, _, _, _, _, rfl, _⟩ := h; rfl)
      | (obtain ⟨_, _, _, _, _, _, _, rfl, _⟩ := h; rfl)
      | (obtain ⟨_, _, _, _, _, _, _, _, rfl, _⟩ := h; rfl)
      | (obtain ⟨_, _, _, _, _, _, _, _, _, rfl, _⟩ := h; rfl)
      | (obtain ⟨_, _, _, _, _, _, _, _, _, _, rfl, _⟩ := h; rfl)
      | (obtain ⟨_, _, _, _, _, _, _, _, _, _, _, rfl, _⟩ := h; rfl)
  · obtain ⟨a, b, e, ps, rfl, ha, hps, k⟩ := h
    cases ha
    rename_i xs hsq hall
    have hlen := dpa_len hall
    rw [List.length_map] at hlen
    have cl_Memory := T.cl_Memory
    have na_Memory_pairs := T.na_Memory_pairs
    have na_Memory_wide := T.na_Memory_wide
    refine ⟨_, (pss_cons (ps_set (i := 3) sc_cut_out.nd rfl (Or.inl rfl) (pe_lst pa_nil))
      (pss_cons (ps_set (i := 4) sc_cut_out.nd rfl (Or.inl rfl) pe_int)
      (pss_cons (ps_for (passes_of rfl) rfl (k_plist (K := K) rfl (pv 0)) (k_gtup (K := K) 2 rfl rfl (pgs_cons (pg_name (i := 5) sc_cut_out.nd rfl (Or.inl rfl)) (pgs_cons (pg_name (i := 6) sc_cut_out.nd rfl (Or.inl rfl)) pgs_nil)))
      (pss_cons (ps_par (i := 7) (j := 8) (by rfl) sc_cut_out.nd rfl rfl (by decide) rfl rfl (pa_cons (pe_callB (c_max2 rfl) (by rfl) T.n_max (by decide +kernel) (pa_cons (pv 1) (pa_cons (pv 4) pa_nil))) (pa_cons (pe_callB (c_min2 rfl) (by rfl) T.n_min (by decide +kernel) (pa_cons (pv 2) (pa_cons (pe_op (k_add (K := K) rfl) (pv 4) (pv 5)) pa_nil))) pa_nil)) (by rfl))
      (pss_cons (ps_if (pt_cmpR op_lt (pv 7) (pv 8) (nomark _)) (pss_one (ps_expr (pe_bm PySem.F.plainAttrs_list PySem.F.slot_list_append PySem.F.type_list_append mt_append (pv 3) (pa_cons (pe_tup (pa_cons (pe_op op_sub (pv 8) (pv 7)) (pa_cons (pv 6) pa_nil))) pa_nil)))) pss_nil)
      (pss_one (ps_aug (i := 4) sc_cut_out.nd rfl (Or.inl rfl) (pv 5) ip_add)))))
      (pss_one (ps_ret (pv 3)))))), ?_⟩
    dsimp only [cxOf, st_1, st_2, st_3, st_4, st_5, st_6, List.length_cons, List.length_nil, List.replicate_succ, List.replicate_zero, Nat.reduceAdd, Nat.reduceSub]
    walk_at "gs"
    refine i_new fun l hl => ?_
    walk_at "gs"
    refine i_each ((Kp.new hl).seqL (ws := []) List.not_mem_nil hsq) (fun i σ H' => ∃ u v w x, σ = [some (.ref a), some (.int b), some (.int e), some (.ref l), some (.int (wide (ps.take i))), u, v, w, x] ∧ Kp [] H H' ∧
      LD K H' l ((cut b e (ps.take i)).map d2)) ?_ ?_ ?_ ?_
    · exact ⟨none, none, none, none, rfl, Kp.new hl, ⟨[], upd_same, .nil⟩⟩
    · rintro i σ H' _ ⟨u, v, w, x, rfl, kp, ld⟩
      exact kp.seqL List.not_mem_nil hsq
    · rintro i x σ H' hx ⟨u, v, w, y, rfl, kp, ld⟩
      obtain ⟨d, hd, hdp⟩ := dpa_getV hall hx
      obtain ⟨p, hp, rfl⟩ := map_get hd
      obtain ⟨pa, rfl, hpt⟩ := dp_pair hdp
      replace hpt := kp.seqT hpt
      obtain ⟨vs, hvs, hall2⟩ := id ld
      have hvl := dpa_len hall2
      rw [List.length_map] at hvl
      have hcl := cut_len b e (ps.take i)
      rw [List.length_take] at hcl
      have hil : i < ps.length := (List.getElem?_eq_some_iff.mp hp).1
      walk_at "gs"
      refine i_dec (fun c => ?_) (fun c => ?_)
      · walk_at "gs"
        refine i_new fun t ht => ?_
        walk_at "gs"
        rw [wide_take hp, cut_take hp, if_pos c, List.map_append]
        refine ⟨_, _, _, _, rfl, by walk_at "g_kp", ?_⟩
        exact ld_push (ws := [l]) (H0 := H') (by walk_at "g_kp") hall2 (imms_d2 _) upd_same (dp_mk2 (m := min e (wide (ps.take i) + p.1) - max b (wide (ps.take i))) (n := p.2) (by walk_at "g_st"))
      · walk_at "gs"
        rw [wide_take hp, cut_take hp, if_neg c, List.append_nil]
        exact ⟨_, _, _, _, rfl, kp, ld⟩
    · rintro σ H' ⟨u, v, w, x, rfl, kp, ld⟩
      walk_at "gs"
      rw [List.take_of_length_le (by omega)] at ld
      exact k l H' hl kp ld

/-! ### comprehensions that change nothing -/
theorem dpa_tail {K : PySem.W.Frag} {H : Hp} : ∀ {ds : List PyData} {vs : List V}, DpAll K H vs ds → DpAll K H vs.tail ds.tail
  | [], _, h => by cases h; exact .nil
  | _ :: _, _, h => by
    cases h with
    | cons _ h2 => exact h2
section
variable {K : PySem.W.Frag} {σ : L2.St} {H : Hp} {Q : VK} {a b : Addr} {xs ys us : List V} {g : TG} {te : TE} {vs : List Nat} {ds : List PyData}
theorem i_mapL (hs : SqL K H a xs) (ys : List V) (hl : ys.length = xs.length) (hz : xs.length ≤ 1000000)
    (st : ∀ (D : Addr) (i : Nat) (x y : V) (H' : Hp) (Q' : VK), Fr H D → xs[i]? = some x → ys[i]? = some y → Kp [] H H' → (∀ H4, Kp [] H' H4 → Q' y H4) →
      g x (wipe σ vs) H' fun σ2 H2 => wipe σ2 vs = wipe σ vs ∧ te σ2 H2 Q')
    (hd : ∀ D H', Fr H D → Kp [] H H' → H' D = some (.lst ys) → Q (.ref D) H') : LcL K (.ref a) g tYes te vs σ H Q := by
  refine i_elts hs (fun D i H' => Kp [] H H' ∧ H' D = some (.lst (ys.take i))) (fun D fD => ⟨Kp.new fD, by rw [List.take_zero]; exact upd_same⟩)
    (fun D i H' _ _ z => z.1.seqL not_nil hs) ?_ ?_
  · rintro D i x H' fD hx ⟨k, e⟩
    have hi := (List.getElem?_eq_some_iff.mp hx).1
    obtain ⟨y, hy⟩ : ∃ y, ys[i]? = some y := ⟨_, List.getElem?_eq_getElem (by omega)⟩
    have q := st D i x y H' (fun y' H4 => ∃ acc, H4 D = some (.lst acc) ∧ acc.length < sizeLine ∧
      (Kp [] H (upd H4 D (.lst (acc ++ [y']))) ∧ upd H4 D (.lst (acc ++ [y'])) D = some (.lst (ys.take (i + 1))))) fD hx hy k (fun H4 k4 => by
        refine ⟨_, k4.at_ _ _ e not_nil, small_sz (by rw [List.length_take]; omega), Kp.upd (Kp.trans k k4) fD, ?_⟩
        rw [List.take_add_one, hy]
        exact upd_same)
    exact q
  · rintro D H' fD ⟨k, e⟩
    rw [List.take_of_length_le (by omega)] at e
    exact hd D H' fD k e
theorem i_mapD (hs : SqL K H a xs) (ds : List PyData) (hi : imms ds = true) (hl : ds.length = xs.length) (hz : xs.length ≤ 1000000)
    (st : ∀ (D : Addr) (i : Nat) (x : V) (d : PyData) (H' : Hp) (Q' : VK), Fr H D → xs[i]? = some x → ds[i]? = some d → Kp [] H H' → (∀ y H4, Kp [] H' H4 → Dp K H4 y d → Q' y H4) →
      g x (wipe σ vs) H' fun σ2 H2 => wipe σ2 vs = wipe σ vs ∧ te σ2 H2 Q')
    (hd : ∀ D H', Fr H D → Kp [] H H' → LD K H' D ds → Q (.ref D) H') : LcL K (.ref a) g tYes te vs σ H Q := by
  have imt : ∀ (l : List PyData) i, imms l = true → imms (l.take i) = true := by
    intro l
    induction l with
    | nil => intro i h; rw [List.take_nil]; rfl
    | cons d l ih =>
      intro i h
      simp only [imms, Bool.and_eq_true] at h
      cases i with
      | zero => rfl
      | succ i =>
        rw [List.take_succ_cons]
        simp only [imms, Bool.and_eq_true]
        exact ⟨h.1, ih i h.2⟩
  have img : ∀ (l : List PyData) (i : Nat) (d : PyData), imms l = true → l[i]? = some d → imm d = true := by
    intro l
    induction l with
    | nil => intro i d _ e; cases e
    | cons d0 l ih =>
      intro i d h e
      simp only [imms, Bool.and_eq_true] at h
      cases i with
      | zero => cases e; exact h.1
      | succ i => exact ih i d h.2 e
  refine i_elts hs (fun D i H' => Kp [] H H' ∧ LD K H' D (ds.take i)) (fun D fD => ⟨Kp.new fD, [], upd_same, by rw [List.take_zero]; exact .nil⟩)
    (fun D i H' _ _ z => z.1.seqL not_nil hs) ?_ ?_
  · rintro D i x H' fD hx ⟨k, ld⟩
    have hi2 := (List.getElem?_eq_some_iff.mp hx).1
    obtain ⟨d, hd2⟩ : ∃ d, ds[i]? = some d := ⟨_, List.getElem?_eq_getElem (by omega)⟩
    have q := st D i x d H' (fun y' H4 => ∃ acc, H4 D = some (.lst acc) ∧ acc.length < sizeLine ∧
      (Kp [] H (upd H4 D (.lst (acc ++ [y']))) ∧ LD K (upd H4 D (.lst (acc ++ [y']))) D (ds.take (i + 1)))) fD hx hd2 k (fun y H4 k4 hy => by
        obtain ⟨acc, e, ha⟩ := ld.kp k4 (imt _ _ hi) not_nil
        have hl2 := dpa_len ha
        rw [List.length_take] at hl2
        refine ⟨acc, e, small_sz (by omega), Kp.upd (Kp.trans k k4) fD, ?_⟩
        rw [List.take_add_one, hd2]
        exact ld_app ha e (imt _ _ hi) hy (img _ _ _ hi hd2))
    exact q
  · rintro D H' fD ⟨k, ld⟩
    rw [List.take_of_length_le (by omega)] at ld
    exact hd D H' fD k ld
theorem i_mapZ (hx : SqL K H a xs) (hy : SqL K H b us) (ys : List V) (hl : ys.length = min xs.length us.length) (hz : ys.length ≤ 1000000)
    (st : ∀ (D : Addr) (i : Nat) (x u y : V) (T : Addr) (H' : Hp) (Q' : VK), Fr H D → xs[i]? = some x → us[i]? = some u → ys[i]? = some y → Kp [] H H' → Fr H' T → (∀ H4, Kp [] H' H4 → Q' y H4) →
      g (.ref T) (wipe σ vs) (upd H' T (.tup [x, u])) fun σ2 H2 => wipe σ2 vs = wipe σ vs ∧ te σ2 H2 Q')
    (hd : ∀ D H', Fr H D → Kp [] H H' → H' D = some (.lst ys) → Q (.ref D) H') : LcZ K [.ref a, .ref b] g tYes te vs σ H Q := by
  refine i_eltz hx hy (fun D i H' => Kp [] H H' ∧ H' D = some (.lst (ys.take i))) (fun D fD => ⟨Kp.new fD, by rw [List.take_zero]; exact upd_same⟩)
    (fun D i H' _ z => ⟨z.1.seqL not_nil hx, z.1.seqL not_nil hy⟩) ?_ ?_
  · rintro D i x u T H' fD hx2 hu ⟨k, e⟩ fT
    have h1 := (List.getElem?_eq_some_iff.mp hx2).1
    have h2 := (List.getElem?_eq_some_iff.mp hu).1
    obtain ⟨y, hy⟩ : ∃ y, ys[i]? = some y := ⟨_, List.getElem?_eq_getElem (by omega)⟩
    have q := st D i x u y T H' (fun y' H4 => ∃ acc, H4 D = some (.lst acc) ∧ acc.length < sizeLine ∧
      (Kp [] H (upd H4 D (.lst (acc ++ [y']))) ∧ upd H4 D (.lst (acc ++ [y'])) D = some (.lst (ys.take (i + 1))))) fD hx2 hu hy k fT (fun H4 k4 => by
        refine ⟨_, k4.at_ _ _ e not_nil, small_sz (by rw [List.length_take]; omega), Kp.upd (Kp.trans k k4) fD, ?_⟩
        rw [List.take_add_one, hy]
        exact upd_same)
    exact q
  · rintro D H' fD ⟨k, e⟩
    rw [List.take_of_length_le (by omega)] at e
    exact hd D H' fD k e
end

/-! ### comprehensions over a tuple -/
section
variable {K : PySem.W.Frag} {σ : L2.St} {H H1 : Hp} {Q : VK} {a : Addr} {xs : List V} {g : TG} {tt : TT} {te : TE} {vs : List Nat}
def LcT (K : PySem.W.Frag) (x : V) (g : TG) (tt : TT) (te : TE) (vs : List Nat) (σ : L2.St) (H1 : Hp) (Q : VK) : Prop :=
  ∃ a, x = .ref a ∧ (∃ xs, SqT K H1 a xs) ∧ ∀ D, H1 D = none →
    ∃ W : Nat → Nat → Hp → Prop, (∃ m, W 0 m (upd H1 D (.lst []))) ∧ ∀ i m H, W i m H →
      ((Itt K a).stop i H ∧ Q (.ref D) H) ∨ ((Itt K a).go i H ∧ ∃ Nx : Hp → Prop,
        (∀ H', Nx H' → ∃ m', m' < m ∧ W (i + 1) m' H') ∧
        ∀ x H', (Itt K a).yld i H x H' → g x (wipe σ vs) H' fun σ2 H2 => wipe σ2 vs = wipe σ vs ∧ tt σ2 H2 fun b H3 =>
          if b = true then te σ2 H3 fun y H4 => ∃ acc, H4 D = some (.lst acc) ∧ acc.length < sizeLine ∧
            Nx (upd H4 D (.lst (acc ++ [y]))) else Nx H3)
theorem i_lcT {te' : TE} (h : te' σ H fun x H1 => LcT K x g tt te vs σ H1 Q) : tLc (iTup K te') g tt te vs σ H Q := h
theorem i_eltT (hs : SqT K H a xs) (Pv : Addr → Nat → Hp → Prop)
    (h0 : ∀ D, Fr H D → Pv D 0 (upd H D (.lst [])))
    (hl : ∀ D i H', Fr H D → i ≤ xs.length → Pv D i H' → SqT K H' a xs)
    (st : ∀ D i x H', Fr H D → xs[i]? = some x → Pv D i H' → g x (wipe σ vs) H' fun σ2 H2 =>
      wipe σ2 vs = wipe σ vs ∧ tt σ2 H2 fun b H3 => if b = true then te σ2 H3 fun y H4 =>
        ∃ acc, H4 D = some (.lst acc) ∧ acc.length < sizeLine ∧ Pv D (i + 1) (upd H4 D (.lst (acc ++ [y])))
        else Pv D (i + 1) H3)
    (hd : ∀ D H', Fr H D → Pv D xs.length H' → Q (.ref D) H') : LcT K (.ref a) g tt te vs σ H Q := by
  refine ⟨a, rfl, ⟨_, hs⟩, fun D hD => ?_⟩
  exact lc_tup (K := K) (a := a) (xs := xs) (Pv D) (h0 D ⟨hD⟩) (fun i H' => hl D i H' ⟨hD⟩)
    (fun i x H' => st D i x H' ⟨hD⟩) (fun H' => hd D H' ⟨hD⟩)
theorem i_mapT (hs : SqT K H a xs) (ys : List V) (hl : ys.length = xs.length) (hz : xs.length ≤ 1000000)
    (st : ∀ (D : Addr) (i : Nat) (x y : V) (H' : Hp) (Q' : VK), Fr H D → xs[i]? = some x → ys[i]? = some y → Kp [] H H' → (∀ H4, Kp [] H' H4 → Q' y H4) →
      g x (wipe σ vs) H' fun σ2 H2 => wipe σ2 vs = wipe σ vs ∧ te σ2 H2 Q')
    (hd : ∀ D H', Fr H D → Kp [] H H' → H' D = some (.lst ys) → Q (.ref D) H') : LcT K (.ref a) g tYes te vs σ H Q := by
  refine i_eltT hs (fun D i H' => Kp [] H H' ∧ H' D = some (.lst (ys.take i))) (fun D fD => ⟨Kp.new fD, by rw [List.take_zero]; exact upd_same⟩)
    (fun D i H' _ _ z => z.1.seqT hs) ?_ ?_
  · rintro D i x H' fD hx ⟨k, e⟩
    have hi := (List.getElem?_eq_some_iff.mp hx).1
    obtain ⟨y, hy⟩ : ∃ y, ys[i]? = some y := ⟨_, List.getElem?_eq_getElem (by omega)⟩
    have q := st D i x y H' (fun y' H4 => ∃ acc, H4 D = some (.lst acc) ∧ acc.length < sizeLine ∧
      (Kp [] H (upd H4 D (.lst (acc ++ [y']))) ∧ upd H4 D (.lst (acc ++ [y'])) D = some (.lst (ys.take (i + 1))))) fD hx hy k (fun H4 k4 => by
        refine ⟨_, k4.at_ _ _ e not_nil, small_sz (by rw [List.length_take]; omega), Kp.upd (Kp.trans k k4) fD, ?_⟩
        rw [List.take_add_one, hy]
        exact upd_same)
    exact q
  · rintro D H' fD ⟨k, e⟩
    rw [List.take_of_length_le (by omega)] at e
    exact hd D H' fD k e
end

/-! ### a memory -/
def mfs (n : Int) (l : Addr) : List (Str × V) := [("wide", .int n), ("pairs", .ref l)]
def MemAt (K : PySem.W.Frag) (C : Addr) (H : Hp) (m : Addr) (cs : List Int) : Prop :=
  ∃ dx l, H m = some (.ins C dx (mfs cs.length l)) ∧ LD K H l ((rle cs).map d2)
/-- b is not the list that m holds its runs in -/
def Off (H : Hp) (m b : Addr) : Prop := ∀ C dx n l, H m = some (.ins C dx (mfs n l)) → l ≠ b
theorem off_mk {H : Hp} {m b l C dx : Addr} {n : Int} (e : H m = some (.ins C dx (mfs n l))) (h : l ≠ b) : Off H m b := by
  intro C2 dx2 n2 l2 e2
  rw [e] at e2
  injection e2 with e2
  injection e2 with _ _ e3
  unfold mfs at e3
  injection e3 with _ e4
  injection e4 with e5 _
  injection e5 with _ e6
  injection e6 with e7
  rw [← e7]
  exact h
theorem off_kp {ws : List Addr} {H H' : Hp} {m b : Addr} (k : Kp ws H H') (t : Tr H m) (n : m ∉ ws) (h : Off H m b) : Off H' m b := by
  obtain ⟨o, e⟩ := t.ex
  intro C dx n2 l e2
  rw [k.at_ _ _ e n] at e2
  cases e2
  exact h _ _ _ _ e
/-- another thing that is written -/
def Oth (H : Hp) (m p : Addr) : Prop := (∃ i xs, H p = some (.lst (.int i :: xs))) ∨ (p ≠ m ∧ ∃ C dx fs, H p = some (.ins C dx fs)) ∨
  ((∃ xs, H p = some (.lst xs)) ∧ Off H m p)
section
variable {K : PySem.W.Frag} {C : Addr} {H H' : Hp} {m p l : Addr} {cs ds : List Int} {ws : List Addr} {o : HO}
theorem ld_ne_int {i : Int} {xs : List V} (h : LD K H l ((rle cs).map d2)) (e : H p = some (.lst (.int i :: xs))) : l ≠ p := by
  intro z
  obtain ⟨vs, q, a⟩ := h
  rw [z, e] at q
  cases q
  cases w : rle cs with
  | nil =>
    rw [w] at a
    cases a
  | cons x t =>
    rw [w] at a
    cases a
    rename_i a b
    cases a
theorem MemAt.kp (h : MemAt K C H m cs) (k : Kp ws H H') (n : ∀ p ∈ ws, Oth H m p) : MemAt K C H' m cs := by
  obtain ⟨dx, l, hm, ld⟩ := h
  refine ⟨dx, l, k.at_ _ _ hm ?_, LD.kp ld k (imms_d2 _) ?_⟩
  · intro z
    rcases n m z with ⟨i, xs, e⟩ | ⟨q, _⟩ | ⟨⟨xs, e⟩, _⟩
    · rw [hm] at e
      cases e
    · exact q rfl
    · rw [hm] at e
      cases e
  · intro z
    rcases n l z with ⟨i, xs, e⟩ | ⟨q, D, dy, fs, e⟩ | ⟨_, e⟩
    · exact ld_ne_int ld e rfl
    · obtain ⟨vs, e2, _⟩ := ld
      rw [e] at e2
      cases e2
    · exact e _ _ _ _ hm rfl
theorem mem_kp0 (h : MemAt K C H m cs) (k : Kp [] H H') : MemAt K C H' m cs := h.kp k fun p hp => nomatch hp
theorem mem_kp1 (h : MemAt K C H m cs) (k : Kp [p] H H') (n : Oth H m p) : MemAt K C H' m cs :=
  h.kp k fun q hq => by
    rw [List.mem_singleton.mp hq]
    exact n
theorem mem_upd (h : MemAt K C H m cs) (f : Fr H p) : MemAt K C (upd H p o) m cs := mem_kp0 h (Kp.new f)
theorem oth_pot (h : PotAt H p) : Oth H m p := by
  obtain ⟨x, y, e, _⟩ := h
  exact .inl ⟨_, _, e⟩
theorem oth_mem (h : MemAt K C H p ds) (n : p ≠ m) : Oth H m p := by
  obtain ⟨dx, l, e, _⟩ := h
  exact .inr (.inl ⟨n, _, _, _, e⟩)
theorem oth_lst {xs : List V} (h : H p = some (.lst xs)) (n : Off H m p) : Oth H m p := .inr (.inr ⟨⟨xs, h⟩, n⟩)
theorem tr_mem (h : MemAt K C H m cs) : Tr H m := by
  obtain ⟨dx, l, e, _⟩ := h
  exact ⟨_, e⟩
theorem pot_ne_mem (h : PotAt H p) (g : MemAt K C H m cs) : p ≠ m := by
  obtain ⟨x, y, e, _⟩ := h
  obtain ⟨dx, l, e2, _⟩ := g
  intro z
  rw [z, e2] at e
  cases e
theorem pot_kp_mem (h : PotAt H p) (g : MemAt K C H m cs) (k : Kp [m] H H') : PotAt H' p := h.kp k (not_one (pot_ne_mem h g))
end
theorem two_ne {H : Hp} {a b : Addr} {u v : HO} (h1 : H a = some u) (h2 : H b = some v) (n : u ≠ v) : a ≠ b := by
  intro z
  rw [z, h2] at h1
  cases h1
  exact n rfl
theorem one_few {p : Int × Int} : [p].length ≤ 10000 := by
  rw [List.length_singleton]
  decide
def sp_init (K : PySem.W.Frag) (C : Addr) : Sp := fun vs H Q _ => ∃ (m dx : Addr) (n v : Int), vs = [.ref m, .int n, .int v] ∧
  H m = some (.ins C dx []) ∧ (1 ≤ n ∧ n ≤ 1000000000000000000) ∧
  ∀ H', Kp [m] H H' → MemAt K C H' m (List.replicate n.toNat v) → (∀ b, Tr H b → Off H' m b) → Q .non H'
theorem rle_one {n v : Int} (h : 1 ≤ n) : rle (List.replicate n.toNat v) = [(n, v)] := by
  have e := rle_rep v [] (n.toNat - 1)
  have e2 : n.toNat - 1 + 1 = n.toNat := by omega
  rw [e2, List.append_nil] at e
  rw [e]
  show [(0 + (((n.toNat - 1 : Nat) : Int) + 1), v)] = _
  congr 2
  omega
theorem sc_Memory_init : FnScope ["self", "size", "number"] ["self", "size", "number"] (defScope s_Memory_init) :=
  ⟨rfl, rfl, rfl, by decide +kernel, rfl, by decide +kernel, by decide +kernel⟩
theorem ok_Memory_init {P : Program} {w : World} {K : PySem.W.Frag} {mg : Str → Option Value} {base : Heap} (T : Txt K mg) :
    FnG P w K mg base 5 T.a_Memory_init T.d_Memory_init ["self", "size", "number"] (sp_init K T.c_Memory) := by
  refine okD T.F_Memory_init sc_Memory_init (fun vs H Q E h => ?_) (fun cdv A outer s H vs Q E hr h => ?_)
  · first
      | (obtain ⟨_, rfl, _⟩ := h; rfl)
      | (obtain ⟨_, _, rfl, _⟩ := h; rfl)
      | (obtain ⟨_, _, _, rfl, _⟩ := h; rfl)
      | (obtain ⟨_, _, _, _, rfl, _⟩ := h; rfl)
      | (obtain ⟨_, _, _, _, _, rfl, _⟩ := h; rfl)
      | (obtain ⟨_, _, _, _, _, _, rfl, _⟩ := h; rfl)
      | (obtain ⟨_, _, _, _, _, _, _, rfl, _⟩ := h; rfl)
      | (obtain ⟨_, _, _, _, _, _, _, _, rfl, _⟩ := h; rfl)
      | (obtain ⟨_, _, _, _, _, _, _, _, _, rfl, _⟩ := h; rfl)
      | (obtain ⟨_, _, _, _, _, _, _, _, _, _, rfl, _⟩ := h; rfl)
      | (obtain ⟨_, _, _, _, _, _, _, _, _, _, _, rfl, _⟩ := h; rfl)
  · obtain ⟨m, dx, n, v, rfl, hm, z, k⟩ := h
    have cl_Memory := T.cl_Memory
    have na_Memory_pairs := T.na_Memory_pairs
    have na_Memory_wide := T.na_Memory_wide
    refine ⟨_, (pss_cons (ps_expr (d1 (ok_want_size T) (hr.mono (by decide)) (by rfl) T.m_want_size T.F_want_size.kp T.b_want_size passL (pa_cons (pv 1) pa_nil)))
      (pss_cons (ps_expr (d1 (ok_want_number T) (hr.mono (by decide)) (by rfl) T.m_want_number T.F_want_number.kp T.b_want_number passL (pa_cons (pv 2) pa_nil)))
      (pss_cons (k_sfld (K := K) rfl (pv 0) (pv 1) rfl)
      (pss_one (k_sfld (K := K) rfl (pv 0) (pe_lst (pa_cons (pe_tup (pa_cons (pv 1) (pa_cons (pv 2) pa_nil))) pa_nil)) rfl))))), ?_⟩
    dsimp only [cxOf, st_1, st_2, st_3, st_4, st_5, st_6, List.length_cons, List.length_nil, List.replicate_succ, List.replicate_zero, Nat.reduceAdd, Nat.reduceSub]
    walk_at "gs"
    refine ⟨n, rfl, z, ?_⟩
    walk_at "gs"
    refine ⟨v, rfl, ?_⟩
    walk_at "gs"
    refine i_new fun t ht => ?_
    walk_at "gs"
    refine i_new fun l hl => ?_
    have ntm : t ≠ m := by walk_at "g_ne"
    have nlm : l ≠ m := by walk_at "g_ne"
    have nlt : t ≠ l := by walk_at "g_ne"
    walk_at "gs"
    refine k _ (by walk_at "g_kp") ⟨dx, l, ?_, ?_⟩ (fun b hb => off_mk upd_same (Ne.symm (fr_tr (tr_upd (tr_upd hb)) hl)))
    · rw [List.length_replicate]
      have e : ((n.toNat : Nat) : Int) = n := by omega
      rw [e]
      exact upd_same
    · rw [rle_one z.1]
      have e1 := ntm
      refine ⟨_, ?_, dpa_one (dp_mk2 (a := t) (m := n) (n := v) (SqT.of ?_))⟩
      · refine upd_nn ?_ ?_
        · exact nlm
        · exact upd_same
      · refine upd_nn ?_ ?_
        · exact ntm
        · refine upd_nn ?_ ?_
          · exact nlt
          · exact upd_same
def sp_msize (K : PySem.W.Frag) (C : Addr) : Sp := fun vs H Q _ => ∃ (m : Addr) (cs : List Int), vs = [.ref m] ∧ MemAt K C H m cs ∧
  Q (.int cs.length) H
theorem sc_Memory_size : FnScope ["self"] ["self"] (defScope s_Memory_size) :=
  ⟨rfl, rfl, rfl, by decide +kernel, rfl, by decide +kernel, by decide +kernel⟩
theorem ok_Memory_size {P : Program} {w : World} {K : PySem.W.Frag} {mg : Str → Option Value} {base : Heap} (T : Txt K mg) :
    FnG P w K mg base 1 T.a_Memory_size T.d_Memory_size ["self"] (sp_msize K T.c_Memory) := by
  refine okD T.F_Memory_size sc_Memory_size (fun vs H Q E h => ?_) (fun cdv A outer s H vs Q E hr h => ?_)
  · first
      | (obtain ⟨_, rfl, _⟩ := h; rfl)
      | (obtain ⟨_, _, rfl, _⟩ := h; rfl)
      | (obtain ⟨_, _, _, rfl, _⟩ := h; rfl)
      | (obtain ⟨_, _, _, _, rfl, _⟩ := h; rfl)
      | (obtain ⟨_, _, _, _, _, rfl, _⟩ := h; rfl)
      | (obtain ⟨_, _, _, _, _, _, rfl, _⟩ := h; rfl)
      | (obtain ⟨_, _, _, _, _, _, _, rfl, _⟩ := h; rfl)
      | (obtain ⟨_, _, _, _, _, _, _, _, rfl, _⟩ := h; rfl)
      | (obtain ⟨_, _, _, _, _, _, _, _, _, rfl, _⟩ := h; rfl)
      | (obtain ⟨_, _, _, _, _, _, _, _, _, _, rfl, _⟩ := h; rfl)
      | (obtain ⟨_, _, _, _, _, _, _, _, _, _, _, rfl, _⟩ := h; rfl)
  · obtain ⟨m, cs, rfl, ⟨dx, l, hm, ld⟩, k⟩ := h
    have cl_Memory := T.cl_Memory
    have na_Memory_pairs := T.na_Memory_pairs
    have na_Memory_wide := T.na_Memory_wide
    refine ⟨_, (pss_one (ps_ret (k_fld (K := K) rfl (pv 0) rfl))), ?_⟩
    dsimp only [cxOf, st_1, st_2, st_3, st_4, st_5, st_6, List.length_cons, List.length_nil, List.replicate_succ, List.replicate_zero, Nat.reduceAdd, Nat.reduceSub]
    walk_at "gs"
    exact k
def sp_runs (K : PySem.W.Frag) (C : Addr) : Sp := fun vs H Q _ => ∃ (m : Addr) (cs : List Int), vs = [.ref m] ∧ MemAt K C H m cs ∧
  ∀ l H', Fr H l → Kp [] H H' → LD K H' l ((rle cs).map d2) → Q (.ref l) H'
theorem sc_Memory_runs : FnScope ["self"] ["self"] (defScope s_Memory_runs) :=
  ⟨rfl, rfl, rfl, by decide +kernel, rfl, by decide +kernel, by decide +kernel⟩
theorem ok_Memory_runs {P : Program} {w : World} {K : PySem.W.Frag} {mg : Str → Option Value} {base : Heap} (T : Txt K mg) :
    FnG P w K mg base 1 T.a_Memory_runs T.d_Memory_runs ["self"] (sp_runs K T.c_Memory) := by
  refine okD T.F_Memory_runs sc_Memory_runs (fun vs H Q E h => ?_) (fun cdv A outer s H vs Q E hr h => ?_)
  · first
      | (obtain ⟨_, rfl, _⟩ := h; rfl)
      | (obtain ⟨_, _, rfl, _⟩ := h; rfl)
      | (obtain ⟨_, _, _, rfl, _⟩ := h; rfl)
      | (obtain ⟨_, _, _, _, rfl, _⟩ := h; rfl)
      | (obtain ⟨_, _, _, _, _, rfl, _⟩ := h; rfl)
      | (obtain ⟨_, _, _, _, _, _, rfl, _⟩ := h; rfl)
      | (obtain ⟨_, _, _, _, _, _, _, rfl, _⟩ := h; rfl)
      | (obtain ⟨_, _, _, _, _, _, _, _, rfl, _⟩ := h; rfl)
      | (obtain ⟨_, _, _, _, _, _, _, _, _, rfl, _⟩ := h; rfl)
      | (obtain ⟨_, _, _, _, _, _, _, _, _, _, rfl, _⟩ := h; rfl)
      | (obtain ⟨_, _, _, _, _, _, _, _, _, _, _, rfl, _⟩ := h; rfl)
  · obtain ⟨m, cs, rfl, ⟨dx, l, hm, ld⟩, k⟩ := h
    obtain ⟨vs, hv, hall⟩ := id ld
    have cl_Memory := T.cl_Memory
    have na_Memory_pairs := T.na_Memory_pairs
    have na_Memory_wide := T.na_Memory_wide
    refine ⟨_, (pss_one (ps_ret (pe_callTy (k_list (K := K) rfl) (by rfl) T.n_list (by decide +kernel) (pa_cons (k_fld (K := K) rfl (pv 0) rfl) pa_nil)))), ?_⟩
    dsimp only [cxOf, st_1, st_2, st_3, st_4, st_5, st_6, List.length_cons, List.length_nil, List.replicate_succ, List.replicate_zero, Nat.reduceAdd, Nat.reduceSub]
    walk_at "gs"
    refine i_new fun q hq => ?_
    walk_at "gs"
    exact k q _ hq (Kp.new hq) ⟨_, upd_same, dpa_imm (Kp.new (ws := []) hq) _ _ (imms_d2 _) hall⟩
def sp_mat (K : PySem.W.Frag) (C : Addr) : Sp := fun vs H Q _ => ∃ (m : Addr) (c : Nat) (cs : List Int) (v : Int), vs = [.ref m, .int c] ∧
  MemAt K C H m cs ∧ (rle cs).length ≤ 10000 ∧ cs[c]? = some v ∧ ∀ H', Kp [] H H' → Q (.int v) H'
theorem sc_Memory_at : FnScope ["self", "cell"] ["self", "cell"] (defScope s_Memory_at) :=
  ⟨rfl, rfl, rfl, by decide +kernel, rfl, by decide +kernel, by decide +kernel⟩
theorem ok_Memory_at {P : Program} {w : World} {K : PySem.W.Frag} {mg : Str → Option Value} {base : Heap} (T : Txt K mg) :
    FnG P w K mg base 4 T.a_Memory_at T.d_Memory_at ["self", "cell"] (sp_mat K T.c_Memory) := by
  refine okD T.F_Memory_at sc_Memory_at (fun vs H Q E h => ?_) (fun cdv A outer s H vs Q E hr h => ?_)
  · first
      | (obtain ⟨_, rfl, _⟩ := h; rfl)
      | (obtain ⟨_, _, rfl, _⟩ := h; rfl)
      | (obtain ⟨_, _, _, rfl, _⟩ := h; rfl)
      | (obtain ⟨_, _, _, _, rfl, _⟩ := h; rfl)
      | (obtain ⟨_, _, _, _, _, rfl, _⟩ := h; rfl)
      | (obtain ⟨_, _, _, _, _, _, rfl, _⟩ := h; rfl)
      | (obtain ⟨_, _, _, _, _, _, _, rfl, _⟩ := h; rfl)
      | (obtain ⟨_, _, _, _, _, _, _, _, rfl, _⟩ := h; rfl)
      | (obtain ⟨_, _, _, _, _, _, _, _, _, rfl, _⟩ := h; rfl)
      | (obtain ⟨_, _, _, _, _, _, _, _, _, _, rfl, _⟩ := h; rfl)
      | (obtain ⟨_, _, _, _, _, _, _, _, _, _, _, rfl, _⟩ := h; rfl)
  · obtain ⟨m, c, cs, v, rfl, ⟨dx, l, hm, ld⟩, hn, hv, k⟩ := h
    have hc : c < cs.length := (List.getElem?_eq_some_iff.mp hv).1
    have cl_Memory := T.cl_Memory
    have na_Memory_pairs := T.na_Memory_pairs
    have na_Memory_wide := T.na_Memory_wide
    refine ⟨_, (pss_cons (ps_expr (d1 (ok_want_cell T) (hr.mono (by decide)) (by rfl) T.m_want_cell T.F_want_cell.kp T.b_want_cell passL (pa_cons (pv 1) (pa_cons (k_fld (K := K) rfl (pv 0) rfl) pa_nil))))
      (pss_one (ps_ret (pe_ix (k_ix (K := K) rfl) (pe_ix (k_ix (K := K) rfl) (d1 (ok_cut_out T) (hr.mono (by decide)) (by rfl) T.m_cut_out T.F_cut_out.kp T.b_cut_out passL (pa_cons (k_fld (K := K) rfl (pv 0) rfl) (pa_cons (pv 1) (pa_cons (pe_op (k_add (K := K) rfl) (pv 1) pe_int) pa_nil)))) pe_int (fun _ _ => rfl)) pe_int (fun _ _ => rfl))))), ?_⟩
    dsimp only [cxOf, st_1, st_2, st_3, st_4, st_5, st_6, List.length_cons, List.length_nil, List.replicate_succ, List.replicate_zero, Nat.reduceAdd, Nat.reduceSub]
    walk_at "gs"
    refine ⟨c, cs.length, rfl, by omega, ?_⟩
    walk_at "gs"
    refine ⟨l, c, c + 1, rle cs, rfl, ld.dp, by omega, fun f H1 hf k1 lf => ?_⟩
    rw [cut_at hv] at lf
    obtain ⟨us, hu, ha⟩ := lf
    cases ha
    rename_i x us hx hus
    cases hus
    obtain ⟨t, rfl, ht⟩ := dp_pair hx
    walk_at "gs"
    exact k H1 k1
def sp_lay (K : PySem.W.Frag) (C : Addr) : Sp := fun vs H Q _ => ∃ (m x : Addr) (b e : Int) (cs : List Int) (ps : List (Int × Int)),
  vs = [.ref m, .int b, .ref x, .int e] ∧ MemAt K C H m cs ∧ LD K H x (ps.map d2) ∧ (rle cs).length ≤ 10000 ∧ ps.length ≤ 10000 ∧
  (0 ≤ b ∧ b ≤ e ∧ e ≤ cs.length) ∧ (cells ps).length = (e - b).toNat ∧
  ∀ H', Kp [m] H H' → MemAt K C H' m (laid cs b.toNat (cells ps) e.toNat) → (∀ b, Tr H b → Off H' m b) → Q .non H'
theorem sc_Memory_lay : FnScope ["self", "begin", "pairs", "end", "ahead", "behind"] ["self", "begin", "pairs", "end"] (defScope s_Memory_lay) :=
  ⟨rfl, rfl, rfl, by decide +kernel, rfl, by decide +kernel, by decide +kernel⟩
theorem ok_Memory_lay {P : Program} {w : World} {K : PySem.W.Frag} {mg : Str → Option Value} {base : Heap} (T : Txt K mg) :
    FnG P w K mg base 2 T.a_Memory_lay T.d_Memory_lay ["self", "begin", "pairs", "end"] (sp_lay K T.c_Memory) := by
  refine okD T.F_Memory_lay sc_Memory_lay (fun vs H Q E h => ?_) (fun cdv A outer s H vs Q E hr h => ?_)
  · first
      | (obtain ⟨_, rfl, _⟩ := h; rfl)
      | (obtain ⟨_, _, rfl, _⟩ := h; rfl)
      | (obtain ⟨_, _, _, rfl, _⟩ := h; rfl)
      | (obtain ⟨_, _, _, _, rfl, _⟩ := h; rfl)
      | (obtain ⟨_, _, _, _, _, rfl, _⟩ := h; rfl)
      | (obtain ⟨_, _, _, _, _, _, rfl, _⟩ := h; rfl)
      | (obtain ⟨_, _, _, _, _, _, _, rfl, _⟩ := h; rfl)
      | (obtain ⟨_, _, _, _, _, _, _, _, rfl, _⟩ := h; rfl)
      | (obtain ⟨_, _, _, _, _, _, _, _, _, rfl, _⟩ := h; rfl)
      | (obtain ⟨_, _, _, _, _, _, _, _, _, _, rfl, _⟩ := h; rfl)
      | (obtain ⟨_, _, _, _, _, _, _, _, _, _, _, rfl, _⟩ := h; rfl)
  · obtain ⟨m, x, b, e, cs, ps, rfl, ⟨dx, l, hm, ld⟩, lx, hn, hp, hb, hlen, k⟩ := h
    have n1 := cut_len 0 b (rle cs)
    have n2 := cut_len e cs.length (rle cs)
    have cl_Memory := T.cl_Memory
    have na_Memory_pairs := T.na_Memory_pairs
    have na_Memory_wide := T.na_Memory_wide
    refine ⟨_, (pss_cons (ps_set (i := 4) sc_Memory_lay.nd rfl (Or.inl rfl) (d1 (ok_cut_out T) (hr.mono (by decide)) (by rfl) T.m_cut_out T.F_cut_out.kp T.b_cut_out passL (pa_cons (k_fld (K := K) rfl (pv 0) rfl) (pa_cons pe_int (pa_cons (pv 1) pa_nil)))))
      (pss_cons (ps_set (i := 5) sc_Memory_lay.nd rfl (Or.inl rfl) (d1 (ok_cut_out T) (hr.mono (by decide)) (by rfl) T.m_cut_out T.F_cut_out.kp T.b_cut_out passL (pa_cons (k_fld (K := K) rfl (pv 0) rfl) (pa_cons (pv 3) (pa_cons (k_fld (K := K) rfl (pv 0) rfl) pa_nil)))))
      (pss_one (k_sfld (K := K) rfl (pv 0) (d1 (ok_joined T) (hr.mono (by decide)) (by rfl) T.m_joined T.F_joined.kp T.b_joined passL (pa_cons (pe_op (k_add (K := K) rfl) (pe_op (k_add (K := K) rfl) (pv 4) (pv 2)) (pv 5)) pa_nil)) rfl)))), ?_⟩
    dsimp only [cxOf, st_1, st_2, st_3, st_4, st_5, st_6, List.length_cons, List.length_nil, List.replicate_succ, List.replicate_zero, Nat.reduceAdd, Nat.reduceSub]
    walk_at "gs"
    refine ⟨l, 0, b, rle cs, rfl, ld.dp, by omega, fun f H1 hf k1 lf => ?_⟩
    have ld1 : LD K H1 l ((rle cs).map d2) := by walk_at "g_ld"
    have lx1 : LD K H1 x (ps.map d2) := by walk_at "g_ld"
    walk_at "gs"
    refine ⟨l, e, cs.length, rle cs, rfl, ld1.dp, by omega, fun g H2 hg k2 lg => ?_⟩
    have lx2 : LD K H2 x (ps.map d2) := by walk_at "g_ld"
    have lf2 : LD K H2 f ((cut 0 b (rle cs)).map d2) := by walk_at "g_ld"
    obtain ⟨xv, hx, ax⟩ := lx2
    obtain ⟨fv, hfv, af⟩ := lf2
    obtain ⟨gv, hgv, ag⟩ := lg
    have lx3 := dpa_len ax
    have lf3 := dpa_len af
    have lg3 := dpa_len ag
    rw [List.length_map] at lx3 lf3 lg3
    walk_at "gs"
    refine i_new fun s hs => ?_
    walk_at "gs"
    refine i_new fun u hu => ?_
    walk_at "gs"
    have kk : Kp [] H2 (upd (upd H2 s (.lst (fv ++ xv))) u (.lst (fv ++ xv ++ gv))) := by walk_at "g_kp"
    refine ⟨u, cut 0 b (rle cs) ++ ps ++ cut e cs.length (rle cs), rfl, ?_, ?_, fun j H3 hj k3 lj => ?_⟩
    · refine LD.dp ⟨_, upd_same, ?_⟩
      rw [List.map_append, List.map_append]
      exact dpa_imm kk _ _ (by rw [← List.map_append, ← List.map_append]; exact imms_d2 _) (dpa_app (dpa_app af ax) ag)
    · rw [List.length_append, List.length_append]
      omega
    · rw [laid_rle] at lj
      walk_at "gs"
      refine k _ (by walk_at "g_kp") ⟨dx, j, ?_, ?_⟩ (fun b hb => off_mk upd_same (Ne.symm (fr_tr (tr_kp kk (tr_kp k2 (tr_kp k1 hb))) hj)))
      · rw [laid_len (by omega) (by omega) (by omega)]
        exact upd_same
      · walk_at "g_ld"

def sp_law_size : Sp := fun vs H Q _ => ∃ (p : Addr), vs = [.ref p] ∧ PotAt H p ∧
  ∀ r H', 1 ≤ r → r ≤ 1000000000000000000 → PotAt H' p → Kp [p] H H' → Q (.int r) H'
theorem sc_law_size : FnScope ["_law_pot_here", "_law_way"] ["_law_pot_here"] (defScope s_law_size) :=
  ⟨rfl, rfl, rfl, by decide +kernel, rfl, by decide +kernel, by decide +kernel⟩
theorem ok_law_size {P : Program} {w : World} {K : PySem.W.Frag} {mg : Str → Option Value} {base : Heap} (T : Txt K mg) :
    FnG P w K mg base 2 T.a_law_size T.d_law_size ["_law_pot_here"] sp_law_size := by
  refine okD T.F_law_size sc_law_size (fun vs H Q E h => ?_) (fun cdv A outer s H vs Q E hr h => ?_)
  · first
      | (obtain ⟨_, rfl, _⟩ := h; rfl)
      | (obtain ⟨_, _, rfl, _⟩ := h; rfl)
      | (obtain ⟨_, _, _, rfl, _⟩ := h; rfl)
      | (obtain ⟨_, _, _, _, rfl, _⟩ := h; rfl)
      | (obtain ⟨_, _, _, _, _, rfl, _⟩ := h; rfl)
      | (obtain ⟨_, _, _, _, _, _, rfl, _⟩ := h; rfl)
      | (obtain ⟨_, _, _, _, _, _, _, rfl, _⟩ := h; rfl)
      | (obtain ⟨_, _, _, _, _, _, _, _, rfl, _⟩ := h; rfl)
      | (obtain ⟨_, _, _, _, _, _, _, _, _, rfl, _⟩ := h; rfl)
      | (obtain ⟨_, _, _, _, _, _, _, _, _, _, rfl, _⟩ := h; rfl)
      | (obtain ⟨_, _, _, _, _, _, _, _, _, _, _, rfl, _⟩ := h; rfl)
  · obtain ⟨p, rfl, hp, k⟩ := h
    refine ⟨_, (pss_cons (ps_set (i := 1) sc_law_size.nd rfl (Or.inl rfl) (d1 (ok_law_draw T) (hr.mono (by decide)) (by rfl) T.m_law_draw T.F_law_draw.kp T.b_law_draw passL (pa_cons (pv 0) (pa_cons pe_int pa_nil))))
      (pss_cons (ps_if (pt_cmpR (k_eq (K := K) rfl hr.r.units) (pv 1) pe_int (nomark _)) (pss_one (ps_ret (pe_op o_pow pe_int pe_int))) pss_nil)
      (pss_one (ps_ret (pe_op (k_add (K := K) rfl) pe_int (d1 (ok_law_draw T) (hr.mono (by decide)) (by rfl) T.m_law_draw T.F_law_draw.kp T.b_law_draw passL (pa_cons (pv 0) (pa_cons (pe_ix (k_ix (K := K) rfl) (pe_lst (pa_cons pe_int (pa_cons pe_int (pa_cons (pe_op o_pow pe_int pe_int) pa_nil)))) (pv 1) (fun _ _ => rfl)) pa_nil)))))))), ?_⟩
    dsimp only [cxOf, st_1, st_2, st_3, st_4, st_5, st_6, List.length_cons, List.length_nil, List.replicate_succ, List.replicate_zero, Nat.reduceAdd, Nat.reduceSub]
    walk_at "gs"
    refine use_draw hp (by decide) (by decide) (fun w H1 a1 a2 hp1 k1 => ?_)
    walk_at "gs"
    refine i_dec (fun c => ?_) (fun c => ?_)
    · walk_at "gs"
      exact k _ _ (by decide) (by decide) hp1 k1
    · walk_at "gs"
      refine i_new fun t ht => ?_
      obtain ⟨r, hat, hr⟩ : ∃ r : Int, atI [V.int 9, V.int 60, V.int 1000000000000000000] w = some (.int r) ∧ (0 < r ∧ r ≤ 1000000000000000000) := by
        have e : w = 0 ∨ w = 1 ∨ w = 2 := by omega
        rcases e with rfl | rfl | rfl
        · exact ⟨9, rfl, by omega⟩
        · exact ⟨60, rfl, by omega⟩
        · exact ⟨_, rfl, by omega⟩
      walk_at "gs"
      refine use_draw (by walk_at "g_pot") hr.1 (by omega) (fun u H2 b1 b2 hp2 k2 => ?_)
      walk_at "gs"
      exact k _ _ (by omega) (by omega) hp2 (by walk_at "g_kp")
theorem use_size {H : Hp} {Q : VK} {E : XK} {p : Addr} (hp : PotAt H p)
    (k : ∀ r H', 1 ≤ r → r ≤ 1000000000000000000 → PotAt H' p → Kp [p] H H' → Q (.int r) H') :
    sp_law_size [.ref p] H Q E := ⟨p, rfl, hp, k⟩

/-! ### a new instance -/
theorem i_made {C : Addr} {sp : Sp} {E : XK} {H : Hp} {Q : VK} {vs : Addr → List V}
    (h : ∀ x dx, Fr H x → Fr H dx → dx ≠ x → sp (vs x) (upd (upd H dx (.own x)) x (.ins C dx [])) (fun v H2 => v = .non ∧ Q (.ref x) H2) E) :
    Made C sp E H Q vs := fun x dx hx hd n => h x dx ⟨hx⟩ ⟨hd⟩ n
theorem kp_made {H H3 : Hp} {x dx : Addr} {o1 o2 : HO} (hx : Fr H x) (hd : Fr H dx) (k : Kp [x] (upd (upd H dx o1) x o2) H3) : Kp [] H H3 :=
  Kp.drop (Kp.trans (Kp.wide (Kp.upd (Kp.upd Kp.refl hd) hx)) k) hx
theorem wide_rle (cs : List Int) : wide (rle cs) = cs.length := by
  rw [← cells_len _ (rle_pos cs), cells_rle]

/-- no two neighbours of one number -/
def apart : List (Int × Int) → Prop
  | [] => True
  | [_] => True
  | p :: q :: t => p.2 ≠ q.2 ∧ apart (q :: t)
theorem apart_wst (f : List (Int × Int)) (p : Int × Int) (h : apart f) : apart (wst f p) := by
  cases f with
  | nil => trivial
  | cons q t =>
    unfold wst
    simp only
    split
    · rename_i c
      cases t with
      | nil => trivial
      | cons r u => exact ⟨by rw [← c]; exact h.1, h.2⟩
    · rename_i c
      exact ⟨fun z => c z.symm, h⟩
theorem apart_wr : ∀ ps : List (Int × Int), apart (wr ps)
  | [] => trivial
  | p :: ps => by
    unfold wr
    split
    · exact apart_wst _ _ (apart_wr ps)
    · exact apart_wr ps
theorem apart_get : ∀ (ps : List (Int × Int)) (i : Nat) (p q : Int × Int), apart ps → ps[i]? = some p → ps.tail[i]? = some q → p.2 ≠ q.2
  | [], _, _, _, _, e, _ => by cases e
  | [_], i, _, _, _, _, e => by simp at e
  | a :: b :: t, 0, p, q, h, e1, e2 => by
    cases e1
    cases e2
    exact h.1
  | a :: b :: t, i + 1, p, q, h, e1, e2 => apart_get (b :: t) i p q h.2 e1 e2
theorem rep_get {n i : Nat} {v y : V} (h : (List.replicate n v)[i]? = some y) : y = v := by
  rw [List.getElem?_replicate] at h
  split at h
  · exact (Option.some.inj h).symm
  · cases h

/-! ### runs, asked of anything -/
theorem Tz.any {K : PySem.W.Frag} {H : Hp} {ws : List Addr} {v : V} {d : PyData} (t : Tz K H ws v d) : Any K H v d := ⟨t.ty, fun n e => by
  subst e
  rcases t with h | ⟨a, kvs, es, _, e, _⟩
  · cases h
    rfl
  · cases e⟩
def isR : PyData → Bool
  | .tuple [.int m, .int _] => decide (0 < m)
  | _ => false
theorem isR_true {d : PyData} (h : isR d = true) : ∃ q : Int × Int, d = d2 q ∧ 0 < q.1 := by
  unfold isR at h
  split at h
  · rename_i m n
    exact ⟨(m, n), rfl, of_decide_eq_true h⟩
  · cases h
theorem all_runs : ∀ (ds : List PyData), (ds.map isR).all id = true → ∃ ps : List (Int × Int), ds = ps.map d2 ∧ ∀ q ∈ ps, 0 < q.1
  | [], _ => ⟨[], rfl, fun _ h => nomatch h⟩
  | d :: ds, h => by
    simp only [List.map_cons, List.all_cons, id, Bool.and_eq_true] at h
    obtain ⟨q, rfl, q0⟩ := isR_true h.1
    obtain ⟨ps, rfl, p0⟩ := all_runs ds h.2
    refine ⟨q :: ps, rfl, fun r hr => ?_⟩
    rcases List.mem_cons.mp hr with rfl | hr
    · exact q0
    · exact p0 r hr
theorem runs_all : ∀ (ps : List (Int × Int)), (∀ q ∈ ps, 0 < q.1) → ((ps.map d2).map isR).all id = true
  | [], _ => rfl
  | q :: ps, h => by
    simp only [List.map_cons, List.all_cons, id, Bool.and_eq_true]
    exact ⟨decide_eq_true (h q List.mem_cons_self), runs_all ps fun r hr => h r (List.mem_cons_of_mem _ hr)⟩
theorem apart_any : ∀ (ps : List (Int × Int)), (List.zipWith (fun p q : Int × Int => decide (p.2 = q.2)) ps ps.tail).any id = false ↔ apart ps
  | [] => ⟨fun _ => trivial, fun _ => rfl⟩
  | [_] => ⟨fun _ => trivial, fun _ => rfl⟩
  | p :: q :: t => by
    have ih := apart_any (q :: t)
    rw [List.tail_cons, List.zipWith_cons_cons, List.any_cons, Bool.or_eq_false_iff]
    show (decide (p.2 = q.2) = false ∧ _) ↔ p.2 ≠ q.2 ∧ apart (q :: t)
    rw [decide_eq_false_iff_not]
    exact and_congr Iff.rfl ih
theorem map_d2_inj : ∀ {ps qs : List (Int × Int)}, ps.map d2 = qs.map d2 → ps = qs
  | [], [], _ => rfl
  | [], _ :: _, h => by cases h
  | _ :: _, [], h => by cases h
  | p :: ps, q :: qs, h => by
    rw [List.map_cons, List.map_cons] at h
    injection h with h1 h2
    injection h1 with h1
    injection h1 with a h1
    injection h1 with b _
    injection a with a
    injection b with b
    have e : p = q := Prod.ext a b
    rw [e, map_d2_inj h2]
/-- runs that come to n -/
def IsRuns (n : Int) (d : PyData) : Prop := ∃ ps : List (Int × Int), d = .list (ps.map d2) ∧ (∀ q ∈ ps, 0 < q.1) ∧ apart ps ∧ wide ps = n
theorem isRuns_of {n : Int} {ps : List (Int × Int)} (h : IsRuns n (.list (ps.map d2))) : (∀ q ∈ ps, 0 < q.1) ∧ apart ps ∧ wide ps = n := by
  obtain ⟨qs, e, r⟩ := h
  injection e with e
  rw [map_d2_inj e]
  exact r
theorem wr_apart : ∀ ps : List (Int × Int), (∀ q ∈ ps, 0 < q.1) → apart ps → wr ps = ps
  | [], _, _ => rfl
  | [p], h, _ => by
    have h0 := h p List.mem_cons_self
    unfold wr
    rw [if_pos h0]
    show [(0 + p.1, p.2)] = [p]
    rw [Int.zero_add]
  | p :: q :: t, h, a => by
    have ih := wr_apart (q :: t) (fun r hr => h r (List.mem_cons_of_mem _ hr)) a.2
    have h0 := h p List.mem_cons_self
    unfold wr
    rw [if_pos h0, ih]
    show (if q.2 = p.2 then (q.1 + p.1, p.2) :: t else (0 + p.1, p.2) :: q :: t) = p :: q :: t
    rw [if_neg (fun z => a.1 z.symm), Int.zero_add]
theorem runs_rle {ps : List (Int × Int)} (h : ∀ q ∈ ps, 0 < q.1) (a : apart ps) : rle (cells ps) = ps := by
  rw [← jnd_rle, jnd_wr, wr_apart ps h a]
theorem dpa_two2 {K : PySem.W.Frag} {H : Hp} : ∀ {xs : List V} {ds : List PyData}, DpAll K H xs ds → xs.length = 2 → ∃ v1 v2 d1 d2, xs = [v1, v2] ∧ ds = [d1, d2] ∧ Dp K H v1 d1 ∧ Dp K H v2 d2
  | [a, b], ds, h, _ => by
    cases h with
    | cons h1 h =>
    cases h with
    | cons h2 h =>
    cases h
    exact ⟨a, b, _, _, rfl, rfl, h1, h2⟩
def sp_is_run (K : PySem.W.Frag) : Sp := fun vs H Q _ => ∃ (v : V) (d : PyData), vs = [v] ∧ Dp K H v d ∧ Q (.bl (isR d)) H
theorem sc_is_run : FnScope ["thing", "many", "number"] ["thing"] (defScope s_is_run) :=
  ⟨rfl, rfl, rfl, by decide +kernel, rfl, by decide +kernel, by decide +kernel⟩
theorem ok_is_run {P : Program} {w : World} {K : PySem.W.Frag} {mg : Str → Option Value} {base : Heap} (T : Txt K mg) :
    FnG P w K mg base 2 T.a_is_run T.d_is_run ["thing"] (sp_is_run K) := by
  refine okD T.F_is_run sc_is_run (fun vs H Q E h => ?_) (fun cdv A outer s H vs Q E hr h => ?_)
  · first
      | (obtain ⟨_, rfl, _⟩ := h; rfl)
      | (obtain ⟨_, _, rfl, _⟩ := h; rfl)
      | (obtain ⟨_, _, _, rfl, _⟩ := h; rfl)
      | (obtain ⟨_, _, _, _, rfl, _⟩ := h; rfl)
      | (obtain ⟨_, _, _, _, _, rfl, _⟩ := h; rfl)
      | (obtain ⟨_, _, _, _, _, _, rfl, _⟩ := h; rfl)
      | (obtain ⟨_, _, _, _, _, _, _, rfl, _⟩ := h; rfl)
      | (obtain ⟨_, _, _, _, _, _, _, _, rfl, _⟩ := h; rfl)
      | (obtain ⟨_, _, _, _, _, _, _, _, _, rfl, _⟩ := h; rfl)
      | (obtain ⟨_, _, _, _, _, _, _, _, _, _, rfl, _⟩ := h; rfl)
      | (obtain ⟨_, _, _, _, _, _, _, _, _, _, _, rfl, _⟩ := h; rfl)
  · obtain ⟨v, d, rfl, hd, k⟩ := h
    have no : (∀ q, d = d2 q → 0 < q.1 → False) → Q (.bl false) H := fun z => by
      have e : isR d = false := Bool.eq_false_iff.mpr fun q => by
        obtain ⟨p, e1, e2⟩ := isR_true q
        exact z p e1 e2
      rw [e] at k
      exact k
    refine ⟨_, (pss_cons (ps_if (PW.pt (pw_or (pt_not (pt_val (pe_callB (k_isi (K := K) rfl) (by rfl) T.n_isinstance (by decide +kernel) (pa_cons (pv 0) (pa_cons (pe_bltn (v := .ty "tuple") (by rfl) T.n_tuple (by decide +kernel) rfl) pa_nil))))) (pw_or1 (pt_cmpR (k_ne (K := K) rfl hr.r.units) (pe_callB (k_len (K := K) rfl) (by rfl) T.n_len (by decide +kernel) (pa_cons (pv 0) pa_nil)) pe_int (nomark _))))) (pss_one (ps_ret pe_bl)) pss_nil)
      (pss_cons (ps_asg (pv 0) (k_gtup (K := K) 2 rfl rfl (pgs_cons (pg_name (i := 1) sc_is_run.nd rfl (Or.inl rfl)) (pgs_cons (pg_name (i := 2) sc_is_run.nd rfl (Or.inl rfl)) pgs_nil))))
      (pss_one (ps_ret (pe_and (d1 (ok_is_number T) (hr.mono (by decide)) (by rfl) T.m_is_number T.F_is_number.kp T.b_is_number passL (pa_cons (pv 1) pa_nil)) (pe_and (pe_cmpR op_gt (pv 1) pe_int (nomark _)) (pe_one (d1 (ok_is_number T) (hr.mono (by decide)) (by rfl) T.m_is_number T.F_is_number.kp T.b_is_number passL (pa_cons (pv 2) pa_nil))))))))), ?_⟩
    dsimp only [cxOf, st_1, st_2, st_3, st_4, st_5, st_6, List.length_cons, List.length_nil, List.replicate_succ, List.replicate_zero, Nat.reduceAdd, Nat.reduceSub]
    walk_at "gs"
    refine i_isD hd (kit_tup d) ?_
    walk_at "gs"
    refine i_boN (fun c => ?_) (fun c => ?_)
    · walk_at "gs"
      exact no fun p e _ => by
        rw [e] at c
        cases c
    obtain ⟨ds, rfl⟩ : ∃ ds, d = .tuple ds := by
      cases d with
      | tuple ds => exact ⟨ds, rfl⟩
      | _ => cases c
    cases hd
    rename_i t xs hs ha
    have hxl := dpa_len ha
    walk_at "gs"
    refine i_decN (fun c4 => ?_) (fun c4 => ?_)
    · walk_at "gs"
      exact no fun p e _ => by
        injection e with e
        rw [e] at hxl
        exact c4 (by rw [hxl]; rfl)
    obtain ⟨v1, v2, d1, d2', rfl, rfl, h1, h2⟩ := dpa_two2 ha (by omega)
    walk_at "gs"
    refine ⟨v1, d1, rfl, .dp h1, ?_⟩
    walk_at "gs"
    refine i_bool2 (fun c1 => ?_) (fun c1 => ?_)
    · obtain ⟨m, rfl⟩ := isI_int c1
      cases h1
      walk_at "gs"
      refine i_dec (fun c2 => ?_) (fun c2 => ?_)
      · walk_at "gs"
        refine ⟨v2, d2', rfl, .dp h2, ?_⟩
        have e : isR (.tuple [.int m, d2']) = isI d2' := by
          cases d2' with
          | int n => exact decide_eq_true c2
          | _ => rfl
        rw [e] at k
        exact k
      · walk_at "gs"
        exact no fun p e p0 => by
          injection e with e
          injection e with e _
          injection e with e
          exact c2 (by rw [e]; exact p0)
    · walk_at "gs"
      exact no fun p e _ => by
        injection e with e
        injection e with e _
        rw [e] at c1
        cases c1
def sp_are_runs (K : PySem.W.Frag) : Sp := fun vs H Q _ => ∃ (v : V) (d : PyData) (n : Int) (ws : List Addr), vs = [v, .int n] ∧ Tz K H ws v d ∧ (∀ ds, d = .list ds → ds.length ≤ 1000) ∧
  ∀ b H', Kp [] H H' → (b = true ↔ IsRuns n d) → Q (.bl b) H'
theorem sc_are_runs : FnScope ["thing", "size", "one", "other", "many", "number"] ["thing", "size"] (defScope s_are_runs) :=
  ⟨rfl, rfl, rfl, by decide +kernel, rfl, by decide +kernel, by decide +kernel⟩
theorem ok_are_runs {P : Program} {w : World} {K : PySem.W.Frag} {mg : Str → Option Value} {base : Heap} (T : Txt K mg) :
    FnG P w K mg base 3 T.a_are_runs T.d_are_runs ["thing", "size"] (sp_are_runs K) := by
  refine okD T.F_are_runs sc_are_runs (fun vs H Q E h => ?_) (fun cdv A outer s H vs Q E hr h => ?_)
  · first
      | (obtain ⟨_, rfl, _⟩ := h; rfl)
      | (obtain ⟨_, _, rfl, _⟩ := h; rfl)
      | (obtain ⟨_, _, _, rfl, _⟩ := h; rfl)
      | (obtain ⟨_, _, _, _, rfl, _⟩ := h; rfl)
      | (obtain ⟨_, _, _, _, _, rfl, _⟩ := h; rfl)
      | (obtain ⟨_, _, _, _, _, _, rfl, _⟩ := h; rfl)
      | (obtain ⟨_, _, _, _, _, _, _, rfl, _⟩ := h; rfl)
      | (obtain ⟨_, _, _, _, _, _, _, _, rfl, _⟩ := h; rfl)
      | (obtain ⟨_, _, _, _, _, _, _, _, _, rfl, _⟩ := h; rfl)
      | (obtain ⟨_, _, _, _, _, _, _, _, _, _, rfl, _⟩ := h; rfl)
      | (obtain ⟨_, _, _, _, _, _, _, _, _, _, _, rfl, _⟩ := h; rfl)
  · obtain ⟨v, d, n, ws, rfl, tz, len, k⟩ := h
    refine ⟨_, (pss_cons (ps_if (PW.pt (pw_or (pt_not (pt_val (pe_callB (k_isi (K := K) rfl) (by rfl) T.n_isinstance (by decide +kernel) (pa_cons (pv 0) (pa_cons (pe_bltn (v := .ty "list") (by rfl) T.n_list (by decide +kernel) rfl) pa_nil))))) (pw_or1 (pt_not (pt_val (pe_callB (k_all (K := K) rfl rfl) (by rfl) T.n_all (by decide +kernel) (pa_cons (pe_lc (own := [("one", 2)]) (g := (gName 2)) (tt := tYes) rfl sc_are_runs.nd (k_plist (K := K) rfl (pv 0)) (blkOk_by (own := [("one", 2)]) (N := ["thing", "size", "one", "other", "many", "number"]) (sc := defScope s_are_runs) (by decide +kernel)) (fun _ _ _ _ _ => (pg_name (i := 2) sc_are_runs.nd rfl (Or.inl rfl))) (fun _ _ _ _ _ => pts_nil) (fun _ _ _ _ _ => (d1 (ok_is_run T) (hr.mono (by decide)) (by rfl) T.m_is_run T.F_is_run.kp T.b_is_run passL (pa_cons (pv 2) pa_nil)))) pa_nil))))))) (pss_one (ps_ret pe_bl)) pss_nil)
      (pss_cons (ps_if (pt_val (pe_callB (k_any (K := K) rfl rfl) (by rfl) T.n_any (by decide +kernel) (pa_cons (pe_lc (own := [("one", 2), ("other", 3)]) (g := (gTup K 2 (gCons (gName 2) (gCons (gName 3) gNil)))) (tt := tYes) rfl sc_are_runs.nd (k_pzip (K := K) rfl (by rfl) T.n_zip (pa_cons (pv 0) (pa_cons (pe_slice (k_sl (K := K) rfl) (pv 0) (po_some pe_int) po_none) pa_nil))) (blkOk_by (own := [("one", 2), ("other", 3)]) (N := ["thing", "size", "one", "other", "many", "number"]) (sc := defScope s_are_runs) (by decide +kernel)) (fun _ _ _ _ _ => (k_gtup (K := K) 2 rfl rfl (pgs_cons (pg_name (i := 2) sc_are_runs.nd rfl (Or.inl rfl)) (pgs_cons (pg_name (i := 3) sc_are_runs.nd rfl (Or.inl rfl)) pgs_nil)))) (fun _ _ _ _ _ => pts_nil) (fun _ _ _ _ _ => (pe_cmpR (k_eq (K := K) rfl hr.r.units) (pe_ix (k_ix (K := K) rfl) (pv 2) pe_int (fun _ _ => rfl)) (pe_ix (k_ix (K := K) rfl) (pv 3) pe_int (fun _ _ => rfl)) (nomark _)))) pa_nil))) (pss_one (ps_ret pe_bl)) pss_nil)
      (pss_one (ps_ret (pe_cmpR (k_eq (K := K) rfl hr.r.units) (pe_callB (k_sum (K := K) rfl rfl) (by rfl) T.n_sum (by decide +kernel) (pa_cons (pe_lc (own := [("many", 4), ("number", 5)]) (g := (gTup K 2 (gCons (gName 4) (gCons (gName 5) gNil)))) (tt := tYes) rfl sc_are_runs.nd (k_plist (K := K) rfl (pv 0)) (blkOk_by (own := [("many", 4), ("number", 5)]) (N := ["thing", "size", "one", "other", "many", "number"]) (sc := defScope s_are_runs) (by decide +kernel)) (fun _ _ _ _ _ => (k_gtup (K := K) 2 rfl rfl (pgs_cons (pg_name (i := 4) sc_are_runs.nd rfl (Or.inl rfl)) (pgs_cons (pg_name (i := 5) sc_are_runs.nd rfl (Or.inl rfl)) pgs_nil)))) (fun _ _ _ _ _ => pts_nil) (fun _ _ _ _ _ => (pv 4))) pa_nil)) (pv 1) (nomark _)))))), ?_⟩
    dsimp only [cxOf, st_1, st_2, st_3, st_4, st_5, st_6, List.length_cons, List.length_nil, List.replicate_succ, List.replicate_zero, Nat.reduceAdd, Nat.reduceSub]
    walk_at "gs"
    refine i_isA tz.any (kit_lst d) ?_
    walk_at "gs"
    refine i_boN (fun c => ?_) (fun c => ?_)
    · walk_at "gs"
      refine k false H Kp.refl ⟨fun z => (nomatch z), fun ⟨ps, e, _⟩ => ?_⟩
      rw [e] at c
      cases c
    obtain ⟨ds, rfl⟩ : ∃ ds, d = .list ds := by
      cases d with
      | list ds => exact ⟨ds, rfl⟩
      | _ => cases c
    have hD := tz.list
    cases hD
    rename_i l xs nl hl0 hallx
    have hsq : SqL K H l xs := SqL.of hl0
    have hxl := dxa_len hallx
    have hlen := len ds rfl
    walk_at "gs"
    refine i_mapL hsq ((ds.map isR).map V.bl) (by rw [List.length_map, List.length_map]; omega) (by omega) ?_ ?_
    · intro D i x y H' Q' fD hx hy k1 q
      obtain ⟨d', hd', hdx'⟩ := dxa_get hallx hx
      rw [List.getElem?_map, List.getElem?_map, hd'] at hy
      cases hy
      have hdp' := (hdx'.kp k1.wide _ _).dp _ _
      walk_at "gs"
      exact ⟨x, d', rfl, hdp', q H' Kp.refl⟩
    intro D1 H1 fD1 k1 e1
    walk_at "gs"
    refine i_all (SqL.of e1) ?_
    walk_at "gs"
    refine i_boN (fun c2 => ?_) (fun c2 => ?_)
    · walk_at "gs"
      refine k false _ k1 ⟨fun z => (nomatch z), fun ⟨ps, e, p0, _⟩ => ?_⟩
      injection e with e
      rw [e, runs_all ps p0] at c2
      cases c2
    obtain ⟨ps, rfl, hpos⟩ := all_runs ds c2
    have hall := hallx.dp _ _
    rw [List.length_map] at hxl hlen
    have hsq1 := k1.seqL not_nil hsq
    walk_at "gs"
    refine i_new fun z hz => ?_
    have ec : cutV xs (some 1) none = xs.tail := by
      cases xs with
      | nil => rfl
      | cons x t => exact cutV_tail x t
    rw [ec]
    have kz : Kp [] H1 (upd H1 z (.lst xs.tail)) := Kp.new hz
    walk_at "gs"
    have hall2 : DpAll K H xs.tail (ps.tail.map d2) := by
      rw [List.map_tail]
      exact dpa_tail hall
    have hxt := dpa_len hall2
    rw [List.length_map] at hxt
    refine i_mapZ (kz.seqL not_nil hsq1) (SqL.of upd_same) ((List.zipWith (fun p q : Int × Int => decide (p.2 = q.2)) ps ps.tail).map V.bl) (by rw [List.length_map, List.length_zipWith]; omega) (by rw [List.length_map, List.length_zipWith]; omega) ?_ ?_
    · intro D i x u y T H' Q' fD hx hu hy k2 fT q
      obtain ⟨d, hd, hdp⟩ := dpa_getV hall hx
      obtain ⟨p, hp, rfl⟩ := map_get hd
      obtain ⟨d, hd, hdq⟩ := dpa_getV hall2 hu
      obtain ⟨p2, hp2, rfl⟩ := map_get hd
      have kk : Kp [] H (upd H' T (.tup [x, u])) := Kp.trans (Kp.trans k1 kz) (Kp.trans k2 (Kp.new fT))
      obtain ⟨t, rfl, hT⟩ := dp_pair (dp_imm kk _ _ rfl hdp)
      obtain ⟨t2, rfl, hT2⟩ := dp_pair (dp_imm kk _ _ rfl hdq)
      rw [List.getElem?_map, List.getElem?_zipWith, hp, hp2] at hy
      cases hy
      walk_at "gs"
      exact q _ (Kp.new fT)
    intro D2 H2 fD2 k2 e2
    walk_at "gs"
    refine i_any (SqL.of e2) ?_
    walk_at "gs"
    have k02 : Kp [] H H2 := Kp.trans (Kp.trans k1 kz) k2
    refine i_bool2 (fun c3 => ?_) (fun c3 => ?_)
    · walk_at "gs"
      refine k false _ k02 ⟨fun z => (nomatch z), fun h => ?_⟩
      rw [(apart_any ps).mpr (isRuns_of h).2.1] at c3
      cases c3
    walk_at "gs"
    refine i_mapL (k02.seqL not_nil hsq) ((ps.map (·.1)).map V.int) (by rw [List.length_map, List.length_map]; omega) (by omega) ?_ ?_
    · intro D i x y H' Q' fD hx hy k3 q
      obtain ⟨d, hd, hdp⟩ := dpa_getV hall hx
      obtain ⟨p, hp, rfl⟩ := map_get hd
      obtain ⟨t, rfl, hT⟩ := dp_pair (dp_imm (Kp.trans k02 k3) _ _ rfl hdp)
      rw [List.getElem?_map, List.getElem?_map, hp] at hy
      cases hy
      walk_at "gs"
      exact q H' Kp.refl
    intro D3 H3 fD3 k3 e3
    walk_at "gs"
    refine i_sum (SqL.of e3) ?_
    walk_at "gs"
    refine k _ H3 (Kp.trans k02 k3) ?_
    rw [decide_eq_true_iff]
    exact ⟨fun z => ⟨ps, rfl, hpos, (apart_any ps).mp c3, z⟩, fun h => (isRuns_of h).2.2⟩

/-! ### memory_of, asked of anything -/
def NewMem (K : PySem.W.Frag) (C : Addr) (cs : List Int) (H : Hp) (Q : VK) : Prop :=
  ∀ m H', Fr H m → Kp [] H H' → MemAt K C H' m cs → (∀ b, Tr H b → Off H' m b) → Q (.ref m) H'
def Made1 (d : PyData) (cs : List Int) : Prop := d = .list ((rle cs).map d2) ∧ 1 ≤ cs.length ∧ cs.length ≤ 1000000000000000000
def sp_memory_of (K : PySem.W.Frag) (C X : Addr) : Sp := fun vs H Q E => ∃ (v : V) (d : PyData) (ws : List Addr), vs = [v] ∧ Tz K H ws v d ∧ (∀ ds, d = .list ds → ds.length ≤ 1000) ∧
  ((∀ cs, ¬ Made1 d cs) → ∀ H', Kp [] H H' → E (.ref X) none H') ∧ (∀ cs, Made1 d cs → NewMem K C cs H Q)
theorem made_runs {n : Int} {ps : List (Int × Int)} (hpos : ∀ q ∈ ps, 0 < q.1) (hap : apart ps) (hw : wide ps = n) (h1 : 1 ≤ n) (h2 : n ≤ 1000000000000000000) : Made1 (.list (ps.map d2)) (cells ps) := by
  have l := cells_len ps hpos
  refine ⟨by rw [runs_rle hpos hap], by omega, by omega⟩
theorem made_is {d : PyData} {cs : List Int} (h : Made1 d cs) : IsRuns cs.length d := ⟨rle cs, h.1, rle_pos cs, apart_wr _, wide_rle cs⟩
theorem sc_memory_of : FnScope ["runs", "size", "found", "one", "many", "number"] ["runs"] (defScope s_memory_of) :=
  ⟨rfl, rfl, rfl, by decide +kernel, rfl, by decide +kernel, by decide +kernel⟩
theorem ok_memory_of {P : Program} {w : World} {K : PySem.W.Frag} {mg : Str → Option Value} {base : Heap} (T : Txt K mg) :
    FnG P w K mg base 7 T.a_memory_of T.d_memory_of ["runs"] (sp_memory_of K T.c_Memory T.x_NoRuns) := by
  refine okD T.F_memory_of sc_memory_of (fun vs H Q E h => ?_) (fun cdv A outer s H vs Q E hr h => ?_)
  · first
      | (obtain ⟨_, rfl, _⟩ := h; rfl)
      | (obtain ⟨_, _, rfl, _⟩ := h; rfl)
      | (obtain ⟨_, _, _, rfl, _⟩ := h; rfl)
      | (obtain ⟨_, _, _, _, rfl, _⟩ := h; rfl)
      | (obtain ⟨_, _, _, _, _, rfl, _⟩ := h; rfl)
      | (obtain ⟨_, _, _, _, _, _, rfl, _⟩ := h; rfl)
      | (obtain ⟨_, _, _, _, _, _, _, rfl, _⟩ := h; rfl)
      | (obtain ⟨_, _, _, _, _, _, _, _, rfl, _⟩ := h; rfl)
      | (obtain ⟨_, _, _, _, _, _, _, _, _, rfl, _⟩ := h; rfl)
      | (obtain ⟨_, _, _, _, _, _, _, _, _, _, rfl, _⟩ := h; rfl)
      | (obtain ⟨_, _, _, _, _, _, _, _, _, _, _, rfl, _⟩ := h; rfl)
  · obtain ⟨v, d, ws, rfl, tz, len, kE, k⟩ := h
    have cl_Memory := T.cl_Memory
    have na_Memory_pairs := T.na_Memory_pairs
    have na_Memory_wide := T.na_Memory_wide
    refine ⟨_, (pss_cons (ps_if (PW.pt (pw_or (pt_not (pt_val (pe_callB (k_isi (K := K) rfl) (by rfl) T.n_isinstance (by decide +kernel) (pa_cons (pv 0) (pa_cons (pe_bltn (v := .ty "list") (by rfl) T.n_list (by decide +kernel) rfl) pa_nil))))) (pw_or1 (pt_not (pt_val (pe_callB (k_all (K := K) rfl rfl) (by rfl) T.n_all (by decide +kernel) (pa_cons (pe_lc (own := [("one", 3)]) (g := (gName 3)) (tt := tYes) rfl sc_memory_of.nd (k_plist (K := K) rfl (pv 0)) (blkOk_by (own := [("one", 3)]) (N := ["runs", "size", "found", "one", "many", "number"]) (sc := defScope s_memory_of) (by decide +kernel)) (fun _ _ _ _ _ => (pg_name (i := 3) sc_memory_of.nd rfl (Or.inl rfl))) (fun _ _ _ _ _ => pts_nil) (fun _ _ _ _ _ => (d1 (ok_is_run T) (hr.mono (by decide)) (by rfl) T.m_is_run T.F_is_run.kp T.b_is_run passL (pa_cons (pv 3) pa_nil)))) pa_nil))))))) (pss_one (ps_raise rfl (takes_of rfl rfl rfl rfl) (pmk_own PySem.F.excBase_ValueError T.en_NoRuns T.mx_NoRuns T.ek_NoRuns (raises_own T.ec_NoRuns.hs T.et_NoRuns) rfl))) pss_nil)
      (pss_cons (ps_set (i := 1) sc_memory_of.nd rfl (Or.inl rfl) (pe_callB (k_sum (K := K) rfl rfl) (by rfl) T.n_sum (by decide +kernel) (pa_cons (pe_lc (own := [("many", 4), ("number", 5)]) (g := (gTup K 2 (gCons (gName 4) (gCons (gName 5) gNil)))) (tt := tYes) rfl sc_memory_of.nd (k_plist (K := K) rfl (pv 0)) (blkOk_by (own := [("many", 4), ("number", 5)]) (N := ["runs", "size", "found", "one", "many", "number"]) (sc := defScope s_memory_of) (by decide +kernel)) (fun _ _ _ _ _ => (k_gtup (K := K) 2 rfl rfl (pgs_cons (pg_name (i := 4) sc_memory_of.nd rfl (Or.inl rfl)) (pgs_cons (pg_name (i := 5) sc_memory_of.nd rfl (Or.inl rfl)) pgs_nil)))) (fun _ _ _ _ _ => pts_nil) (fun _ _ _ _ _ => (pv 4))) pa_nil)))
      (pss_cons (ps_if (PW.pt (pw_or (pt_not (pt_val (d1 (ok_is_size T) (hr.mono (by decide)) (by rfl) T.m_is_size T.F_is_size.kp T.b_is_size passL (pa_cons (pv 1) pa_nil)))) (pw_or1 (pt_not (pt_val (d1 (ok_are_runs T) (hr.mono (by decide)) (by rfl) T.m_are_runs T.F_are_runs.kp T.b_are_runs passL (pa_cons (pv 0) (pa_cons (pv 1) pa_nil)))))))) (pss_one (ps_raise rfl (takes_of rfl rfl rfl rfl) (pmk_own PySem.F.excBase_ValueError T.en_NoRuns T.mx_NoRuns T.ek_NoRuns (raises_own T.ec_NoRuns.hs T.et_NoRuns) rfl))) pss_nil)
      (pss_cons (ps_set (i := 2) sc_memory_of.nd rfl (Or.inl rfl) (mk1 T.mk_Memory (ok_Memory_init T) (hr.mono (by decide)) (by rfl) T.mg_Memory T.b_Memory_init passL (pa_cons (pv 1) pa_nil)))
      (pss_cons (ps_expr (dm T.cl_Memory T.me_Memory_lay (ok_Memory_lay T) (hr.mono (by decide)) T.b_Memory_lay passL (pv 2) (pa_cons pe_int (pa_cons (pe_callTy (k_list (K := K) rfl) (by rfl) T.n_list (by decide +kernel) (pa_cons (pv 0) pa_nil)) (pa_cons (pv 1) pa_nil)))))
      (pss_one (ps_ret (pv 2)))))))), ?_⟩
    dsimp only [cxOf, st_1, st_2, st_3, st_4, st_5, st_6, List.length_cons, List.length_nil, List.replicate_succ, List.replicate_zero, Nat.reduceAdd, Nat.reduceSub]
    walk_at "gs"
    refine i_isA tz.any (kit_lst d) ?_
    walk_at "gs"
    refine i_boN (fun c => ?_) (fun c => ?_)
    · walk_at "gs"
      refine kE (fun cs h => ?_) _ Kp.refl
      rw [h.1] at c
      cases c
    obtain ⟨ds, rfl⟩ : ∃ ds, d = .list ds := by
      cases d with
      | list ds => exact ⟨ds, rfl⟩
      | _ => cases c
    have hD := tz.list
    cases hD
    rename_i l xs nl hl0 hallx
    have hsq : SqL K H l xs := SqL.of hl0
    have hxl := dxa_len hallx
    have hlen := len ds rfl
    walk_at "gs"
    refine i_mapL hsq ((ds.map isR).map V.bl) (by rw [List.length_map, List.length_map]; omega) (by omega) ?_ ?_
    · intro D i x y H' Q' fD hx hy k1 q
      obtain ⟨d', hd', hdx'⟩ := dxa_get hallx hx
      rw [List.getElem?_map, List.getElem?_map, hd'] at hy
      cases hy
      have hdp' := (hdx'.kp k1.wide _ _).dp _ _
      walk_at "gs"
      exact ⟨x, d', rfl, hdp', q H' Kp.refl⟩
    intro D1 H1 fD1 k1 e1
    walk_at "gs"
    refine i_all (SqL.of e1) ?_
    walk_at "gs"
    refine i_boN (fun c2 => ?_) (fun c2 => ?_)
    · walk_at "gs"
      refine kE (fun cs h => ?_) _ k1
      have e := h.1
      injection e with e
      rw [e, runs_all _ (rle_pos cs)] at c2
      cases c2
    obtain ⟨ps, rfl, hpos⟩ := all_runs ds c2
    have hall := hallx.dp _ _
    rw [List.length_map] at hxl hlen
    walk_at "gs"
    refine i_mapL (k1.seqL not_nil hsq) ((ps.map (·.1)).map V.int) (by rw [List.length_map, List.length_map]; omega) (by omega) ?_ ?_
    · intro D i x y H' Q' fD hx hy k3 q
      obtain ⟨d, hd, hdp⟩ := dpa_getV hall hx
      obtain ⟨p, hp, rfl⟩ := map_get hd
      obtain ⟨t, rfl, hT⟩ := dp_pair (dp_imm (Kp.trans k1 k3) _ _ rfl hdp)
      rw [List.getElem?_map, List.getElem?_map, hp] at hy
      cases hy
      walk_at "gs"
      exact q H' Kp.refl
    intro D2 H2 fD2 k2 e2
    walk_at "gs"
    refine i_sum (SqL.of e2) ?_
    have k02 := Kp.trans k1 k2
    have es : (ps.map (·.1)).sum = wide ps := rfl
    rw [es]
    have no : ¬ (1 ≤ wide ps ∧ wide ps ≤ 1000000000000000000 ∧ apart ps) → ∀ cs, ¬ Made1 (.list (ps.map d2)) cs := fun z cs h => by
      have e := h.1
      injection e with e
      have e2 := map_d2_inj e
      have w := wide_rle cs
      rw [← e2] at w
      obtain ⟨_, h1, h2⟩ := h
      refine z ⟨by omega, by omega, ?_⟩
      rw [e2]
      exact apart_wr _
    have tz2 : Tz K H2 ws (.ref l) (.list (ps.map d2)) := tz.kp k02.wide
    walk_at "gs"
    refine size_int ?_
    walk_at "gs"
    refine i_decN (fun z => ?_) (fun hw => ?_)
    · walk_at "gs"
      exact kE (no fun q => z ⟨q.1, q.2.1⟩) _ k02
    walk_at "gs"
    refine ⟨_, _, wide ps, ws, rfl, tz2, len, fun b H3 k3 hb => ?_⟩
    walk_at "gs"
    refine i_boN (fun z => ?_) (fun z => ?_)
    · walk_at "gs"
      exact kE (no fun q => by
        have := hb.mpr ⟨ps, rfl, hpos, q.2.2, rfl⟩
        rw [z] at this
        cases this) _ (Kp.trans k02 k3)
    obtain ⟨_, hap, _⟩ := isRuns_of (hb.mp z)
    have mk := made_runs hpos hap rfl hw.1 hw.2
    obtain ⟨cs, hcs⟩ : ∃ cs, cs = cells ps := ⟨_, rfl⟩
    have er : ps = rle cs := by rw [hcs, runs_rle hpos hap]
    have hlw : wide ps = cs.length := by rw [er, wide_rle]
    rw [← hcs] at mk
    have k := k cs mk
    rw [er] at hall hlen
    rw [hlw] at hw ⊢
    walk_at "gs"
    refine i_made fun m d hm hd nd => ?_
    refine ⟨m, d, cs.length, 0, rfl, upd_same, by omega, fun H4 k4 M4 _ => ⟨rfl, ?_⟩⟩
    have k34 := kp_made hm hd k4
    have k04 : Kp [] H H4 := Kp.trans k02 (Kp.trans k3 k34)
    have hsq4 := k04.seqL not_nil hsq
    obtain ⟨dx, lm, hmi, ldm⟩ := id M4
    walk_at "gs"
    refine i_new fun x hx => ?_
    walk_at "gs"
    have kx : Kp [] H4 (upd H4 x (.lst xs)) := Kp.new hx
    have lx : LD K (upd H4 x (.lst xs)) x ((rle cs).map d2) := ⟨xs, upd_same, dpa_imm (Kp.trans k04 kx) _ _ (imms_d2 _) hall⟩
    rw [Int.toNat_natCast] at M4
    refine ⟨m, x, 0, cs.length, List.replicate cs.length 0, rle cs, rfl, mem_upd M4 hx, lx, ?_, by omega, ?_, ?_, fun H5 k5 M5 of5 => ?_⟩
    · have e := rle_one (n := cs.length) (v := 0) (by omega)
      rw [Int.toNat_natCast] at e
      rw [e]
      exact one_few
    · rw [List.length_replicate]
      omega
    · rw [cells_rle]
      omega
    · have el : laid (List.replicate cs.length 0) 0 cs cs.length = cs := by
        unfold laid
        rw [List.take_zero, List.nil_append, List.drop_eq_nil_of_le (by rw [List.length_replicate]; omega), List.append_nil]
      rw [cells_rle, Int.toNat_natCast] at M5
      have el2 : laid (List.replicate cs.length 0) (0 : Int).toNat cs cs.length = cs := el
      rw [el2] at M5
      walk_at "gs"
      have hm0 : Fr H m := (Kp.trans k02 k3).free hm
      exact k m H5 hm0 (Kp.drop (Kp.trans (Kp.wide (Kp.trans k04 kx)) k5) hm0) M5 (fun b hb => of5 b (tr_kp (Kp.trans k04 kx) hb))

/-! ### things of any kind -/
theorem i_dict1 {σ : L2.St} {H : Hp} {Q : VK} (q : New H fun p => Q (.ref p) (upd (upd H p (.dK [])) p (.dK [(.inl 1, .int 1)]))) : tDisp [(tC (.int 1), tC (.int 1))] σ H Q :=
  fun p hp => ⟨upd_same, [(.inl 1, .int 1)], rfl, by decide, q p hp⟩
/-- small data, or one of the dicts -/
def Okay (d : PyData) : Prop := (∃ es, d = .dict es) ∨ (shw d = true ∧ d.depth ≤ 10 ∧ cw d ≤ 200000)
def bnd (i : Int) : Prop := -10000000000000000000000000000000000000000000000000000000000000000000000 ≤ i ∧ i ≤ 10000000000000000000000000000000000000000000000000000000000000000000000
theorem bnd_ok {i j : Int} (h : bnd i) (a : i - 1 ≤ j) (b : j ≤ i + 1) : okI j := by
  unfold bnd at h
  exact okI_of (by omega) (by omega)
theorem shw_int {n : Int} (h : okI n) : shw (.int n) = true := decide_eq_true h
theorem okay_int {n : Int} (h : okI n) : Okay (.int n) := .inr ⟨shw_int h, by simp only [PyData.depth]; omega, by simp only [cw]; omega⟩
def sp_law_thing (K : PySem.W.Frag) : Sp := fun vs H Q _ => ∃ p : Addr, vs = [.ref p] ∧ PotAt H p ∧
  ∀ v d H', PotAt H' p → Kp [p] H H' → Tz K H' [p] v d → Okay d → (∀ ds, d = .list ds → ds = [] ∨ ds = [.int 1]) → (∀ n, d = .int n → -1000000000000000000000000000000000000000000000000000000000000 ≤ n ∧ n ≤ 1000000000000000000000000000000000000000000000000000000000000) → Q v H'
theorem sc_law_thing : FnScope ["_law_pot_here", "_law_some", "_law_at"] ["_law_pot_here"] (defScope s_law_thing) :=
  ⟨rfl, rfl, rfl, by decide +kernel, rfl, by decide +kernel, by decide +kernel⟩
theorem ok_law_thing {P : Program} {w : World} {K : PySem.W.Frag} {mg : Str → Option Value} {base : Heap} (T : Txt K mg) :
    FnG P w K mg base 2 T.a_law_thing T.d_law_thing ["_law_pot_here"] (sp_law_thing K) := by
  refine okD T.F_law_thing sc_law_thing (fun vs H Q E h => ?_) (fun cdv A outer s H vs Q E hr h => ?_)
  · first
      | (obtain ⟨_, rfl, _⟩ := h; rfl)
      | (obtain ⟨_, _, rfl, _⟩ := h; rfl)
      | (obtain ⟨_, _, _, rfl, _⟩ := h; rfl)
      | (obtain ⟨_, _, _, _, rfl, _⟩ := h; rfl)
      | (obtain ⟨_, _, _, _, _, rfl, _⟩ := h; rfl)
      | (obtain ⟨_, _, _, _, _, _, rfl, _⟩ := h; rfl)
      | (obtain ⟨_, _, _, _, _, _, _, rfl, _⟩ := h; rfl)
      | (obtain ⟨_, _, _, _, _, _, _, _, rfl, _⟩ := h; rfl)
      | (obtain ⟨_, _, _, _, _, _, _, _, _, rfl, _⟩ := h; rfl)
      | (obtain ⟨_, _, _, _, _, _, _, _, _, _, rfl, _⟩ := h; rfl)
      | (obtain ⟨_, _, _, _, _, _, _, _, _, _, _, rfl, _⟩ := h; rfl)
  · obtain ⟨p, rfl, hp, k⟩ := h
    refine ⟨_, (pss_cons (ps_set (i := 1) sc_law_thing.nd rfl (Or.inl rfl) (pe_lst (pa_cons pe_non (pa_cons pe_bl (pa_cons pe_bl (pa_cons pe_int (pa_cons pe_int (pa_cons (pe_un un_neg pe_int) (pa_cons pe_str (pa_cons pe_str (pa_cons (pe_tup pa_nil) (pa_cons (pe_tup (pa_cons pe_int pa_nil)) (pa_cons (pe_lst pa_nil) (pa_cons (pe_lst (pa_cons pe_int pa_nil)) (pa_cons pe_dnewK (pa_cons (pe_disp (pps_cons pe_int pe_int pps_nil) (by rfl) (by rfl) (fun z => by cases z) (by decide)) (pa_cons (pe_op o_pow pe_int pe_int) (pa_cons (pe_op (k_add (K := K) rfl) (pe_op o_pow pe_int pe_int) pe_int) (pa_cons (pe_un un_neg (pe_op o_pow pe_int pe_int)) pa_nil)))))))))))))))))))
      (pss_cons (ps_set (i := 2) sc_law_thing.nd rfl (Or.inl rfl) (d1 (ok_law_draw T) (hr.mono (by decide)) (by rfl) T.m_law_draw T.F_law_draw.kp T.b_law_draw passL (pa_cons (pv 0) (pa_cons (pe_op (k_add (K := K) rfl) (pe_callB (k_len (K := K) rfl) (by rfl) T.n_len (by decide +kernel) (pa_cons (pv 1) pa_nil)) pe_int) pa_nil))))
      (pss_one (ps_ret (pe_ifExp (pt_cmpR op_lt (pv 2) (pe_callB (k_len (K := K) rfl) (by rfl) T.n_len (by decide +kernel) (pa_cons (pv 1) pa_nil)) (nomark _)) (pe_ix (k_ix (K := K) rfl) (pv 1) (pv 2) (fun _ _ => rfl)) (d1 (ok_law_draw T) (hr.mono (by decide)) (by rfl) T.m_law_draw T.F_law_draw.kp T.b_law_draw passL (pa_cons (pv 0) (pa_cons (pe_op o_mul pe_int (pe_op o_pow pe_int pe_int)) pa_nil)))))))), ?_⟩
    dsimp only [cxOf, st_1, st_2, st_3, st_4, st_5, st_6, List.length_cons, List.length_nil, List.replicate_succ, List.replicate_zero, Nat.reduceAdd, Nat.reduceSub]
    walk_at "gs"
    refine i_new fun V1 g1 => ?_
    walk_at "gs"
    refine i_new fun V2 g2 => ?_
    walk_at "gs"
    refine i_new fun V3 g3 => ?_
    walk_at "gs"
    refine i_new fun V4 g4 => ?_
    refine i_cons ?_
    intro V5 g5'
    have g5 : Fr _ V5 := ⟨g5'⟩
    refine i_cons ?_
    refine i_dict1 ?_
    refine i_new fun V6 g6 => ?_
    walk_at "gs"
    refine i_new fun V7 g7 => ?_
    walk_at "gs"
    obtain ⟨L7, hL7⟩ : ∃ L7 : List V, L7 = [V.non, V.bl true, V.bl false, V.int 0, V.int 1, V.int (-1), V.str (Str.ofString ""), V.str (Str.ofString "1"), V.ref V1, V.ref V2, V.ref V3, V.ref V4, V.ref V5, V.ref V6,
      V.int 1000000000000000000, V.int (1000000000000000000 + 1), V.int (-100000000000000000000000000000000000000000000000000000000000)] := ⟨_, rfl⟩
    have len7 : L7.length = 17 := by rw [hL7]; rfl
    rw [← hL7]
    obtain ⟨HV, hHV⟩ : ∃ HV, HV = upd (upd (upd (upd (upd (upd (upd (upd H V1 (.tup [])) V2 (.tup [V.int 1])) V3 (.lst [])) V4 (.lst [V.int 1])) V5 (.dK [])) V6 (.dK [])) V6 (.dK [(.inl 1, V.int 1)])) V7 (.lst L7) := ⟨_, rfl⟩
    have kV : Kp [] H HV := by
      rw [hHV, upd_upd]
      rw [upd_upd] at g7
      walk_at "g_kp"
    rw [upd_upd] at hHV g7
    have q1 : SqT K HV V1 [] := by
      rw [hHV]
      walk_at "g_st"
    have q2 : SqT K HV V2 [V.int 1] := by
      rw [hHV]
      walk_at "g_st"
    have q3 : HV V3 = some (.lst []) := by
      rw [hHV]
      walk_at "g_hp"
    have q4 : HV V4 = some (.lst [V.int 1]) := by
      rw [hHV]
      walk_at "g_hp"
    have q5 : HV V5 = some (.dK []) := by
      rw [hHV]
      walk_at "g_hp"
    have q6 : HV V6 = some (.dK [(.inl 1, V.int 1)]) := by
      rw [hHV]
      walk_at "g_hp"
    have q7 : HV V7 = some (.lst L7) := by
      rw [hHV]
      exact upd_same
    have z3 : V3 ≠ p := Ne.symm (hp.ne (show Fr H V3 by walk_at "g_fr"))
    have z4 : V4 ≠ p := Ne.symm (hp.ne (show Fr H V4 by walk_at "g_fr"))
    have z5 : V5 ≠ p := Ne.symm (hp.ne (show Fr H V5 by walk_at "g_fr"))
    have z6 : V6 ≠ p := Ne.symm (hp.ne (show Fr H V6 by walk_at "g_fr"))
    have z7 : V7 ≠ p := Ne.symm (hp.ne (show Fr H V7 by walk_at "g_fr"))
    rw [upd_upd, ← hHV]
    refine use_draw (hp.kp kV not_nil) (by omega) (by omega) (fun m H5 m0 m1 hp5 k5 => ?_)
    have r1 := k5.seqT q1
    have r2 := k5.seqT q2
    have r3 := k5.at_ _ _ q3 (not_one z3)
    have r4 := k5.at_ _ _ q4 (not_one z4)
    have r5 := k5.at_ _ _ q5 (not_one z5)
    have r6 := k5.at_ _ _ q6 (not_one z6)
    have r7 := k5.at_ _ _ q7 (not_one z7)
    walk_at "gs"
    refine i_dec (fun c => ?_) (fun c => ?_)
    · obtain ⟨w, dw, hatw, hDw, fw, len, ib⟩ : ∃ w dw, atI L7 m = some w ∧ Tz K H5 [p] w dw ∧ Okay dw ∧ (∀ ds, dw = .list ds → ds = [] ∨ ds = [.int 1]) ∧ ∀ n, dw = .int n → -1000000000000000000000000000000000000000000000000000000000000 ≤ n ∧ n ≤ 1000000000000000000000000000000000000000000000000000000000000 := by
        rw [hL7]
        obtain ⟨m', rfl⟩ := Int.eq_ofNat_of_zero_le m0
        have e : m' = 0 ∨ m' = 1 ∨ m' = 2 ∨ m' = 3 ∨ m' = 4 ∨ m' = 5 ∨ m' = 6 ∨ m' = 7 ∨ m' = 8 ∨ m' = 9 ∨ m' = 10 ∨ m' = 11 ∨ m' = 12 ∨ m' = 13 ∨ m' = 14 ∨ m' = 15 ∨ m' = 16 := by omega
        rcases e with rfl | rfl | rfl | rfl | rfl | rfl | rfl | rfl | rfl | rfl | rfl | rfl | rfl | rfl | rfl | rfl | rfl
        · exact ⟨_, _, rfl, .inl .non, .inr ⟨rfl, by simp only [PyData.depth]; omega, by simp only [cw]; omega⟩, fun _ z => (nomatch z), by intro n z; cases z <;> omega⟩
        · exact ⟨_, _, rfl, .inl (.bl _), .inr ⟨rfl, by simp only [PyData.depth]; omega, by simp only [cw]; omega⟩, fun _ z => (nomatch z), by intro n z; cases z <;> omega⟩
        · exact ⟨_, _, rfl, .inl (.bl _), .inr ⟨rfl, by simp only [PyData.depth]; omega, by simp only [cw]; omega⟩, fun _ z => (nomatch z), by intro n z; cases z <;> omega⟩
        · exact ⟨_, _, rfl, .inl (.int _), okay_int (okI_of (by omega) (by omega)), fun _ z => (nomatch z), by intro n z; cases z <;> omega⟩
        · exact ⟨_, _, rfl, .inl (.int _), okay_int (okI_of (by omega) (by omega)), fun _ z => (nomatch z), by intro n z; cases z <;> omega⟩
        · exact ⟨_, _, rfl, .inl (.int _), okay_int (okI_of (by omega) (by omega)), fun _ z => (nomatch z), by intro n z; cases z <;> omega⟩
        · exact ⟨_, _, rfl, .inl (.str _), .inr ⟨by decide +kernel, by simp only [PyData.depth]; omega, by simp only [cw]; decide +kernel⟩, fun _ z => (nomatch z), by intro n z; cases z <;> omega⟩
        · exact ⟨_, _, rfl, .inl (.str _), .inr ⟨by decide +kernel, by simp only [PyData.depth]; omega, by simp only [cw]; decide +kernel⟩, fun _ z => (nomatch z), by intro n z; cases z <;> omega⟩
        · exact ⟨_, .tuple [], rfl, .inl (.tup r1 .nil), .inr ⟨rfl, by simp only [PyData.depth, PyData.depthAll]; omega, by simp only [cw, cws]; omega⟩, fun _ z => (nomatch z), by intro n z; cases z <;> omega⟩
        · exact ⟨_, .tuple [.int 1], rfl, .inl (.tup r2 (.cons (.int _) .nil)), .inr ⟨by decide +kernel, by simp only [PyData.depth, PyData.depthAll]; omega, by simp only [cw, cws]; omega⟩, fun _ z => (nomatch z), by intro n z; cases z <;> omega⟩
        · exact ⟨_, .list [], rfl, .inl (.lst (not_one z3) r3 .nil), .inr ⟨rfl, by simp only [PyData.depth, PyData.depthAll]; omega, by simp only [cw, cws]; omega⟩, fun _ z => by cases z; exact .inl rfl, by intro n z; cases z⟩
        · exact ⟨_, .list [.int 1], rfl, .inl (.lst (not_one z4) r4 (.cons (.int _) .nil)), .inr ⟨by decide +kernel, by simp only [PyData.depth, PyData.depthAll]; omega, by simp only [cw, cws]; omega⟩, fun _ z => by cases z; exact .inr rfl, by intro n z; cases z⟩
        · exact ⟨_, .dict [], rfl, .inr ⟨V5, [], [], rfl, rfl, r5, not_one z5, .inl ⟨rfl, rfl⟩⟩, .inl ⟨_, rfl⟩, fun _ z => (nomatch z), by intro n z; cases z <;> omega⟩
        · exact ⟨_, .dict [(.int 1, .int 1)], rfl, .inr ⟨V6, _, _, rfl, rfl, r6, not_one z6, .inr ⟨rfl, rfl⟩⟩, .inl ⟨_, rfl⟩, fun _ z => (nomatch z), by intro n z; cases z <;> omega⟩
        · exact ⟨_, _, rfl, .inl (.int _), okay_int (okI_of (by omega) (by omega)), fun _ z => (nomatch z), by intro n z; cases z <;> omega⟩
        · exact ⟨_, _, rfl, .inl (.int _), okay_int (okI_of (by omega) (by omega)), fun _ z => (nomatch z), by intro n z; cases z <;> omega⟩
        · exact ⟨_, _, rfl, .inl (.int _), okay_int (okI_of (by omega) (by omega)), fun _ z => (nomatch z), by intro n z; cases z <;> omega⟩
      walk_at "gs"
      exact k w dw H5 hp5 (Kp.trans kV.wide k5) hDw fw len ib
    · walk_at "gs"
      refine use_draw hp5 (by decide) (by decide) (fun g H6 g0 g1 hp6 k6 => ?_)
      exact k (.int g) (.int g) H6 hp6 (Kp.trans kV.wide (Kp.trans k5 k6)) (.inl (.int _)) (okay_int (okI_of (by omega) (by omega))) (fun _ z => nomatch z) (fun n z => by cases z; omega)
def sp_law_is_whole (K : PySem.W.Frag) : Sp := fun vs H Q _ => ∃ (v : V) (d : PyData) (a b : Int), vs = [v, .int a, .int b] ∧ Any K H v d ∧ Q (.bl (whD d a b)) H
theorem sc_law_is_whole : FnScope ["_law_thing_here", "_law_least", "_law_most"] ["_law_thing_here", "_law_least", "_law_most"] (defScope s_law_is_whole) :=
  ⟨rfl, rfl, rfl, by decide +kernel, rfl, by decide +kernel, by decide +kernel⟩
theorem ok_law_is_whole {P : Program} {w : World} {K : PySem.W.Frag} {mg : Str → Option Value} {base : Heap} (T : Txt K mg) :
    FnG P w K mg base 1 T.a_law_is_whole T.d_law_is_whole ["_law_thing_here", "_law_least", "_law_most"] (sp_law_is_whole K) := by
  refine okD T.F_law_is_whole sc_law_is_whole (fun vs H Q E h => ?_) (fun cdv A outer s H vs Q E hr h => ?_)
  · first
      | (obtain ⟨_, rfl, _⟩ := h; rfl)
      | (obtain ⟨_, _, rfl, _⟩ := h; rfl)
      | (obtain ⟨_, _, _, rfl, _⟩ := h; rfl)
      | (obtain ⟨_, _, _, _, rfl, _⟩ := h; rfl)
      | (obtain ⟨_, _, _, _, _, rfl, _⟩ := h; rfl)
      | (obtain ⟨_, _, _, _, _, _, rfl, _⟩ := h; rfl)
      | (obtain ⟨_, _, _, _, _, _, _, rfl, _⟩ := h; rfl)
      | (obtain ⟨_, _, _, _, _, _, _, _, rfl, _⟩ := h; rfl)
      | (obtain ⟨_, _, _, _, _, _, _, _, _, rfl, _⟩ := h; rfl)
      | (obtain ⟨_, _, _, _, _, _, _, _, _, _, rfl, _⟩ := h; rfl)
      | (obtain ⟨_, _, _, _, _, _, _, _, _, _, _, rfl, _⟩ := h; rfl)
  · obtain ⟨v, d, a, b, rfl, hd, k⟩ := h
    refine ⟨_, (pss_one (ps_ret (pe_and (pe_callB (k_isi (K := K) rfl) (by rfl) T.n_isinstance (by decide +kernel) (pa_cons (pv 0) (pa_cons (pe_bltn (v := .ty "int") (by rfl) T.n_int (by decide +kernel) rfl) pa_nil))) (pe_and (pe_not (pe_callB (k_isi (K := K) rfl) (by rfl) T.n_isinstance (by decide +kernel) (pa_cons (pv 0) (pa_cons (pe_bltn (v := .ty "bool") (by rfl) T.n_bool (by decide +kernel) rfl) pa_nil)))) (pe_one (pe_chain op_le op_le (pv 1) (pv 0) (pv 2))))))), ?_⟩
    dsimp only [cxOf, st_1, st_2, st_3, st_4, st_5, st_6, List.length_cons, List.length_nil, List.replicate_succ, List.replicate_zero, Nat.reduceAdd, Nat.reduceSub]
    walk_at "gs"
    refine i_isA hd (kit_int d) ?_
    walk_at "gs"
    refine i_bool2 (fun c => ?_) (fun c => ?_)
    · walk_at "gs"
      refine i_isA hd (kit_bool d) ?_
      walk_at "gs"
      have e := isI_eq d
      rw [c, Bool.true_and] at e
      rw [← e]
      refine i_bool2 (fun c2 => ?_) (fun c2 => ?_)
      · obtain ⟨n, rfl⟩ := isI_int c2
        obtain rfl := hd.2 n rfl
        walk_at "gs"
        refine i_dec (fun c => ?_) (fun c => ?_)
        · walk_at "gs"
          have e : decide (n ≤ b) = whD (.int n) a b := by simp only [whD, c, true_and]
          rw [e]
          exact k
        · have e : false = whD (.int n) a b := by simp only [whD, c, false_and, decide_false]
          rw [e]
          exact k
      · rw [whD_no c2] at k
        exact k
    · have e := isI_eq d
      rw [c, Bool.false_and] at e
      rw [whD_no e] at k
      exact k
theorem shaped_bool {b : Bool} : SeqAt.shaped (.bool b) = true := shaped_of rfl (by simp only [PyData.depth]; omega)
def sp_law_is : Sp := fun vs H Q _ => ∃ b : Bool, vs = [.bl b, .bl b] ∧ Q (.bl true) H
theorem sc_law_is : FnScope ["_law_told", "_law_due"] ["_law_told", "_law_due"] (defScope s_law_is) :=
  ⟨rfl, rfl, rfl, by decide +kernel, rfl, by decide +kernel, by decide +kernel⟩
theorem ok_law_is {P : Program} {w : World} {K : PySem.W.Frag} {mg : Str → Option Value} {base : Heap} (T : Txt K mg) :
    FnG P w K mg base 1 T.a_law_is T.d_law_is ["_law_told", "_law_due"] sp_law_is := by
  refine okD T.F_law_is sc_law_is (fun vs H Q E h => ?_) (fun cdv A outer s H vs Q E hr h => ?_)
  · first
      | (obtain ⟨_, rfl, _⟩ := h; rfl)
      | (obtain ⟨_, _, rfl, _⟩ := h; rfl)
      | (obtain ⟨_, _, _, rfl, _⟩ := h; rfl)
      | (obtain ⟨_, _, _, _, rfl, _⟩ := h; rfl)
      | (obtain ⟨_, _, _, _, _, rfl, _⟩ := h; rfl)
      | (obtain ⟨_, _, _, _, _, _, rfl, _⟩ := h; rfl)
      | (obtain ⟨_, _, _, _, _, _, _, rfl, _⟩ := h; rfl)
      | (obtain ⟨_, _, _, _, _, _, _, _, rfl, _⟩ := h; rfl)
      | (obtain ⟨_, _, _, _, _, _, _, _, _, rfl, _⟩ := h; rfl)
      | (obtain ⟨_, _, _, _, _, _, _, _, _, _, rfl, _⟩ := h; rfl)
      | (obtain ⟨_, _, _, _, _, _, _, _, _, _, _, rfl, _⟩ := h; rfl)
  · obtain ⟨b, rfl, k⟩ := h
    refine ⟨_, (pss_one (ps_ret (pe_and (pe_callB (k_isi (K := K) rfl) (by rfl) T.n_isinstance (by decide +kernel) (pa_cons (pv 0) (pa_cons (pe_bltn (v := .ty "bool") (by rfl) T.n_bool (by decide +kernel) rfl) pa_nil))) (pe_one (pe_cmpR (k_eq (K := K) rfl hr.r.units) (pv 0) (pv 1) (nomark _)))))), ?_⟩
    dsimp only [cxOf, st_1, st_2, st_3, st_4, st_5, st_6, List.length_cons, List.length_nil, List.replicate_succ, List.replicate_zero, Nat.reduceAdd, Nat.reduceSub]
    walk_at "gs"
    refine i_isD (K := K) (.bl _) (show kitB "bool" "bool" = some true by decide +kernel) ?_
    walk_at "gs"
    refine eq_same (.bl _) (.bl _) shaped_bool ?_
    exact k

/-! ### while; three at once -/
theorem i_par3 {i j l : Nat} {tt : TA} {D : Ends} {σ : L2.St} {H : Hp}
    (h : tt σ H fun vs H1 => ∃ u v w, vs = [u, v, w] ∧ D.nx (((σ.set i (some u)).set j (some v)).set l (some w)) H1) : tPar3 i j l tt D σ H := h
theorem i_three {P : V → V → V → Prop} {x y z : V} (h : P x y z) : ∃ u v w, [x, y, z] = [u, v, w] ∧ P u v w := ⟨x, y, z, rfl, h⟩
theorem i_while {c : TT} {tb : TS} {D : Ends} {σ : L2.St} {H : Hp} (W : Nat → L2.St → Hp → Prop) (n : Nat) (h0 : W n σ H)
    (st : ∀ m σ H, W m σ H → c σ H fun b H1 => if b = true then ∃ N : L2.St → Hp → Prop, (∀ σ' H', N σ' H' → ∃ m', m' < m ∧ W m' σ' H') ∧ tb { D with nx := N, ct := N, bk := D.nx } σ H1 else D.nx σ H1) :
    tWhile c tb D σ H := ⟨W, ⟨n, h0⟩, st⟩
theorem i_loop {tb : TS} {D : Ends} {σ : L2.St} {H : Hp} {m : Nat} {W : Nat → L2.St → Hp → Prop}
    (h : tb { D with nx := fun σ' H' => ∃ m', m' < m ∧ W m' σ' H', ct := fun σ' H' => ∃ m', m' < m ∧ W m' σ' H', bk := D.nx } σ H) :
    ∃ N : L2.St → Hp → Prop, (∀ σ' H', N σ' H' → ∃ m', m' < m ∧ W m' σ' H') ∧ tb { D with nx := N, ct := N, bk := D.nx } σ H := ⟨_, fun _ _ h => h, h⟩

/-! ### drawn runs -/
theorem apart_snoc : ∀ {ps : List (Int × Int)} {q : Int × Int}, apart ps → (∀ r, ps.getLast? = some r → r.2 ≠ q.2) → apart (ps ++ [q])
  | [], _, _, _ => trivial
  | [p], q, _, h => ⟨h p rfl, trivial⟩
  | p :: r :: t, q, a, h => ⟨a.1, apart_snoc (ps := r :: t) a.2 fun x hx => h x (by rw [List.getLast?_cons_cons]; exact hx)⟩
theorem wide_snoc (ps : List (Int × Int)) (q : Int × Int) : wide (ps ++ [q]) = wide ps + q.1 := by
  induction ps with
  | nil =>
    show q.1 + 0 = 0 + q.1
    omega
  | cons p ps ih =>
    show p.1 + wide (ps ++ [q]) = p.1 + wide ps + q.1
    rw [ih]
    omega
def okQ (q : Int × Int) : Prop := (1 ≤ q.1 ∧ q.1 ≤ 1000000000000000000) ∧ -1000000000000000000000000000000000000000000000000000000000000 ≤ q.2 ∧ q.2 ≤ 1000000000000000000000000000000000000000000000000000000000010
def okQ1 (q : Int × Int) : Prop := (1 ≤ q.1 ∧ q.1 ≤ 1000000000000000000) ∧ -1000000000000000000000000000000000000000000000000000000000000 ≤ q.2 ∧ q.2 ≤ 1000000000000000000000000000000000000000000000000000000000001
theorem okQ1.q {q : Int × Int} (h : okQ1 q) : okQ q := ⟨h.1, h.2.1, by have := h.2.2; omega⟩
def sp_law_pairs (K : PySem.W.Frag) : Sp := fun vs H Q _ => ∃ (p : Addr) (w : Int), vs = [.ref p, .int w] ∧ PotAt H p ∧ (1 ≤ w ∧ w ≤ 1000000000000000000) ∧
  ∀ l ps H', Fr H l → PotAt H' p → Kp [p] H H' → LD K H' l (ps.map d2) → (∀ q ∈ ps, okQ q) → apart ps → wide ps = w → 1 ≤ ps.length → ps.length ≤ 8 → Q (.ref l) H'
theorem sc_law_pairs : FnScope ["_law_pot_here", "_law_wide", "_law_found", "_law_left", "_law_many", "_law_what"] ["_law_pot_here", "_law_wide"] (defScope s_law_pairs) :=
  ⟨rfl, rfl, rfl, by decide +kernel, rfl, by decide +kernel, by decide +kernel⟩
theorem ok_law_pairs {P : Program} {w : World} {K : PySem.W.Frag} {mg : Str → Option Value} {base : Heap} (T : Txt K mg) :
    FnG P w K mg base 3 T.a_law_pairs T.d_law_pairs ["_law_pot_here", "_law_wide"] (sp_law_pairs K) := by
  refine okD T.F_law_pairs sc_law_pairs (fun vs H Q E h => ?_) (fun cdv A outer s H vs Q E hr h => ?_)
  · first
      | (obtain ⟨_, rfl, _⟩ := h; rfl)
      | (obtain ⟨_, _, rfl, _⟩ := h; rfl)
      | (obtain ⟨_, _, _, rfl, _⟩ := h; rfl)
      | (obtain ⟨_, _, _, _, rfl, _⟩ := h; rfl)
      | (obtain ⟨_, _, _, _, _, rfl, _⟩ := h; rfl)
      | (obtain ⟨_, _, _, _, _, _, rfl, _⟩ := h; rfl)
      | (obtain ⟨_, _, _, _, _, _, _, rfl, _⟩ := h; rfl)
      | (obtain ⟨_, _, _, _, _, _, _, _, rfl, _⟩ := h; rfl)
      | (obtain ⟨_, _, _, _, _, _, _, _, _, rfl, _⟩ := h; rfl)
      | (obtain ⟨_, _, _, _, _, _, _, _, _, _, rfl, _⟩ := h; rfl)
      | (obtain ⟨_, _, _, _, _, _, _, _, _, _, _, rfl, _⟩ := h; rfl)
  · obtain ⟨p, w, rfl, hp, hw, k⟩ := h
    have cl_Memory := T.cl_Memory
    have na_Memory_pairs := T.na_Memory_pairs
    have na_Memory_wide := T.na_Memory_wide
    refine ⟨_, (pss_cons (ps_par (i := 2) (j := 3) (by rfl) sc_law_pairs.nd rfl rfl (by decide) rfl rfl (pa_cons (pe_lst pa_nil) (pa_cons (pv 1) pa_nil)) (by rfl))
      (pss_cons (ps_while (passes_of rfl) (PW.pt (pw_and (pt_cmpR op_gt (pv 3) pe_int (nomark _)) (pw_and1 (pt_cmpR op_lt (pe_callB (k_len (K := K) rfl) (by rfl) T.n_len (by decide +kernel) (pa_cons (pv 2) pa_nil)) pe_int (nomark _))))) (pss_cons (ps_set (i := 4) sc_law_pairs.nd rfl (Or.inl rfl) (pe_op (k_add (K := K) rfl) pe_int (d1 (ok_law_draw T) (hr.mono (by decide)) (by rfl) T.m_law_draw T.F_law_draw.kp T.b_law_draw passL (pa_cons (pv 0) (pa_cons (pe_ix (k_ix (K := K) rfl) (pe_lst (pa_cons (pv 3) (pa_cons (pe_callB (c_min2 rfl) (by rfl) T.n_min (by decide +kernel) (pa_cons (pv 3) (pa_cons pe_int pa_nil))) pa_nil))) (d1 (ok_law_draw T) (hr.mono (by decide)) (by rfl) T.m_law_draw T.F_law_draw.kp T.b_law_draw passL (pa_cons (pv 0) (pa_cons pe_int pa_nil))) (fun _ _ => rfl)) pa_nil)))))
      (pss_cons (ps_set (i := 5) sc_law_pairs.nd rfl (Or.inl rfl) (d1 (ok_law_value T) (hr.mono (by decide)) (by rfl) T.m_law_value T.F_law_value.kp T.b_law_value passL (pa_cons (pv 0) pa_nil)))
      (pss_cons (ps_expr (pe_bm PySem.F.plainAttrs_list PySem.F.slot_list_append PySem.F.type_list_append mt_append (pv 2) (pa_cons (pe_tup (pa_cons (pv 4) (pa_cons (pe_ifExp (PW.pt (pw_and (pt_cmpR (k_ne (K := K) rfl hr.r.units) (pv 2) (pe_lst pa_nil) (nomark _)) (pw_and1 (pt_cmpR (k_eq (K := K) rfl hr.r.units) (pe_ix (k_ix (K := K) rfl) (pe_ix (k_ix (K := K) rfl) (pv 2) (pe_un un_neg pe_int) (fun _ _ => rfl)) pe_int (fun _ _ => rfl)) (pv 5) (nomark _))))) (pe_op (k_add (K := K) rfl) (pv 5) pe_int) (pv 5)) pa_nil))) pa_nil)))
      (pss_one (ps_set (i := 3) sc_law_pairs.nd rfl (Or.inl rfl) (pe_op op_sub (pv 3) (pv 4))))))))
      (pss_cons (ps_if (pt_cmpR op_gt (pv 3) pe_int (nomark _)) (pss_one (ps_expr (pe_bm PySem.F.plainAttrs_list PySem.F.slot_list_append PySem.F.type_list_append mt_append (pv 2) (pa_cons (pe_tup (pa_cons (pv 3) (pa_cons (pe_op (k_add (K := K) rfl) (pe_ix (k_ix (K := K) rfl) (pe_ix (k_ix (K := K) rfl) (pv 2) (pe_un un_neg pe_int) (fun _ _ => rfl)) pe_int (fun _ _ => rfl)) pe_int) pa_nil))) pa_nil)))) pss_nil)
      (pss_one (ps_ret (pv 2)))))), ?_⟩
    dsimp only [cxOf, st_1, st_2, st_3, st_4, st_5, st_6, List.length_cons, List.length_nil, List.replicate_succ, List.replicate_zero, Nat.reduceAdd, Nat.reduceSub]
    walk_at "gs"
    refine i_new fun F fF => ?_
    walk_at "gs"
    have kF : Kp [] H (upd H F (.lst [])) := Kp.new fF
    have hpF := hp.kp kF not_nil
    have nFp : F ≠ p := Ne.symm (hp.ne fF)
    refine i_while (fun m σ H2 => ∃ (y4 y5 : Option V) (left : Int) (ps : List (Int × Int)), m = 7 - ps.length ∧ σ = [some (.ref p), some (.int w), some (.ref F), some (.int left), y4, y5] ∧ PotAt H2 p ∧ Kp [p] H H2 ∧
      LD K H2 F (ps.map d2) ∧ (∀ q ∈ ps, okQ1 q) ∧ apart ps ∧ wide ps + left = w ∧ (0 ≤ left ∧ left ≤ w) ∧ ps.length ≤ 7 ∧ (ps = [] → left = w)) 7 ⟨none, none, w, [], rfl, rfl, hpF, kF.wide, ⟨[], upd_same, .nil⟩, fun _ h => (nomatch h), trivial, by show 0 + w = w; omega, ⟨by omega, by omega⟩, by simp, fun _ => rfl⟩ ?_
    rintro m σ H2 ⟨y4, y5, left, ps, rfl, rfl, hp2, k2, ld, okq, ap, sum, l0, few, emp⟩
    obtain ⟨lv, hlv, hla⟩ := id ld
    have hll := dpa_len hla
    rw [List.length_map] at hll
    walk_at "gs"
    refine i_dec (fun c1 => ?_) (fun c1 => ?_)
    · walk_at "gs"
      refine i_dec (fun c2 => ?_) (fun c2 => ?_)
      · refine i_loop ?_
        walk_at "gs"
        refine i_new fun Z fZ => ?_
        walk_at "gs"
        have kZ : Kp [] H2 (upd H2 Z (.lst [.int left, .int (min left 5)])) := Kp.new fZ
        have nZp : Z ≠ p := Ne.symm (hp2.ne fZ)
        refine use_draw (hp2.kp kZ not_nil) (by decide) (by decide) (fun b H3 b0 b1 hp3 k3 => ?_)
        have hZ3 : H3 Z = some (.lst [.int left, .int (min left 5)]) := k3.at_ _ _ upd_same (not_one nZp)
        obtain ⟨A, a0, a1, hat⟩ : ∃ A : Int, 1 ≤ A ∧ A ≤ left ∧ atI [V.int left, V.int (min left 5)] b = some (.int A) := by
          obtain ⟨b', rfl⟩ := Int.eq_ofNat_of_zero_le b0
          have e : b' = 0 ∨ b' = 1 := by omega
          rcases e with rfl | rfl
          · exact ⟨_, by omega, by omega, rfl⟩
          · exact ⟨_, by omega, by omega, rfl⟩
        walk_at "gs"
        refine use_draw hp3 (by omega) (by omega) (fun r H4 r0 r1 hp4 k4 => ?_)
        walk_at "gs"
        refine use_value hp4 (fun v H5 v0 v1 hp5 k5 => ?_)
        have k25 : Kp [p] H2 H5 := Kp.trans kZ.wide (Kp.trans k3 (Kp.trans k4 k5))
        have ld5 := ld.kp k25 (imms_d2 _) (not_one nFp)
        obtain ⟨lv5, hlv5, hla5⟩ := id ld5
        have hll5 := dpa_len hla5
        rw [List.length_map] at hll5
        walk_at "gs"
        refine i_new fun q fq => ?_
        walk_at "gs"
        refine ne_nil ld5 (imms_d2 _) (shaped_pairs _) fq ?_
        have kq : Kp [] H5 (upd H5 q (.lst [])) := Kp.new fq
        have hp6 := hp5.kp kq not_nil
        walk_at "gs"
        refine i_boN (fun e => ?non) (fun e => ?emp)
        case' emp =>
          obtain ⟨nv, hnv, n0, n1, new⟩ : ∃ nv, nv = v ∧ -1000000000000000000000000000000000000000000000000000000000000 ≤ nv ∧ nv ≤ 1000000000000000000000000000000000000000000000000000000000001 ∧ ∀ x, ps.getLast? = some x → x.2 ≠ nv := ⟨v, rfl, v0, by omega, fun x hx => by
            cases ps with
            | nil => cases hx
            | cons _ _ => cases e⟩
        case' non =>
          obtain ⟨P0, q0, hP⟩ := list_last (l := ps) (by
            intro z
            rw [z] at e
            cases e)
          have hla2 := hla5
          rw [hP, List.map_append] at hla2
          obtain ⟨us, x1, rfl, hus, hx1⟩ := dpa_last hla2
          obtain ⟨t0, rfl, ht0⟩ := dp_pair hx1
          walk_at "gs"
          refine i_dec (fun e2 => ?same) (fun e2 => ?other)
          case' same =>
            obtain ⟨nv, hnv, n0, n1, new⟩ : ∃ nv, nv = v + 1 ∧ -1000000000000000000000000000000000000000000000000000000000000 ≤ nv ∧ nv ≤ 1000000000000000000000000000000000000000000000000000000000001 ∧ ∀ x, ps.getLast? = some x → x.2 ≠ nv := ⟨v + 1, rfl, by omega, by omega, fun x hx => by
              rw [hP, List.getLast?_concat] at hx
              cases hx
              omega⟩
          case' other =>
            obtain ⟨nv, hnv, n0, n1, new⟩ : ∃ nv, nv = v ∧ -1000000000000000000000000000000000000000000000000000000000000 ≤ nv ∧ nv ≤ 1000000000000000000000000000000000000000000000000000000000001 ∧ ∀ x, ps.getLast? = some x → x.2 ≠ nv := ⟨v, rfl, v0, by omega, fun x hx => by
              rw [hP, List.getLast?_concat] at hx
              cases hx
              exact e2⟩
        all_goals
          obtain ⟨zs, hz5, ha5⟩ : ∃ zs, H5 F = some (.lst zs) ∧ DpAll K H5 zs (ps.map d2) := ⟨_, hlv5, hla5⟩
          have hzl := dpa_len ha5
          rw [List.length_map] at hzl
          clear hlv5
          walk_at "gs"
          rw [← hnv]
          refine i_new fun t ft => ?_
          walk_at "gs"
          have nFt : F ≠ t := fr_ne (kq.at_ _ _ hz5 not_nil) ft
          obtain ⟨H7, hH7⟩ : ∃ H7, H7 = upd (upd (upd H5 q (.lst [])) t (.tup [.int (1 + r), .int nv])) F (.lst (zs ++ [.ref t])) := ⟨_, rfl⟩
          have kt : Kp [] H5 (upd (upd H5 q (.lst [])) t (.tup [.int (1 + r), .int nv])) := Kp.trans kq (Kp.new ft)
          have k57 : Kp [F] H5 H7 := by
            rw [hH7]
            exact Kp.trans kt.wide (Kp.mut (kt.at_ _ _ hz5 not_nil) (fun z => z) List.mem_cons_self)
          have hF7 : H7 F = some (.lst (zs ++ [.ref t])) := by
            rw [hH7]
            exact upd_same
          have ht7 : SqT K H7 t [.int (1 + r), .int nv] := by
            rw [hH7]
            exact (Kp.mut (ws := [F]) (kt.at_ _ _ hz5 not_nil) (fun z => z) List.mem_cons_self).seqT (SqT.of upd_same)
          rw [← hH7]
          refine ⟨7 - (ps.length + 1), by omega, _, _, left - (1 + r), ps ++ [(1 + r, nv)], by rw [List.length_append, List.length_singleton], rfl, hp5.kp k57 (not_one (Ne.symm nFp)), ?_, ?_, ?_, ?_, ?_, ⟨by omega, by omega⟩, ?_, ?_⟩
          · refine Kp.drop (p := F) ?_ fF
            exact Kp.trans ((Kp.trans k2 k25).mono fun b hb => List.mem_cons_of_mem _ hb) (k57.mono fun b hb => by rw [List.mem_singleton.mp hb]; exact List.mem_cons_self)
          · rw [List.map_append]
            exact ⟨_, hF7, dpa_app (dpa_imm k57 _ _ (imms_d2 _) ha5) (dpa_one (dp_mk2 (a := t) (m := 1 + r) (n := nv) ht7))⟩
          · intro x hx
            rcases List.mem_append.mp hx with hx | hx
            · exact okq x hx
            · rw [List.mem_singleton.mp hx]
              exact ⟨⟨by show 1 ≤ 1 + r; omega, by show 1 + r ≤ 1000000000000000000; omega⟩, n0, by show nv ≤ _; omega⟩
          · exact apart_snoc ap new
          · rw [wide_snoc]
            show wide ps + (1 + r) + (left - (1 + r)) = w
            omega
          · rw [List.length_append, List.length_singleton]
            omega
          · intro z
            cases ps <;> cases z
      · walk_at "gs"
        refine i_dec (fun _ => ?_) (fun z => absurd c1 z)
        walk_at "gs"
        obtain ⟨P0, q0, hP⟩ := list_last (l := ps) (by
          intro z
          rw [z, List.length_nil] at hll
          omega)
        have hla2 := hla
        rw [hP, List.map_append] at hla2
        obtain ⟨us, x1, rfl, hus, hx1⟩ := dpa_last hla2
        obtain ⟨t0, rfl, ht0⟩ := dp_pair hx1
        have okl := okq q0 (by rw [hP]; exact List.mem_append_right _ (List.mem_singleton.mpr rfl))
        walk_at "gs"
        refine i_new fun t ft => ?_
        walk_at "gs"
        refine i_app ((Kp.new ft (ws := [])).at_ _ _ hlv not_nil) (small_sz (by omega)) ?_
        walk_at "gs"
        have kt : Kp [] H2 (upd H2 t (.tup [.int left, .int (q0.2 + 1)])) := Kp.new ft
        obtain ⟨H7, hH7⟩ : ∃ H7, H7 = upd (upd H2 t (.tup [.int left, .int (q0.2 + 1)])) F (.lst (us ++ [V.ref t0] ++ [.ref t])) := ⟨_, rfl⟩
        have k27 : Kp [F] H2 H7 := by
          rw [hH7]
          exact Kp.trans kt.wide (Kp.mut (kt.at_ _ _ hlv not_nil) (fun z => z) List.mem_cons_self)
        have hF7 : H7 F = some (.lst (us ++ [V.ref t0] ++ [.ref t])) := by
          rw [hH7]
          exact upd_same
        have ht7 : SqT K H7 t [.int left, .int (q0.2 + 1)] := by
          rw [hH7]
          exact (Kp.mut (ws := [F]) (kt.at_ _ _ hlv not_nil) (fun z => z) List.mem_cons_self).seqT (SqT.of upd_same)
        rw [← hH7]
        refine k F (ps ++ [(left, q0.2 + 1)]) H7 fF (hp2.kp k27 (not_one (Ne.symm nFp))) ?_ ?_ ?_ ?_ ?_ ?_ ?_
        · refine Kp.drop (p := F) ?_ fF
          exact Kp.trans (k2.mono fun b hb => List.mem_cons_of_mem _ hb) (k27.mono fun b hb => by rw [List.mem_singleton.mp hb]; exact List.mem_cons_self)
        · rw [List.map_append]
          exact ⟨_, hF7, dpa_app (dpa_imm k27 _ _ (imms_d2 _) hla) (dpa_one (dp_mk2 (a := t) (m := left) (n := q0.2 + 1) ht7))⟩
        · intro x hx
          rcases List.mem_append.mp hx with hx | hx
          · exact (okq x hx).q
          · rw [List.mem_singleton.mp hx]
            obtain ⟨_, o1, o2⟩ := okl
            exact ⟨⟨by show 1 ≤ left; omega, by show left ≤ 1000000000000000000; omega⟩, by show _ ≤ q0.2 + 1; omega, by show q0.2 + 1 ≤ _; omega⟩
        · refine apart_snoc ap fun x hx => ?_
          rw [hP, List.getLast?_concat] at hx
          cases hx
          show q0.2 ≠ q0.2 + 1
          omega
        · rw [wide_snoc]
          exact sum
        · rw [List.length_append, List.length_singleton]
          omega
        · rw [List.length_append, List.length_singleton]
          omega
    · refine iteF ?_
      walk_at "gs"
      refine i_dec (fun z => absurd z c1) (fun _ => ?_)
      walk_at "gs"
      have e0 : left = 0 := by omega
      have ne : ps ≠ [] := fun z => by
        have := emp z
        omega
      refine k F ps H2 fF hp2 k2 ld (fun x hx => (okq x hx).q) ap (by omega) ?_ (by omega)
      cases ps with
      | nil => exact absurd rfl ne
      | cons _ _ => simp

/-- small data -/
def Fine (d : PyData) : Prop := shw d = true ∧ d.depth ≤ 4 ∧ cw d ≤ 20000
section
variable {K : PySem.W.Frag} {H : Hp} {ws us : List Addr}
mutual
theorem Dx.narrow (hu : ∀ b ∈ us, b ∈ ws) : ∀ (d : PyData) (v : V), Dx K H ws v d → Dx K H us v d
  | .none, _, h => by cases h; exact .non
  | .bool b, _, h => by cases h; exact .bl b
  | .int i, _, h => by cases h; exact .int i
  | .str x, _, h => by cases h; exact .str x
  | .list ds, _, h => by
    cases h with
    | lst n hs ha => exact .lst (fun z => n (hu _ z)) hs (DxAll.narrow hu ds _ ha)
  | .tuple ds, _, h => by
    cases h with
    | tup hs ha => exact .tup hs (DxAll.narrow hu ds _ ha)
  | .dict _, _, h => by cases h
theorem DxAll.narrow (hu : ∀ b ∈ us, b ∈ ws) : ∀ (ds : List PyData) (vs : List V), DxAll K H ws vs ds → DxAll K H us vs ds
  | [], _, h => by cases h; exact .nil
  | d :: ds, _, h => by
    cases h with
    | cons h1 h2 => exact .cons (Dx.narrow hu d _ h1) (DxAll.narrow hu ds _ h2)
end
end
theorem one_two {a b : Addr} : ∀ x ∈ [a], x ∈ [a, b] := fun x h => by rw [List.mem_singleton.mp h]; exact List.mem_cons_self
theorem one_three {a b c : Addr} : ∀ x ∈ [a], x ∈ [a, b, c] := fun x h => by rw [List.mem_singleton.mp h]; exact List.mem_cons_self
theorem mid_three {a b c : Addr} : ∀ x ∈ [b], x ∈ [a, b, c] := fun x h => by rw [List.mem_singleton.mp h]; exact List.mem_cons_of_mem _ List.mem_cons_self
theorem out_three {a b c : Addr} : ∀ x ∈ [a, c], x ∈ [a, b, c] := fun x h => by
  simp only [List.mem_cons, List.not_mem_nil, or_false] at h ⊢
  rcases h with h | h <;> simp [h]
theorem not_three {a b c d : Addr} (h1 : d ≠ a) (h2 : d ≠ b) (h3 : d ≠ c) : d ∉ [a, b, c] := fun h => by
  simp only [List.mem_cons, List.not_mem_nil, or_false] at h
  rcases h with h | h | h
  · exact h1 h
  · exact h2 h
  · exact h3 h
theorem two_two {a b : Addr} : ∀ x ∈ [b], x ∈ [a, b] := fun x h => by rw [List.mem_singleton.mp h]; exact List.mem_cons_of_mem _ List.mem_cons_self
theorem fine_ints {xs : List Int} (h : ∀ x ∈ xs, bnd x) (hn : xs.length ≤ 6) : shws (xs.map PyData.int) = true ∧ PyData.depthAll (xs.map PyData.int) ≤ 0 ∧ cws (xs.map PyData.int) ≤ 1932 * xs.length := by
  induction xs with
  | nil => exact ⟨rfl, Nat.le_refl _, Nat.le_refl _⟩
  | cons x xs ih =>
    obtain ⟨a, b, c⟩ := ih (fun y hy => h y (List.mem_cons_of_mem _ hy)) (by rw [List.length_cons] at hn; omega)
    have z : shw (.int x) = true := decide_eq_true (bnd_ok (h x List.mem_cons_self) (by omega) (by omega))
    refine ⟨?_, ?_, ?_⟩
    · simp only [List.map_cons, shws, z, a, Bool.and_self]
    · simp only [List.map_cons, PyData.depthAll, PyData.depth]
      omega
    · simp only [List.map_cons, cws, cw, List.length_cons]
      omega
theorem dx_ints {K : PySem.W.Frag} {H : Hp} {ws : List Addr} : ∀ xs : List Int, DxAll K H ws (xs.map V.int) (xs.map PyData.int)
  | [] => .nil
  | x :: xs => .cons (.int x) (dx_ints xs)
theorem fines {es : List PyData} (h : ∀ e ∈ es, Fine e) : shws es = true ∧ PyData.depthAll es ≤ 4 ∧ cws es ≤ 20002 * es.length := by
  induction es with
  | nil => exact ⟨rfl, Nat.zero_le _, Nat.le_refl _⟩
  | cons e es ih =>
    obtain ⟨a, b, c⟩ := ih fun x hx => h x (List.mem_cons_of_mem _ hx)
    obtain ⟨f1, f2, f3⟩ := h e List.mem_cons_self
    refine ⟨?_, ?_, ?_⟩
    · simp only [shws, f1, a, Bool.and_self]
    · simp only [PyData.depthAll]
      omega
    · simp only [cws, List.length_cons]
      omega
theorem okay_list {es : List PyData} (h : ∀ e ∈ es, Fine e) (hn : es.length ≤ 8) : Okay (.list es) ∧ Okay (.tuple es) := by
  obtain ⟨a, b, c⟩ := fines h
  refine ⟨.inr ⟨?_, ?_, ?_⟩, .inr ⟨?_, ?_, ?_⟩⟩
  · simp only [shw]; exact a
  · simp only [PyData.depth]; omega
  · simp only [cw]; omega
  · simp only [shw]; exact a
  · simp only [PyData.depth]; omega
  · simp only [cw]; omega

/-! ### a pair put otherwise -/
def Bd (d : PyData) : Prop := ∀ a b, d = .tuple [a, b] → (∀ n, a = .int n → n ≤ 1000000000000000000000000000000000000000000000000000000000000) ∧
  (∀ n, b = .int n → -10000000000000000000000000000000000000000000000000000000000000 ≤ n ∧ n ≤ 10000000000000000000000000000000000000000000000000000000000000)
theorem bd_int {n : Int} : Bd (.int n) := fun _ _ z => nomatch z
def sp_law_odd_pair (K : PySem.W.Frag) : Sp := fun vs H Q _ => ∃ (p s G : Addr) (uG : HO) (q : Int × Int) (x : Int), vs = [.ref p, .ref s, .int x] ∧ PotAt H p ∧ H G = some uG ∧ SqT K H s [.int q.1, .int q.2] ∧ okQ q ∧
  (-1000000000000000000000000000000000000000000000000000000000000 ≤ x ∧ x ≤ 1000000000000000000000000000000000000000000000000000000000010) ∧
  ∀ v d H', PotAt H' p → Kp [p] H H' → Dx K H' [p, G] v d → Fine d → Bd d → Q v H'
theorem sc_law_odd_pair : FnScope ["_law_pot_here", "_law_pair", "_law_ahead", "_law_way"] ["_law_pot_here", "_law_pair", "_law_ahead"] (defScope s_law_odd_pair) :=
  ⟨rfl, rfl, rfl, by decide +kernel, rfl, by decide +kernel, by decide +kernel⟩
theorem ok_law_odd_pair {P : Program} {w : World} {K : PySem.W.Frag} {mg : Str → Option Value} {base : Heap} (T : Txt K mg) :
    FnG P w K mg base 2 T.a_law_odd_pair T.d_law_odd_pair ["_law_pot_here", "_law_pair", "_law_ahead"] (sp_law_odd_pair K) := by
  refine okD T.F_law_odd_pair sc_law_odd_pair (fun vs H Q E h => ?_) (fun cdv A outer s H vs Q E hr h => ?_)
  · first
      | (obtain ⟨_, rfl, _⟩ := h; rfl)
      | (obtain ⟨_, _, rfl, _⟩ := h; rfl)
      | (obtain ⟨_, _, _, rfl, _⟩ := h; rfl)
      | (obtain ⟨_, _, _, _, rfl, _⟩ := h; rfl)
      | (obtain ⟨_, _, _, _, _, rfl, _⟩ := h; rfl)
      | (obtain ⟨_, _, _, _, _, _, rfl, _⟩ := h; rfl)
      | (obtain ⟨_, _, _, _, _, _, _, rfl, _⟩ := h; rfl)
      | (obtain ⟨_, _, _, _, _, _, _, _, rfl, _⟩ := h; rfl)
      | (obtain ⟨_, _, _, _, _, _, _, _, _, rfl, _⟩ := h; rfl)
      | (obtain ⟨_, _, _, _, _, _, _, _, _, _, rfl, _⟩ := h; rfl)
      | (obtain ⟨_, _, _, _, _, _, _, _, _, _, _, rfl, _⟩ := h; rfl)
  · obtain ⟨p, s, G, uG, q, x, rfl, hp, hG, hs, okq, okx, k⟩ := h
    obtain ⟨⟨q0, q1⟩, q2, q3⟩ := id okq
    have num : ∀ {j : Int}, -100000000000000000000000000000000000000000000000000000000000000000000000 ≤ j → j ≤ 100000000000000000000000000000000000000000000000000000000000000000000000 → shw (.int j) = true := fun a b => shw_int (okI_of a b)
    -- a pair of two small things
    have pair : ∀ (H5 : Hp) (u v : V) (a b : PyData), PotAt H5 p → Kp [p] H H5 → Dx K H5 [p, G] u a → Dx K H5 [p, G] v b → shw a = true → a.depth ≤ 1 → cw a ≤ 4000 → shw b = true → b.depth ≤ 1 → cw b ≤ 4000 →
        (∀ n, a = .int n → n ≤ 1000000000000000000000000000000000000000000000000000000000000) → (∀ n, b = .int n → -10000000000000000000000000000000000000000000000000000000000000 ≤ n ∧ n ≤ 10000000000000000000000000000000000000000000000000000000000000) →
        New H5 fun t => Q (.ref t) (upd H5 t (.tup [u, v])) := by
      intro H5 u v a b h5 k5 du dv a1 a2 a3 b1 b2 b3 ba bb
      refine i_new fun t ft => ?_
      have kt : Kp [] H5 (upd H5 t (.tup [u, v])) := Kp.new ft
      refine k (.ref t) (.tuple [a, b]) _ (h5.kp kt not_nil) (Kp.trans k5 kt.wide) (.tup (SqT.of upd_same) (.cons (du.kp kt.wide _ _) (.cons (dv.kp kt.wide _ _) .nil))) ⟨?_, ?_, ?_⟩ (fun a' b' z => by cases z; exact ⟨ba, bb⟩)
      · simp only [shw, shws, a1, b1, Bool.and_self]
      · simp only [PyData.depth, PyData.depthAll]
        omega
      · simp only [cw, cws]
        omega
    have iC : ∀ j : Int, (PyData.int j).depth ≤ 1 ∧ cw (.int j) ≤ 4000 := fun j => ⟨by simp only [PyData.depth]; omega, by simp only [cw]; omega⟩
    refine ⟨_, (pss_cons (ps_set (i := 3) sc_law_odd_pair.nd rfl (Or.inl rfl) (d1 (ok_law_draw T) (hr.mono (by decide)) (by rfl) T.m_law_draw T.F_law_draw.kp T.b_law_draw passL (pa_cons (pv 0) (pa_cons pe_int pa_nil))))
      (pss_cons (ps_if (pt_cmpR op_lt (pv 3) pe_int (nomark _)) (pss_one (ps_ret (pe_tup (pa_cons (pe_ix (k_ix (K := K) rfl) (pe_lst (pa_cons pe_int (pa_cons (pe_un un_neg pe_int) (pa_cons pe_bl (pa_cons pe_non (pa_cons pe_str (pa_cons (pe_op (k_add (K := K) rfl) (pe_ix (k_ix (K := K) rfl) (pv 1) pe_int (fun _ _ => rfl)) pe_int) (pa_cons (pe_op op_sub (pe_ix (k_ix (K := K) rfl) (pv 1) pe_int (fun _ _ => rfl)) pe_int) pa_nil)))))))) (d1 (ok_law_draw T) (hr.mono (by decide)) (by rfl) T.m_law_draw T.F_law_draw.kp T.b_law_draw passL (pa_cons (pv 0) (pa_cons pe_int pa_nil))) (fun _ _ => rfl)) (pa_cons (pe_ix (k_ix (K := K) rfl) (pv 1) pe_int (fun _ _ => rfl)) pa_nil))))) pss_nil)
      (pss_cons (ps_if (pt_cmpR op_lt (pv 3) pe_int (nomark _)) (pss_one (ps_ret (pe_tup (pa_cons (pe_ix (k_ix (K := K) rfl) (pv 1) pe_int (fun _ _ => rfl)) (pa_cons (pe_ix (k_ix (K := K) rfl) (pe_lst (pa_cons (pv 2) (pa_cons pe_bl (pa_cons pe_non (pa_cons pe_str (pa_cons (pe_lst pa_nil) (pa_cons (pe_tup (pa_cons pe_int pa_nil)) pa_nil))))))) (d1 (ok_law_draw T) (hr.mono (by decide)) (by rfl) T.m_law_draw T.F_law_draw.kp T.b_law_draw passL (pa_cons (pv 0) (pa_cons pe_int pa_nil))) (fun _ _ => rfl)) pa_nil))))) pss_nil)
      (pss_one (ps_ret (pe_ix (k_ix (K := K) rfl) (pe_lst (pa_cons (pe_slice (k_slT (K := K) rfl) (pv 1) po_none (po_some pe_int)) (pa_cons (pe_op (k_add (K := K) rfl) (pv 1) (pe_tup (pa_cons pe_int pa_nil))) (pa_cons (pe_callTy (k_list (K := K) rfl) (by rfl) T.n_list (by decide +kernel) (pa_cons (pv 1) pa_nil)) (pa_cons pe_non (pa_cons (pe_ix (k_ix (K := K) rfl) (pv 1) pe_int (fun _ _ => rfl)) (pa_cons (pe_tup pa_nil) pa_nil))))))) (d1 (ok_law_draw T) (hr.mono (by decide)) (by rfl) T.m_law_draw T.F_law_draw.kp T.b_law_draw passL (pa_cons (pv 0) (pa_cons pe_int pa_nil))) (fun _ _ => rfl))))))), ?_⟩
    dsimp only [cxOf, st_1, st_2, st_3, st_4, st_5, st_6, List.length_cons, List.length_nil, List.replicate_succ, List.replicate_zero, Nat.reduceAdd, Nat.reduceSub]
    walk_at "gs"
    refine use_draw hp (by decide) (by decide) (fun w H1 w0 w1 hp1 k1 => ?_)
    have hs1 := k1.seqT hs
    walk_at "gs"
    refine i_dec (fun c0 => ?_) (fun c0 => ?_)
    · walk_at "gs"
      refine i_new fun M fM => ?_
      walk_at "gs"
      have kM : Kp [] H1 (upd H1 M (.lst [V.int 0, V.int (-1), V.bl true, V.non, V.str (Str.ofString "2"), V.int (q.1 + 1), V.int (q.1 - 1)])) := Kp.new fM
      have nMp : M ≠ p := Ne.symm (hp1.ne fM)
      refine use_draw (hp1.kp kM not_nil) (by decide) (by decide) (fun m H2 m0 m1 hp2 k2 => ?_)
      have hM2 : H2 M = some (.lst [V.int 0, V.int (-1), V.bl true, V.non, V.str (Str.ofString "2"), V.int (q.1 + 1), V.int (q.1 - 1)]) := k2.at_ _ _ upd_same (not_one nMp)
      have k02 : Kp [p] H H2 := Kp.trans k1 (Kp.trans kM.wide k2)
      have hs2 := k02.seqT hs
      obtain ⟨y, d, hat, dx, d1, d2', d3, bb⟩ : ∃ y d, atI [V.int 0, V.int (-1), V.bl true, V.non, V.str (Str.ofString "2"), V.int (q.1 + 1), V.int (q.1 - 1)] m = some y ∧ Dx K H2 [p, G] y d ∧ shw d = true ∧ d.depth ≤ 1 ∧ cw d ≤ 4000 ∧
          ∀ n, d = .int n → n ≤ 1000000000000000000000000000000000000000000000000000000000000 := by
        obtain ⟨m', rfl⟩ := Int.eq_ofNat_of_zero_le m0
        have e : m' = 0 ∨ m' = 1 ∨ m' = 2 ∨ m' = 3 ∨ m' = 4 ∨ m' = 5 ∨ m' = 6 := by omega
        rcases e with rfl | rfl | rfl | rfl | rfl | rfl | rfl
        · exact ⟨_, _, rfl, .int _, num (by omega) (by omega), (iC _).1, (iC _).2, fun n z => by cases z; omega⟩
        · exact ⟨_, _, rfl, .int _, num (by omega) (by omega), (iC _).1, (iC _).2, fun n z => by cases z; omega⟩
        · exact ⟨_, _, rfl, .bl _, rfl, by simp only [PyData.depth]; omega, by simp only [cw]; omega, fun n z => nomatch z⟩
        · exact ⟨_, _, rfl, .non, rfl, by simp only [PyData.depth]; omega, by simp only [cw]; omega, fun n z => nomatch z⟩
        · exact ⟨_, _, rfl, .str _, by decide +kernel, by simp only [PyData.depth]; omega, by simp only [cw]; decide +kernel, fun n z => nomatch z⟩
        · exact ⟨_, _, rfl, .int _, num (by omega) (by omega), (iC _).1, (iC _).2, fun n z => by cases z; omega⟩
        · exact ⟨_, _, rfl, .int _, num (by omega) (by omega), (iC _).1, (iC _).2, fun n z => by cases z; omega⟩
      walk_at "gs"
      exact pair H2 y (.int q.2) d (.int q.2) hp2 k02 dx (.int _) d1 d2' d3 (num (by omega) (by omega)) (iC _).1 (iC _).2 bb (fun n z => by cases z; omega)
    · walk_at "gs"
      refine i_dec (fun c1 => ?_) (fun c1 => ?_)
      · walk_at "gs"
        refine i_new fun E1 f1 => ?_
        walk_at "gs"
        refine i_new fun E2 f2 => ?_
        walk_at "gs"
        refine i_new fun M fM => ?_
        walk_at "gs"
        obtain ⟨HV, hHV⟩ : ∃ HV, HV = upd (upd (upd H1 E1 (.lst [])) E2 (.tup [V.int 0])) M (.lst [V.int x, V.bl true, V.non, V.str (Str.ofString "0"), V.ref E1, V.ref E2]) := ⟨_, rfl⟩
        have kV : Kp [] H1 HV := by
          rw [hHV]
          walk_at "g_kp"
        have g1 : HV E1 = some (.lst []) := by
          rw [hHV]
          walk_at "g_hp"
        have g2 : SqT K HV E2 [V.int 0] := by
          rw [hHV]
          walk_at "g_st"
        have gM : HV M = some (.lst [V.int x, V.bl true, V.non, V.str (Str.ofString "0"), V.ref E1, V.ref E2]) := by
          rw [hHV]
          exact upd_same
        have n1p : E1 ≠ p := Ne.symm (hp1.ne (show Fr H1 E1 by walk_at "g_fr"))
        have nMp : M ≠ p := Ne.symm (hp1.ne (show Fr H1 M by walk_at "g_fr"))
        have n1G : E1 ≠ G := Ne.symm (fr_ne hG (k1.free (show Fr H1 E1 by walk_at "g_fr")))
        rw [← hHV]
        refine use_draw (hp1.kp kV not_nil) (by decide) (by decide) (fun m H2 m0 m1 hp2 k2 => ?_)
        have r1 := k2.at_ _ _ g1 (not_one n1p)
        have r2 := k2.seqT g2
        have rM := k2.at_ _ _ gM (not_one nMp)
        have k02 : Kp [p] H H2 := Kp.trans k1 (Kp.trans kV.wide k2)
        have hs2 := k02.seqT hs
        obtain ⟨y, d, hat, dx, d1, d2', d3, bb⟩ : ∃ y d, atI [V.int x, V.bl true, V.non, V.str (Str.ofString "0"), V.ref E1, V.ref E2] m = some y ∧ Dx K H2 [p, G] y d ∧ shw d = true ∧ d.depth ≤ 1 ∧ cw d ≤ 4000 ∧
            ∀ n, d = .int n → -10000000000000000000000000000000000000000000000000000000000000 ≤ n ∧ n ≤ 10000000000000000000000000000000000000000000000000000000000000 := by
          obtain ⟨m', rfl⟩ := Int.eq_ofNat_of_zero_le m0
          have e : m' = 0 ∨ m' = 1 ∨ m' = 2 ∨ m' = 3 ∨ m' = 4 ∨ m' = 5 := by omega
          rcases e with rfl | rfl | rfl | rfl | rfl | rfl
          · exact ⟨_, _, rfl, .int _, num (by omega) (by omega), (iC _).1, (iC _).2, fun n z => by cases z; omega⟩
          · exact ⟨_, _, rfl, .bl _, rfl, by simp only [PyData.depth]; omega, by simp only [cw]; omega, fun n z => nomatch z⟩
          · exact ⟨_, _, rfl, .non, rfl, by simp only [PyData.depth]; omega, by simp only [cw]; omega, fun n z => nomatch z⟩
          · exact ⟨_, _, rfl, .str _, by decide +kernel, by simp only [PyData.depth]; omega, by simp only [cw]; decide +kernel, fun n z => nomatch z⟩
          · exact ⟨_, _, rfl, .lst (not_two n1p n1G) r1 .nil, rfl, by simp only [PyData.depth, PyData.depthAll]; omega, by simp only [cw, cws]; omega, fun n z => nomatch z⟩
          · exact ⟨_, .tuple [.int 0], rfl, .tup r2 (.cons (.int _) .nil), by decide +kernel, by simp only [PyData.depth, PyData.depthAll]; omega, by simp only [cw, cws]; omega, fun n z => nomatch z⟩
        walk_at "gs"
        exact pair H2 (.int q.1) y (.int q.1) d hp2 k02 (.int _) dx (num (by omega) (by omega)) (iC _).1 (iC _).2 d1 d2' d3 (fun n z => by cases z; omega) bb
      · walk_at "gs"
        refine ⟨s, _, rfl, hs1, fun z => absurd (show (1 : Nat) = 2 from z.2) (by decide), ?_⟩
        refine i_new fun V1 f1 => ?_
        walk_at "gs"
        refine i_new fun V2 f2 => ?_
        walk_at "gs"
        have hV2 : SqT K (upd (upd H1 V1 (.tup (cutV [V.int q.1, V.int q.2] none (some 1)))) V2 (.tup [.int 0])) V2 [.int 0] := SqT.of upd_same
        have hsV : SqT K (upd (upd H1 V1 (.tup (cutV [V.int q.1, V.int q.2] none (some 1)))) V2 (.tup [.int 0])) s [.int q.1, .int q.2] := by walk_at "g_st"
        refine .inr (.inr (.inr ⟨s, V2, _, _, rfl, rfl, hsV, hV2, (by simp), (show 3 ≤ sizeLine by decide), (fun z => nomatch z), fun _ => ?_⟩))
        refine i_new fun V3 f3 => ?_
        walk_at "gs"
        refine i_new fun V4 f4 => ?_
        walk_at "gs"
        refine i_new fun V5 f5 => ?_
        walk_at "gs"
        refine i_new fun M fM => ?_
        walk_at "gs"
        obtain ⟨HV, hHV⟩ : ∃ HV, HV = upd (upd (upd (upd (upd (upd H1 V1 (.tup (cutV [V.int q.1, V.int q.2] none (some 1)))) V2 (.tup [.int 0])) V3 (.tup ([V.int q.1, V.int q.2] ++ [V.int 0]))) V4 (.lst [V.int q.1, V.int q.2])) V5 (.tup [])) M
          (.lst [V.ref V1, V.ref V3, V.ref V4, V.non, V.int q.1, V.ref V5]) := ⟨_, rfl⟩
        have kV : Kp [] H1 HV := by
          rw [hHV]
          walk_at "g_kp"
        have g1 : SqT K HV V1 ([q.1].map V.int) := by
          rw [hHV]
          show SqT K _ V1 (cutV [V.int q.1, V.int q.2] none (some 1))
          walk_at "g_st"
        have g3 : SqT K HV V3 ([q.1, q.2, 0].map V.int) := by
          rw [hHV]
          show SqT K _ V3 ([V.int q.1, V.int q.2] ++ [V.int 0])
          walk_at "g_st"
        have g4 : HV V4 = some (.lst ([q.1, q.2].map V.int)) := by
          rw [hHV]
          show _ = some (HO.lst [V.int q.1, V.int q.2])
          walk_at "g_hp"
        have g5 : SqT K HV V5 [] := by
          rw [hHV]
          walk_at "g_st"
        have gM : HV M = some (.lst [V.ref V1, V.ref V3, V.ref V4, V.non, V.int q.1, V.ref V5]) := by
          rw [hHV]
          exact upd_same
        have n4p : V4 ≠ p := Ne.symm (hp1.ne (show Fr H1 V4 by walk_at "g_fr"))
        have nMp : M ≠ p := Ne.symm (hp1.ne (show Fr H1 M by walk_at "g_fr"))
        have n4G : V4 ≠ G := Ne.symm (fr_ne hG (k1.free (show Fr H1 V4 by walk_at "g_fr")))
        rw [← hHV]
        refine use_draw (hp1.kp kV not_nil) (by decide) (by decide) (fun m H2 m0 m1 hp2 k2 => ?_)
        have r1 := k2.seqT g1
        have r3 := k2.seqT g3
        have r4 := k2.at_ _ _ g4 (not_one n4p)
        have r5 := k2.seqT g5
        have rM := k2.at_ _ _ gM (not_one nMp)
        have k02 : Kp [p] H H2 := Kp.trans k1 (Kp.trans kV.wide k2)
        have b1 : bnd q.1 := by unfold bnd; omega
        have b2 : bnd q.2 := by unfold bnd; omega
        have z0 : bnd 0 := by unfold bnd; omega
        have all3 : ∀ x ∈ [q.1, q.2, 0], bnd x := by
          intro x hx
          simp only [List.mem_cons, List.not_mem_nil, or_false] at hx
          rcases hx with rfl | rfl | rfl <;> assumption
        have all2 : ∀ x ∈ [q.1, q.2], bnd x := fun x hx => all3 x (by
          simp only [List.mem_cons, List.not_mem_nil, or_false] at hx ⊢
          rcases hx with h | h <;> simp [h])
        have all1 : ∀ x ∈ [q.1], bnd x := fun x hx => by
          rw [List.mem_singleton.mp hx]
          exact b1
        obtain ⟨y, dy, hat, hDy, fy, by_⟩ : ∃ y dy, atI [V.ref V1, V.ref V3, V.ref V4, V.non, V.int q.1, V.ref V5] m = some y ∧ Dx K H2 [p, G] y dy ∧ Fine dy ∧ Bd dy := by
          obtain ⟨m', rfl⟩ := Int.eq_ofNat_of_zero_le m0
          have e : m' = 0 ∨ m' = 1 ∨ m' = 2 ∨ m' = 3 ∨ m' = 4 ∨ m' = 5 := by omega
          have F : ∀ {xs : List Int}, (∀ x ∈ xs, bnd x) → xs.length ≤ 6 → Fine (.tuple (xs.map PyData.int)) ∧ Fine (.list (xs.map PyData.int)) := fun {xs} h n => by
            obtain ⟨f1, f2, f3⟩ := fine_ints h n
            refine ⟨⟨?_, ?_, ?_⟩, ⟨?_, ?_, ?_⟩⟩
            · simp only [shw]; exact f1
            · simp only [PyData.depth]; omega
            · simp only [cw]; omega
            · simp only [shw]; exact f1
            · simp only [PyData.depth]; omega
            · simp only [cw]; omega
          rcases e with rfl | rfl | rfl | rfl | rfl | rfl
          · exact ⟨_, .tuple ([q.1].map PyData.int), rfl, .tup r1 (dx_ints _), (F all1 (by simp)).1, fun _ _ z => nomatch z⟩
          · exact ⟨_, .tuple ([q.1, q.2, 0].map PyData.int), rfl, .tup r3 (dx_ints _), (F all3 (by simp)).1, fun _ _ z => nomatch z⟩
          · exact ⟨_, .list ([q.1, q.2].map PyData.int), rfl, .lst (not_two n4p n4G) r4 (dx_ints _), (F all2 (by simp)).2, fun _ _ z => nomatch z⟩
          · exact ⟨_, _, rfl, .non, ⟨rfl, by simp only [PyData.depth]; omega, by simp only [cw]; omega⟩, fun _ _ z => nomatch z⟩
          · exact ⟨_, _, rfl, .int _, ⟨num (by omega) (by omega), by simp only [PyData.depth]; omega, by simp only [cw]; omega⟩, bd_int⟩
          · exact ⟨_, .tuple [], rfl, .tup r5 .nil, ⟨rfl, by simp only [PyData.depth, PyData.depthAll]; omega, by simp only [cw, cws]; omega⟩, fun _ _ z => nomatch z⟩
        walk_at "gs"
        exact k y dy H2 hp2 k02 hDy fy by_

/-! ### runs put otherwise -/
def BdL (d : PyData) : Prop := ∀ ds, d = .list ds → ∀ e ∈ ds, Bd e
theorem fine_d2 {q : Int × Int} (h : okQ q) : Fine (d2 q) := by
  obtain ⟨⟨a, b⟩, c, d⟩ := h
  obtain ⟨f1, f2, f3⟩ := fine_ints (xs := [q.1, q.2]) (fun x hx => by
    simp only [List.mem_cons, List.not_mem_nil, or_false] at hx
    unfold bnd
    rcases hx with rfl | rfl <;> omega) (by simp)
  refine ⟨?_, ?_, ?_⟩
  · simp only [shw]; exact f1
  · simp only [PyData.depth]
    have : PyData.depthAll [PyData.int q.1, .int q.2] ≤ 0 := f2
    omega
  · simp only [cw]
    have : cws [PyData.int q.1, .int q.2] ≤ 1932 * 2 := f3
    omega
theorem bd_d2 {q : Int × Int} (h : okQ q) : Bd (d2 q) := fun a b z => by
  cases z
  obtain ⟨⟨a, b⟩, c, d⟩ := h
  exact ⟨fun n z => by cases z; omega, fun n z => by cases z; omega⟩
theorem cutV_init {xs : List V} : cutV xs none (some (-1)) = xs.take (xs.length - 1) := by
  have e : HT.sIx xs.length xs.length (some (-1)) = xs.length - 1 := by
    show (if (-1 : Int) < 0 then ((-1 : Int) + (xs.length : Int)).toNat else min (-1 : Int).toNat xs.length) = _
    rw [if_pos (by decide)]
    omega
  unfold cutV
  rw [HT.sIx_none, e, List.drop_zero, Nat.sub_zero]
def sp_law_spoilt (K : PySem.W.Frag) : Sp := fun vs H Q _ => ∃ (p l : Addr) (ps : List (Int × Int)), vs = [.ref p, .ref l] ∧ PotAt H p ∧ LD K H l (ps.map d2) ∧ l ≠ p ∧ (∀ q ∈ ps, okQ q) ∧ 1 ≤ ps.length ∧ ps.length ≤ 8 ∧
  ∀ v d H', PotAt H' p → Kp [p] H H' → Tz K H' [p] v d → Okay d → BdL d → (∀ ds, d = .list ds → ds.length ≤ 8) → Q v H'
theorem sc_law_spoilt : FnScope ["_law_pot_here", "_law_pairs_here", "_law_found", "_law_turn", "_law_at", "_law_ahead", "_law_way"] ["_law_pot_here", "_law_pairs_here"] (defScope s_law_spoilt) :=
  ⟨rfl, rfl, rfl, by decide +kernel, rfl, by decide +kernel, by decide +kernel⟩
theorem ok_law_spoilt {P : Program} {w : World} {K : PySem.W.Frag} {mg : Str → Option Value} {base : Heap} (T : Txt K mg) :
    FnG P w K mg base 3 T.a_law_spoilt T.d_law_spoilt ["_law_pot_here", "_law_pairs_here"] (sp_law_spoilt K) := by
  refine okD T.F_law_spoilt sc_law_spoilt (fun vs H Q E h => ?_) (fun cdv A outer s H vs Q E hr h => ?_)
  · first
      | (obtain ⟨_, rfl, _⟩ := h; rfl)
      | (obtain ⟨_, _, rfl, _⟩ := h; rfl)
      | (obtain ⟨_, _, _, rfl, _⟩ := h; rfl)
      | (obtain ⟨_, _, _, _, rfl, _⟩ := h; rfl)
      | (obtain ⟨_, _, _, _, _, rfl, _⟩ := h; rfl)
      | (obtain ⟨_, _, _, _, _, _, rfl, _⟩ := h; rfl)
      | (obtain ⟨_, _, _, _, _, _, _, rfl, _⟩ := h; rfl)
      | (obtain ⟨_, _, _, _, _, _, _, _, rfl, _⟩ := h; rfl)
      | (obtain ⟨_, _, _, _, _, _, _, _, _, rfl, _⟩ := h; rfl)
      | (obtain ⟨_, _, _, _, _, _, _, _, _, _, rfl, _⟩ := h; rfl)
      | (obtain ⟨_, _, _, _, _, _, _, _, _, _, _, rfl, _⟩ := h; rfl)
  · obtain ⟨p, l, ps, rfl, hp, ld, nlp, ok, n1, n8, k⟩ := h
    obtain ⟨lv, hlv, hla⟩ := id ld
    have hll := dpa_len hla
    rw [List.length_map] at hll
    refine ⟨_, (pss_cons (ps_set (i := 2) sc_law_spoilt.nd rfl (Or.inl rfl) (pe_callTy (k_list (K := K) rfl) (by rfl) T.n_list (by decide +kernel) (pa_cons (pv 1) pa_nil)))
      (pss_cons (ps_for (passes_of rfl) rfl (pi_range1 (by rfl) T.n_range (pa_cons (d1 (ok_law_draw T) (hr.mono (by decide)) (by rfl) T.m_law_draw T.F_law_draw.kp T.b_law_draw passL (pa_cons (pv 0) (pa_cons pe_int pa_nil))) pa_nil)) (pg_name (i := 3) sc_law_spoilt.nd rfl (Or.inl rfl))
      (pss_cons (ps_set (i := 4) sc_law_spoilt.nd rfl (Or.inl rfl) (d1 (ok_law_draw T) (hr.mono (by decide)) (by rfl) T.m_law_draw T.F_law_draw.kp T.b_law_draw passL (pa_cons (pv 0) (pa_cons (pe_callB (k_len (K := K) rfl) (by rfl) T.n_len (by decide +kernel) (pa_cons (pv 2) pa_nil)) pa_nil))))
      (pss_cons (ps_set (i := 5) sc_law_spoilt.nd rfl (Or.inl rfl) (pe_ifExp (pt_cmpR op_gt (pv 4) pe_int (nomark _)) (pe_ix (k_ix (K := K) rfl) (pe_ix (k_ix (K := K) rfl) (pv 1) (pe_op op_sub (pv 4) pe_int) (fun _ _ => rfl)) pe_int (fun _ _ => rfl)) pe_int))
      (pss_one (ps_asg (d1 (ok_law_odd_pair T) (hr.mono (by decide)) (by rfl) T.m_law_odd_pair T.F_law_odd_pair.kp T.b_law_odd_pair passL (pa_cons (pv 0) (pa_cons (pe_ix (k_ix (K := K) rfl) (pv 1) (pv 4) (fun _ _ => rfl)) (pa_cons (pv 5) pa_nil)))) (pg_sub (pv 2) (pv 4) set_list))))))
      (pss_cons (ps_set (i := 6) sc_law_spoilt.nd rfl (Or.inl rfl) (d1 (ok_law_draw T) (hr.mono (by decide)) (by rfl) T.m_law_draw T.F_law_draw.kp T.b_law_draw passL (pa_cons (pv 0) (pa_cons pe_int pa_nil))))
      (pss_cons (ps_if (pt_cmpR (k_eq (K := K) rfl hr.r.units) (pv 6) pe_int (nomark _)) (pss_one (ps_ret (pe_slice (k_sl (K := K) rfl) (pv 2) po_none (po_some (pe_un un_neg pe_int))))) pss_nil)
      (pss_cons (ps_if (pt_cmpR (k_eq (K := K) rfl hr.r.units) (pv 6) pe_int (nomark _)) (pss_one (ps_ret (pe_callTy call_tuple_of (by rfl) T.n_tuple (by decide +kernel) (pa_cons (pv 2) pa_nil)))) pss_nil)
      (pss_one (ps_ret (pe_ifExp (pt_cmpR (k_eq (K := K) rfl hr.r.units) (pv 6) pe_int (nomark _)) (d1 (ok_law_thing T) (hr.mono (by decide)) (by rfl) T.m_law_thing T.F_law_thing.kp T.b_law_thing passL (pa_cons (pv 0) pa_nil)) (pv 2))))))))), ?_⟩
    dsimp only [cxOf, st_1, st_2, st_3, st_4, st_5, st_6, List.length_cons, List.length_nil, List.replicate_succ, List.replicate_zero, Nat.reduceAdd, Nat.reduceSub]
    walk_at "gs"
    refine i_new fun F fF => ?_
    walk_at "gs"
    have kF : Kp [] H (upd H F (.lst lv)) := Kp.new fF
    have nFp : F ≠ p := Ne.symm (hp.ne fF)
    have nlF : l ≠ F := fr_ne hlv fF
    refine use_draw (hp.kp kF not_nil) (by decide) (by decide) (fun n H1 n0 n1' hp1 k1 => ?_)
    have k01 : Kp [p] H H1 := Kp.trans kF.wide k1
    walk_at "gs"
    refine i_turns (by omega) (by omega) (fun j σ H2 => ∃ (y3 y4 y5 y6 : Option V) (fv : List V) (es : List PyData), σ = [some (.ref p), some (.ref l), some (.ref F), y3, y4, y5, y6] ∧ PotAt H2 p ∧ Kp [p, F] H H2 ∧
      H2 F = some (.lst fv) ∧ DxAll K H2 [p, F] fv es ∧ es.length = ps.length ∧ ∀ e ∈ es, Fine e ∧ Bd e) ?_ ?_ ?_
    · refine ⟨none, none, none, none, lv, ps.map d2, rfl, hp1, k01.mono one_two, k1.at_ _ _ upd_same (not_one nFp), dxs_imm _ _ (imms_d2 _) (dpa_imm k01 _ _ (imms_d2 _) hla), List.length_map .., fun e he => ?_⟩
      obtain ⟨q, hq, rfl⟩ := List.mem_map.mp he
      exact ⟨fine_d2 (ok q hq), bd_d2 (ok q hq)⟩
    · rintro j σ H2 hj ⟨y3, y4, y5, y6, fv, es, rfl, hp2, k2, hF, da, el, fin⟩
      have hfl := dxa_len da
      walk_at "gs"
      refine use_draw hp2 (by omega) (by omega) (fun a0 H3 a1 a2 hp3 k3 => ?_)
      obtain ⟨a, rfl⟩ := Int.eq_ofNat_of_zero_le a1
      have k03 : Kp [p, F] H H3 := Kp.trans k2 (k3.mono one_two)
      have hl3 := k03.at_ _ _ hlv (not_two nlp nlF)
      have hla3 := dpa_imm k03 _ _ (imms_d2 _) hla
      have hF3 := k3.at_ _ _ hF (not_one nFp)
      obtain ⟨x, hx⟩ : ∃ x, lv[a]? = some x := ⟨_, List.getElem?_eq_getElem (by omega)⟩
      have hat : atI lv (a : Int) = some x := by
        unfold atI
        rw [ix_nat (by omega)]
        exact hx
      obtain ⟨d, hd, hdx⟩ := dpa_getV hla3 hx
      obtain ⟨q, hq, rfl⟩ := map_get hd
      obtain ⟨s, rfl, hs⟩ := dp_pair hdx
      have okq := ok q (List.mem_of_getElem? hq)
      walk_at "gs"
      have go : ∀ (ah : Int), -1000000000000000000000000000000000000000000000000000000000000 ≤ ah → ah ≤ 1000000000000000000000000000000000000000000000000000000000010 → True := fun _ _ _ => trivial
      refine i_dec (fun c => ?pos) (fun c => ?zero)
      case' pos =>
        obtain ⟨b, hb⟩ : ∃ b, a = b + 1 := ⟨a - 1, by omega⟩
        obtain ⟨y, hy⟩ : ∃ y, lv[b]? = some y := ⟨_, List.getElem?_eq_getElem (by omega)⟩
        have hat2 : atI lv ((a : Int) - 1) = some y := by
          have e : (a : Int) - 1 = (b : Int) := by omega
          unfold atI
          rw [e, ix_nat (by omega)]
          exact hy
        obtain ⟨d2', hd2, hdy⟩ := dpa_getV hla3 hy
        obtain ⟨q2, hq2, rfl⟩ := map_get hd2
        obtain ⟨s2, rfl, hs2⟩ := dp_pair hdy
        have okq2 := ok q2 (List.mem_of_getElem? hq2)
        walk_at "gs"
        refine ⟨p, s, F, _, q, q2.2, rfl, hp3, hF3, hs, okq, okq2.2, fun v dv H4 hp4 k4 dx fn bd => ?_⟩
      case' zero =>
        walk_at "gs"
        refine ⟨p, s, F, _, q, 7, rfl, hp3, hF3, hs, okq, by omega, fun v dv H4 hp4 k4 dx fn bd => ?_⟩
      all_goals
        have hF4 := k4.at_ _ _ hF3 (not_one nFp)
        walk_at "gs"
        refine i_setL hF4 (ix_nat (by omega)) ?_
        walk_at "gs"
        have kl : Kp [F] H4 (upd H4 F (.lst (fv.set a v))) := Kp.mut hF4 (fun z => z) List.mem_cons_self
        have k24 : Kp [p, F] H2 (upd H4 F (.lst (fv.set a v))) := Kp.trans ((Kp.trans k3 k4).mono one_two) (kl.mono two_two)
        refine ⟨_, _, _, _, fv.set a v, es.set a dv, rfl, hp4.kp kl (not_one (Ne.symm nFp)), Kp.trans k2 k24, upd_same, dxa_set (da.kp k24 _ _) (dx.kp (kl.mono two_two) _ _), by rw [List.length_set]; exact el, fun e he => ?_⟩
        rcases List.mem_or_eq_of_mem_set he with he | rfl
        · exact fin e he
        · exact ⟨fn, bd⟩
    rintro σ H2 ⟨y3, y4, y5, y6, fv, es, rfl, hp2, k2, hF, da, el, fin⟩
    have hfl := dxa_len da
    walk_at "gs"
    refine use_draw hp2 (by decide) (by decide) (fun w H3 w0 w1 hp3 k3 => ?_)
    have hF3 := k3.at_ _ _ hF (not_one nFp)
    have k23 : Kp [p, F] H2 H3 := k3.mono one_two
    have da3 := da.kp k23 _ _
    have k03 : Kp [p] H H3 := by
      refine Kp.drop (p := F) ?_ fF
      exact (Kp.trans k2 k23).mono fun b hb => by
        simp only [List.mem_cons, List.not_mem_nil, or_false] at hb ⊢
        rcases hb with h | h <;> simp [h]
    walk_at "gs"
    refine i_dec (fun c0 => ?_) (fun c0 => ?_)
    · walk_at "gs"
      rw [cutV_init]
      refine i_new fun u fu => ?_
      walk_at "gs"
      have ku : Kp [] H3 (upd H3 u (.lst (fv.take (fv.length - 1)))) := Kp.new fu
      have nup : u ≠ p := Ne.symm (hp3.ne fu)
      refine k (.ref u) (.list (es.take (fv.length - 1))) _ (hp3.kp ku not_nil) (Kp.trans k03 ku.wide) (.inl (.lst (not_one nup) upd_same ((dxa_take _ (da3.kp ku.wide _ _)).narrow one_two _ _))) (okay_list (fun e he => (fin e (List.mem_of_mem_take he)).1) ?_).1 (fun ds z e he => by cases z; exact (fin e (List.mem_of_mem_take he)).2) (fun ds z => ?_)
      · rw [List.length_take]
        omega
      · cases z
        rw [List.length_take]
        omega
    · walk_at "gs"
      refine i_dec (fun c1 => ?_) (fun c1 => ?_)
      · walk_at "gs"
        refine ⟨F, fv, rfl, .inl ⟨SqL.of hF3, fun u fu => ?_⟩⟩
        have ku : Kp [] H3 (upd H3 u (.tup fv)) := Kp.new ⟨fu⟩
        exact k (.ref u) (.tuple es) _ (hp3.kp ku not_nil) (Kp.trans k03 ku.wide) (.inl (.tup (SqT.of upd_same) ((da3.kp ku.wide _ _).narrow one_two _ _))) (okay_list (fun e he => (fin e he).1) (by omega)).2 (fun ds z => nomatch z) (fun ds z => nomatch z)
      · walk_at "gs"
        refine i_dec (fun c2 => ?_) (fun c2 => ?_)
        · walk_at "gs"
          refine ⟨p, rfl, hp3, fun v d H4 hp4 k4 tz okd len _ => ?_⟩
          refine k v d H4 hp4 (Kp.trans k03 k4) tz okd (fun ds z e he => ?_) (fun ds z => ?_)
          · rcases len ds z with rfl | rfl
            · cases he
            · rw [List.mem_singleton.mp he]
              exact bd_int
          · rcases len ds z with rfl | rfl <;> simp
        · walk_at "gs"
          exact k (.ref F) (.list es) H3 hp3 k03 (.inl (.lst (not_one nFp) hF3 (da3.narrow one_two _ _))) (okay_list (fun e he => (fin e he).1) (by omega)).1 (fun ds z e he => by cases z; exact (fin e he).2) (fun ds z => by cases z; omega)

/-! ### the law's own look at runs -/
def sp_law_are_due (K : PySem.W.Frag) : Sp := fun vs H Q _ => ∃ (v : V) (d : PyData) (n : Int) (ws : List Addr), vs = [v, .int n] ∧ Tz K H ws v d ∧ BdL d ∧
  ∀ b H', Kp [] H H' → (b = true ↔ IsRuns n d) → Q (.bl b) H'
theorem sc_law_are_due : FnScope ["_law_thing_here", "_law_wide", "_law_total", "_law_ahead", "_law_pair"] ["_law_thing_here", "_law_wide"] (defScope s_law_are_due) :=
  ⟨rfl, rfl, rfl, by decide +kernel, rfl, by decide +kernel, by decide +kernel⟩
theorem ok_law_are_due {P : Program} {w : World} {K : PySem.W.Frag} {mg : Str → Option Value} {base : Heap} (T : Txt K mg) :
    FnG P w K mg base 2 T.a_law_are_due T.d_law_are_due ["_law_thing_here", "_law_wide"] (sp_law_are_due K) := by
  refine okD T.F_law_are_due sc_law_are_due (fun vs H Q E h => ?_) (fun cdv A outer s H vs Q E hr h => ?_)
  · first
      | (obtain ⟨_, rfl, _⟩ := h; rfl)
      | (obtain ⟨_, _, rfl, _⟩ := h; rfl)
      | (obtain ⟨_, _, _, rfl, _⟩ := h; rfl)
      | (obtain ⟨_, _, _, _, rfl, _⟩ := h; rfl)
      | (obtain ⟨_, _, _, _, _, rfl, _⟩ := h; rfl)
      | (obtain ⟨_, _, _, _, _, _, rfl, _⟩ := h; rfl)
      | (obtain ⟨_, _, _, _, _, _, _, rfl, _⟩ := h; rfl)
      | (obtain ⟨_, _, _, _, _, _, _, _, rfl, _⟩ := h; rfl)
      | (obtain ⟨_, _, _, _, _, _, _, _, _, rfl, _⟩ := h; rfl)
      | (obtain ⟨_, _, _, _, _, _, _, _, _, _, rfl, _⟩ := h; rfl)
      | (obtain ⟨_, _, _, _, _, _, _, _, _, _, _, rfl, _⟩ := h; rfl)
  · obtain ⟨v, d, n, ws, rfl, tz, bd, k⟩ := h
    refine ⟨_, (pss_cons (ps_if (pt_not (pt_val (pe_callB (k_isi (K := K) rfl) (by rfl) T.n_isinstance (by decide +kernel) (pa_cons (pv 0) (pa_cons (pe_bltn (v := .ty "list") (by rfl) T.n_list (by decide +kernel) rfl) pa_nil))))) (pss_one (ps_ret pe_bl)) pss_nil)
      (pss_cons (ps_asg (pe_tup (pa_cons pe_int (pa_cons pe_non pa_nil))) (k_gtup (K := K) 2 rfl rfl (pgs_cons (pg_name (i := 2) sc_law_are_due.nd rfl (Or.inl rfl)) (pgs_cons (pg_name (i := 3) sc_law_are_due.nd rfl (Or.inl rfl)) pgs_nil))))
      (pss_cons (ps_for (passes_of rfl) rfl (k_plist (K := K) rfl (pv 0)) (pg_name (i := 4) sc_law_are_due.nd rfl (Or.inl rfl))
      (pss_cons (ps_if (PW.pt (pw_or (pt_not (pt_val (pe_callB (k_isi (K := K) rfl) (by rfl) T.n_isinstance (by decide +kernel) (pa_cons (pv 4) (pa_cons (pe_bltn (v := .ty "tuple") (by rfl) T.n_tuple (by decide +kernel) rfl) pa_nil))))) (pw_or (pt_cmpR (k_ne (K := K) rfl hr.r.units) (pe_callB (k_len (K := K) rfl) (by rfl) T.n_len (by decide +kernel) (pa_cons (pv 4) pa_nil)) pe_int (nomark _)) (pw_or1 (pt_not (pt_val (d1 (ok_law_is_whole T) (hr.mono (by decide)) (by rfl) T.m_law_is_whole T.F_law_is_whole.kp T.b_law_is_whole passL (pa_cons (pe_ix (k_ix (K := K) rfl) (pv 4) pe_int (fun _ _ => rfl)) (pa_cons pe_int (pa_cons (pe_op o_pow pe_int pe_int) pa_nil)))))))))) (pss_one (ps_ret pe_bl)) pss_nil)
      (pss_cons (ps_if (PW.pt (pw_or (pt_not (pt_val (d1 (ok_law_is_whole T) (hr.mono (by decide)) (by rfl) T.m_law_is_whole T.F_law_is_whole.kp T.b_law_is_whole passL (pa_cons (pe_ix (k_ix (K := K) rfl) (pv 4) pe_int (fun _ _ => rfl)) (pa_cons (pe_un un_neg (pe_op o_pow pe_int pe_int)) (pa_cons (pe_op o_pow pe_int pe_int) pa_nil)))))) (pw_or1 (pt_cmpR (k_eq (K := K) rfl hr.r.units) (pe_ix (k_ix (K := K) rfl) (pv 4) pe_int (fun _ _ => rfl)) (pv 3) (nomark _))))) (pss_one (ps_ret pe_bl)) pss_nil)
      (pss_one (ps_par (i := 2) (j := 3) (by rfl) sc_law_are_due.nd rfl rfl (by decide) rfl rfl (pa_cons (pe_op (k_add (K := K) rfl) (pv 2) (pe_ix (k_ix (K := K) rfl) (pv 4) pe_int (fun _ _ => rfl))) (pa_cons (pe_ix (k_ix (K := K) rfl) (pv 4) pe_int (fun _ _ => rfl)) pa_nil)) (by rfl))))))
      (pss_one (ps_ret (pe_cmpR (k_eq (K := K) rfl hr.r.units) (pv 2) (pv 1) (nomark _))))))), ?_⟩
    dsimp only [cxOf, st_1, st_2, st_3, st_4, st_5, st_6, List.length_cons, List.length_nil, List.replicate_succ, List.replicate_zero, Nat.reduceAdd, Nat.reduceSub]
    walk_at "gs"
    refine i_isA tz.any (kit_lst d) ?_
    walk_at "gs"
    refine i_boN (fun c => ?_) (fun c => ?_)
    · walk_at "gs"
      refine k false H Kp.refl ⟨fun z => (nomatch z), fun ⟨ps, e, _⟩ => ?_⟩
      rw [e] at c
      cases c
    obtain ⟨ds, rfl⟩ : ∃ ds, d = .list ds := by
      cases d with
      | list ds => exact ⟨ds, rfl⟩
      | _ => cases c
    have hD := tz.list
    cases hD
    rename_i l xs nl hl0 hallx
    have hsq : SqL K H l xs := SqL.of hl0
    have hxl := dxa_len hallx
    walk_at "gs"
    refine i_new fun e0 fe0 => ?_
    walk_at "gs"
    have k0 : Kp [] H (upd H e0 (.tup [.int 0, .non])) := Kp.new fe0
    refine i_each (k0.seqL not_nil hsq) (fun i σ H' => ∃ (y4 : Option V) (total : Int) (u : V) (ah : Option Int) (ps : List (Int × Int)), σ = [some (.ref l), some (.int n), some (.int total), some u, y4] ∧ Kp [] H H' ∧
      ((ah = none ∧ u = .non ∧ ps = []) ∨ ∃ a r, ah = some a ∧ u = .int a ∧ ps.getLast? = some r ∧ r.2 = a) ∧ ds.take i = ps.map d2 ∧ (∀ q ∈ ps, 0 < q.1) ∧ apart ps ∧ wide ps = total) ?_ ?_ ?_ ?_
    · exact ⟨_, 0, .non, none, [], rfl, k0, .inl ⟨rfl, rfl, rfl⟩, rfl, fun _ h => (nomatch h), trivial, rfl⟩
    · rintro i σ H' _ ⟨y4, total, u, ah, ps, rfl, k1, _⟩
      exact k1.seqL not_nil hsq
    · rintro i x σ H' hx ⟨y4, total, u, ah, ps, rfl, k1, hah, tk, pos, ap, sum⟩
      obtain ⟨d, hd, hdx0⟩ := dxa_get hallx hx
      have hdx := hdx0.kp k1.wide _ _
      have bdd := bd ds rfl d (List.mem_of_getElem? hd)
      have no : (∀ (qs : List (Int × Int)) (q : Int × Int), qs.take i = ps → qs[i]? = some q → d = d2 q → 0 < q.1 → apart qs → False) → ∀ H3, Kp [] H' H3 → Q (.bl false) H3 := fun z H3 k3 => by
        refine k false H3 (Kp.trans k1 k3) ⟨fun w => (nomatch w), fun ⟨qs, e, p0, a0, _⟩ => ?_⟩
        injection e with e
        rw [e] at hd tk
        obtain ⟨q, hq, eq⟩ := map_get hd
        rw [← List.map_take] at tk
        exact (z qs q (map_d2_inj tk) hq eq (p0 q (List.mem_of_getElem? hq)) a0).elim
      walk_at "gs"
      refine i_isD (hdx.dp _ _) (kit_tup d) ?_
      walk_at "gs"
      refine i_boN (fun c => ?_) (fun c => ?_)
      · walk_at "gs"
        exact no (fun qs q _ _ e _ _ => by
          rw [e] at c
          cases c) _ Kp.refl
      obtain ⟨es, rfl⟩ : ∃ es, d = .tuple es := by
        cases d with
        | tuple es => exact ⟨es, rfl⟩
        | _ => cases c
      have hdp := hdx.dp _ _
      cases hdp
      rename_i t xs2 hs ha
      have hxl2 := dpa_len ha
      walk_at "gs"
      refine i_decN (fun c4 => ?_) (fun c4 => ?_)
      · walk_at "gs"
        exact no (fun qs q _ _ e _ _ => by
          injection e with e
          rw [e] at hxl2
          exact c4 (by rw [hxl2]; rfl)) _ Kp.refl
      obtain ⟨v1, v2, d1, d2', rfl, rfl, h1, h2⟩ := dpa_two2 ha (by omega)
      obtain ⟨bd1, bd2⟩ := bdd d1 d2' rfl
      walk_at "gs"
      refine ⟨v1, d1, 1, _, rfl, .dp h1, ?_⟩
      walk_at "gs"
      refine i_boN (fun c1 => ?_) (fun c1 => ?_)
      · walk_at "gs"
        exact no (fun qs q _ _ e p0 _ => by
          injection e with e
          injection e with e1 e
          have b := bd1 _ e1
          rw [e1] at c1
          have := of_decide_eq_false c1
          omega) _ Kp.refl
      obtain ⟨m, rfl, m0, m1⟩ := whD_int c1
      cases h1
      walk_at "gs"
      refine ⟨v2, d2', _, _, rfl, .dp h2, ?_⟩
      walk_at "gs"
      refine i_boN (fun c2 => ?_) (fun c2 => ?_)
      · walk_at "gs"
        exact no (fun qs q _ _ e p0 _ => by
          injection e with e
          injection e with e1 e
          injection e with e2 e
          have b := bd2 _ e2
          rw [e2] at c2
          have := of_decide_eq_false c2
          omega) _ Kp.refl
      obtain ⟨w, rfl, w0, w1⟩ := whD_int c2
      cases h2
      have go : (∀ r, ps.getLast? = some r → r.2 ≠ w) → ∃ (y4 : Option V) (total' : Int) (u : V) (ah : Option Int) (qs : List (Int × Int)), [some (V.ref l), some (.int n), some (.int (total + m)), some (.int w), some (.ref t)] = [some (V.ref l), some (.int n), some (.int total'), some u, y4] ∧ Kp [] H H' ∧
          ((ah = none ∧ u = .non ∧ qs = []) ∨ ∃ a r, ah = some a ∧ u = .int a ∧ qs.getLast? = some r ∧ r.2 = a) ∧ ds.take (i + 1) = qs.map d2 ∧ (∀ q ∈ qs, 0 < q.1) ∧ apart qs ∧ wide qs = total' := fun z => by
        refine ⟨_, _, _, some w, ps ++ [(m, w)], rfl, k1, .inr ⟨w, (m, w), rfl, rfl, List.getLast?_concat .., rfl⟩, ?_, fun q hq => ?_, apart_snoc ap z, ?_⟩
        · rw [List.take_add_one, hd, tk, List.map_append]
          rfl
        · rcases List.mem_append.mp hq with hq | hq
          · exact pos q hq
          · rw [List.mem_singleton.mp hq]
            show 0 < m
            omega
        · rw [wide_snoc, sum]
      walk_at "gs"
      rcases hah with ⟨rfl, rfl, rfl⟩ | ⟨a, r, rfl, rfl, hr, ra⟩
      · refine i_eqD (.int w) .non (shaped_of rfl (by simp only [PyData.depth]; omega)) (shaped_of rfl (by simp only [PyData.depth]; omega)) ?_
        have e : PyData.eqv (.int w) .none = false := rfl
        rw [e]
        walk_at "gs"
        exact go fun _ z => nomatch z
      · walk_at "gs"
        refine i_dec (fun c3 => ?_) (fun c3 => ?_)
        · walk_at "gs"
          exact no (fun qs q tq hq e _ aq => by
            injection e with e
            injection e with _ e
            injection e with e2 _
            injection e2 with e2
            rw [← tq, List.getLast?_eq_getElem?] at hr
            have hil := (List.getElem?_eq_some_iff.mp hq).1
            have hlt : (qs.take i).length = i := by rw [List.length_take]; omega
            rw [hlt] at hr
            have i0 : i ≠ 0 := fun z => by
              rw [z] at hr
              simp at hr
            have hr2 : qs[i - 1]? = some r := by
              rw [List.getElem?_take] at hr
              split at hr
              · exact hr
              · cases hr
            have hq2 : qs.tail[i - 1]? = some q := by
              rw [List.getElem?_tail]
              have e : i - 1 + 1 = i := by omega
              rw [e]
              exact hq
            exact apart_get _ _ _ _ aq hr2 hq2 (by rw [ra, ← c3, e2])) _ Kp.refl
        · walk_at "gs"
          exact go fun r2 z => by
            rw [hr] at z
            cases z
            rw [ra]
            exact fun y => c3 y.symm
    · rintro σ H' ⟨y4, total, u, ah, ps, rfl, k1, _, tk, pos, ap, sum⟩
      walk_at "gs"
      rw [hxl, List.take_length] at tk
      refine k _ H' k1 ?_
      rw [decide_eq_true_iff, tk]
      exact ⟨fun z => ⟨ps, rfl, pos, ap, by omega⟩, fun h => by rw [← (isRuns_of h).2.2, sum]⟩

/-! ### the runs that a memory made of a thing tells -/
def sp_law_made (K : PySem.W.Frag) : Sp := fun vs H Q _ => ∃ (v : V) (d : PyData) (ws : List Addr), vs = [v] ∧ Tz K H ws v d ∧ (∀ ds, d = .list ds → ds.length ≤ 1000) ∧
  (∀ cs, Made1 d cs → ∀ R H', Fr H R → Kp [] H H' → LD K H' R ((rle cs).map d2) → Q (.ref R) H') ∧ ((∀ cs, ¬ Made1 d cs) → ∀ H', Kp [] H H' → Q .non H')
theorem sc_law_made : FnScope ["_law_thing_here", "_law_told", "e"] ["_law_thing_here"] (defScope s_law_made) :=
  ⟨rfl, rfl, rfl, by decide +kernel, rfl, by decide +kernel, by decide +kernel⟩
theorem ok_law_made {P : Program} {w : World} {K : PySem.W.Frag} {mg : Str → Option Value} {base : Heap} (T : Txt K mg) :
    FnG P w K mg base 8 T.a_law_made T.d_law_made ["_law_thing_here"] (sp_law_made K) := by
  refine okD T.F_law_made sc_law_made (fun vs H Q E h => ?_) (fun cdv A outer s H vs Q E hr h => ?_)
  · first
      | (obtain ⟨_, rfl, _⟩ := h; rfl)
      | (obtain ⟨_, _, rfl, _⟩ := h; rfl)
      | (obtain ⟨_, _, _, rfl, _⟩ := h; rfl)
      | (obtain ⟨_, _, _, _, rfl, _⟩ := h; rfl)
      | (obtain ⟨_, _, _, _, _, rfl, _⟩ := h; rfl)
      | (obtain ⟨_, _, _, _, _, _, rfl, _⟩ := h; rfl)
      | (obtain ⟨_, _, _, _, _, _, _, rfl, _⟩ := h; rfl)
      | (obtain ⟨_, _, _, _, _, _, _, _, rfl, _⟩ := h; rfl)
      | (obtain ⟨_, _, _, _, _, _, _, _, _, rfl, _⟩ := h; rfl)
      | (obtain ⟨_, _, _, _, _, _, _, _, _, _, rfl, _⟩ := h; rfl)
      | (obtain ⟨_, _, _, _, _, _, _, _, _, _, _, rfl, _⟩ := h; rfl)
  · obtain ⟨v, d, ws, rfl, tz, len, kT, kF⟩ := h
    have cl_Memory := T.cl_Memory
    have na_Memory_pairs := T.na_Memory_pairs
    have na_Memory_wide := T.na_Memory_wide
    refine ⟨_, (pss_cons (ps_set (i := 1) sc_law_made.nd rfl (Or.inl rfl) pe_non)
      (pss_cons (ps_try_as (i := 2) rfl rfl sc_law_made.nd rfl rfl ⟨rfl, by decide, .inl T.mx_ForkError⟩ takes0 (fun W pn xe tk _ => (pss_one (ps_set (i := 1) sc_law_made.nd rfl (Or.inl rfl) (dm0 T.cl_Memory T.me_Memory_runs (ok_Memory_runs T) (hr.mono (by decide)) T.b_Memory_runs passL (s1 (ok_memory_of T) (hr.mono (by decide)) (by rfl) T.m_memory_of T.F_memory_of.kp T.b_memory_of (passAt tk) (pa_cons (pv 0) pa_nil)))))) (fun ea eo ecl ed epn hz hf => (pss_one (ps_set (i := 1) sc_law_made.nd rfl (Or.inl rfl) (pe_ifExp (pt_val (pe_callB (k_isX (K := K) rfl hz hf) (by rfl) T.n_isinstance (by decide +kernel) (pa_cons (pv 2) (pa_cons (pe_glob (v := .ref T.x_NoRuns) rfl T.mx_NoRuns rfl) pa_nil)))) pe_non pe_str)))))
      (pss_one (ps_ret (pv 1))))), ?_⟩
    dsimp only [cxOf, st_1, st_2, st_3, st_4, st_5, st_6, List.length_cons, List.length_nil, List.replicate_succ, List.replicate_zero, Nat.reduceAdd, Nat.reduceSub]
    walk_at "gs"
    refine i_callX0 ?_
    walk_at "gs"
    refine ⟨v, d, ws, rfl, tz, len, fun no H1 k1 => ?_, fun cs mk m H1 fm k1 M1 of1 => ?_⟩
    · refine ⟨true, PySem.W.exm_ref T.ec_ForkError.hs T.ec_ForkError.hd T.et_ForkError T.is_NoRuns_ForkError, fun _ a ha => ?_, (fun z => by cases z)⟩
      walk_at "gs"
      refine ⟨_, _, _, _, rfl, T.ec_NoRuns, .inl rfl, rfl, .own _, kit_me, ?_⟩
      walk_at "gs"
      exact kF no _ k1
    · obtain ⟨dx, lm, hm, ldm⟩ := id M1
      walk_at "gs"
      refine ⟨m, cs, rfl, M1, fun R H2 fR k2 ldR => ?_⟩
      walk_at "gs"
      exact kT cs mk R H2 (k1.free fR) (Kp.trans k1 k2) ldR
def isT2 : PyData → Bool
  | .tuple [_, _] => true
  | _ => false
def fst1 : PyData → PyData
  | .tuple [a, _] => a
  | _ => .none
def nOf (d : PyData) : Int :=
  match fst1 d with
  | .int n => n
  | _ => 0
theorem isT2_true {d : PyData} (h : isT2 d = true) : ∃ a b, d = .tuple [a, b] := by
  unfold isT2 at h
  split at h
  · exact ⟨_, _, rfl⟩
  · cases h
theorem isT2_len {es : List PyData} : isT2 (.tuple es) = decide (es.length = 2) := by
  match es with
  | [] => rfl
  | [_] => rfl
  | [_, _] => rfl
  | _ :: _ :: _ :: t =>
    have e : ¬ (t.length + 3 = 2) := by omega
    exact (decide_eq_false e).symm
theorem nOf_runs : ∀ (ps : List (Int × Int)), ((ps.map d2).map nOf).sum = wide ps
  | [] => rfl
  | p :: ps => by
    have ih := nOf_runs ps
    show p.1 + ((ps.map d2).map nOf).sum = p.1 + wide ps
    rw [ih]
theorem t2_runs (ps : List (Int × Int)) : ((ps.map d2).map isT2).all id = true := by
  rw [List.all_eq_true]
  intro b hb
  obtain ⟨d, hd, rfl⟩ := List.mem_map.mp hb
  obtain ⟨q, _, rfl⟩ := List.mem_map.mp hd
  rfl
def sp_law_of_any_size (K : PySem.W.Frag) : Sp := fun vs H Q _ => ∃ (v : V) (d : PyData) (ws : List Addr), vs = [v] ∧ Tz K H ws v d ∧ BdL d ∧ (∀ ds, d = .list ds → ds.length ≤ 1000) ∧
  ((∃ cs, Made1 d cs) → ∀ H', Kp [] H H' → Q v H') ∧ ((∀ cs, ¬ Made1 d cs) → ∀ H', Kp [] H H' → Q .non H')
theorem sc_law_of_any_size : FnScope ["_law_thing_here", "_law_wide", "_law_one"] ["_law_thing_here"] (defScope s_law_of_any_size) :=
  ⟨rfl, rfl, rfl, by decide +kernel, rfl, by decide +kernel, by decide +kernel⟩
theorem ok_law_of_any_size {P : Program} {w : World} {K : PySem.W.Frag} {mg : Str → Option Value} {base : Heap} (T : Txt K mg) :
    FnG P w K mg base 3 T.a_law_of_any_size T.d_law_of_any_size ["_law_thing_here"] (sp_law_of_any_size K) := by
  refine okD T.F_law_of_any_size sc_law_of_any_size (fun vs H Q E h => ?_) (fun cdv A outer s H vs Q E hr h => ?_)
  · first
      | (obtain ⟨_, rfl, _⟩ := h; rfl)
      | (obtain ⟨_, _, rfl, _⟩ := h; rfl)
      | (obtain ⟨_, _, _, rfl, _⟩ := h; rfl)
      | (obtain ⟨_, _, _, _, rfl, _⟩ := h; rfl)
      | (obtain ⟨_, _, _, _, _, rfl, _⟩ := h; rfl)
      | (obtain ⟨_, _, _, _, _, _, rfl, _⟩ := h; rfl)
      | (obtain ⟨_, _, _, _, _, _, _, rfl, _⟩ := h; rfl)
      | (obtain ⟨_, _, _, _, _, _, _, _, rfl, _⟩ := h; rfl)
      | (obtain ⟨_, _, _, _, _, _, _, _, _, rfl, _⟩ := h; rfl)
      | (obtain ⟨_, _, _, _, _, _, _, _, _, _, rfl, _⟩ := h; rfl)
      | (obtain ⟨_, _, _, _, _, _, _, _, _, _, _, rfl, _⟩ := h; rfl)
  · obtain ⟨v, d, ws, rfl, tz, bd, len, kT, kF⟩ := h
    refine ⟨_, (pss_cons (ps_if (PW.pt (pw_or (pt_not (pt_val (pe_callB (k_isi (K := K) rfl) (by rfl) T.n_isinstance (by decide +kernel) (pa_cons (pv 0) (pa_cons (pe_bltn (v := .ty "list") (by rfl) T.n_list (by decide +kernel) rfl) pa_nil))))) (pw_or1 (pt_not (pt_val (pe_callB (k_all (K := K) rfl rfl) (by rfl) T.n_all (by decide +kernel) (pa_cons (pe_lc (own := [("_law_one", 2)]) (g := (gName 2)) (tt := tYes) rfl sc_law_of_any_size.nd (k_plist (K := K) rfl (pv 0)) (blkOk_by (own := [("_law_one", 2)]) (N := ["_law_thing_here", "_law_wide", "_law_one"]) (sc := defScope s_law_of_any_size) (by decide +kernel)) (fun _ _ _ _ _ => (pg_name (i := 2) sc_law_of_any_size.nd rfl (Or.inl rfl))) (fun _ _ _ _ _ => pts_nil) (fun _ _ _ _ _ => (pe_and (pe_callB (k_isi (K := K) rfl) (by rfl) T.n_isinstance (by decide +kernel) (pa_cons (pv 2) (pa_cons (pe_bltn (v := .ty "tuple") (by rfl) T.n_tuple (by decide +kernel) rfl) pa_nil))) (pe_one (pe_cmpR (k_eq (K := K) rfl hr.r.units) (pe_callB (k_len (K := K) rfl) (by rfl) T.n_len (by decide +kernel) (pa_cons (pv 2) pa_nil)) pe_int (nomark _)))))) pa_nil))))))) (pss_one (ps_ret pe_non)) pss_nil)
      (pss_cons (ps_if (pt_not (pt_val (pe_callB (k_all (K := K) rfl rfl) (by rfl) T.n_all (by decide +kernel) (pa_cons (pe_lc (own := [("_law_one", 2)]) (g := (gName 2)) (tt := tYes) rfl sc_law_of_any_size.nd (k_plist (K := K) rfl (pv 0)) (blkOk_by (own := [("_law_one", 2)]) (N := ["_law_thing_here", "_law_wide", "_law_one"]) (sc := defScope s_law_of_any_size) (by decide +kernel)) (fun _ _ _ _ _ => (pg_name (i := 2) sc_law_of_any_size.nd rfl (Or.inl rfl))) (fun _ _ _ _ _ => pts_nil) (fun _ _ _ _ _ => (d1 (ok_law_is_whole T) (hr.mono (by decide)) (by rfl) T.m_law_is_whole T.F_law_is_whole.kp T.b_law_is_whole passL (pa_cons (pe_ix (k_ix (K := K) rfl) (pv 2) pe_int (fun _ _ => rfl)) (pa_cons pe_int (pa_cons (pe_op o_pow pe_int pe_int) pa_nil)))))) pa_nil)))) (pss_one (ps_ret pe_non)) pss_nil)
      (pss_cons (ps_set (i := 1) sc_law_of_any_size.nd rfl (Or.inl rfl) (pe_callB (k_sum (K := K) rfl rfl) (by rfl) T.n_sum (by decide +kernel) (pa_cons (pe_lc (own := [("_law_one", 2)]) (g := (gName 2)) (tt := tYes) rfl sc_law_of_any_size.nd (k_plist (K := K) rfl (pv 0)) (blkOk_by (own := [("_law_one", 2)]) (N := ["_law_thing_here", "_law_wide", "_law_one"]) (sc := defScope s_law_of_any_size) (by decide +kernel)) (fun _ _ _ _ _ => (pg_name (i := 2) sc_law_of_any_size.nd rfl (Or.inl rfl))) (fun _ _ _ _ _ => pts_nil) (fun _ _ _ _ _ => (pe_ix (k_ix (K := K) rfl) (pv 2) pe_int (fun _ _ => rfl)))) pa_nil)))
      (pss_one (ps_ret (pe_ifExp (PW.pt (pw_and (pt_chain op_lt op_le pe_int (pv 1) (pe_op o_pow pe_int pe_int)) (pw_and1 (pt_val (d1 (ok_law_are_due T) (hr.mono (by decide)) (by rfl) T.m_law_are_due T.F_law_are_due.kp T.b_law_are_due passL (pa_cons (pv 0) (pa_cons (pv 1) pa_nil))))))) (pv 0) pe_non)))))), ?_⟩
    dsimp only [cxOf, st_1, st_2, st_3, st_4, st_5, st_6, List.length_cons, List.length_nil, List.replicate_succ, List.replicate_zero, Nat.reduceAdd, Nat.reduceSub]
    walk_at "gs"
    refine i_isA tz.any (kit_lst d) ?_
    walk_at "gs"
    refine i_boN (fun c => ?_) (fun c => ?_)
    · walk_at "gs"
      refine kF (fun cs h => ?_) _ Kp.refl
      rw [h.1] at c
      cases c
    obtain ⟨ds, rfl⟩ : ∃ ds, d = .list ds := by
      cases d with
      | list ds => exact ⟨ds, rfl⟩
      | _ => cases c
    have hD := tz.list
    cases hD
    rename_i l xs nl hl0 hallx
    have hsq : SqL K H l xs := SqL.of hl0
    have hxl := dxa_len hallx
    have hlen := len ds rfl
    walk_at "gs"
    refine i_mapL hsq ((ds.map isT2).map V.bl) (by rw [List.length_map, List.length_map]; omega) (by omega) ?_ ?_
    · intro D i x y H' Q' fD hx hy k1 q
      obtain ⟨d', hd', hdx'⟩ := dxa_get hallx hx
      rw [List.getElem?_map, List.getElem?_map, hd'] at hy
      cases hy
      have hdp' := (hdx'.kp k1.wide _ _).dp _ _
      walk_at "gs"
      refine i_isD hdp' (kit_tup d') ?_
      walk_at "gs"
      refine i_bool2 (fun c1 => ?_) (fun c1 => ?_)
      · obtain ⟨es, rfl⟩ : ∃ es, d' = .tuple es := by
          cases d' with
          | tuple es => exact ⟨es, rfl⟩
          | _ => cases c1
        cases hdp'
        rename_i t xs2 hs ha
        have hx2 := dpa_len ha
        walk_at "gs"
        have e : decide ((xs2.length : Int) = 2) = isT2 (.tuple es) := by
          rw [isT2_len, hx2]
          exact decide_eq_decide.mpr ⟨fun z => by omega, fun z => by omega⟩
        rw [e]
        exact q _ Kp.refl
      · have e : isT2 d' = false := by
          cases d' with
          | tuple es => cases c1
          | _ => rfl
        rw [← e]
        exact q _ Kp.refl
    intro D1 H1 fD1 k1 e1
    walk_at "gs"
    refine i_all (SqL.of e1) ?_
    walk_at "gs"
    refine i_boN (fun c2 => ?_) (fun c2 => ?_)
    · walk_at "gs"
      refine kF (fun cs h => ?_) _ k1
      have e := h.1
      injection e with e
      rw [e, t2_runs] at c2
      cases c2
    have pr : ∀ d ∈ ds, ∃ a b, d = .tuple [a, b] := fun d hd => isT2_true (List.all_eq_true.mp c2 _ (List.mem_map.mpr ⟨d, hd, rfl⟩))
    walk_at "gs"
    refine i_mapL (k1.seqL not_nil hsq) ((ds.map fun d => whD (fst1 d) 1 1000000000000000000000000000000000000000000000000000000000000).map V.bl) (by rw [List.length_map, List.length_map]; omega) (by omega) ?_ ?_
    · intro D i x y H' Q' fD hx hy k2 q
      obtain ⟨d', hd', hdx'⟩ := dxa_get hallx hx
      rw [List.getElem?_map, List.getElem?_map, hd'] at hy
      cases hy
      have hdp' := (hdx'.kp (Kp.trans k1 k2).wide _ _).dp _ _
      obtain ⟨a, b, rfl⟩ := pr d' (List.mem_of_getElem? hd')
      cases hdp'
      rename_i t xs2 hs ha
      obtain ⟨v1, v2, d1, d2', rfl, ee, h1, h2⟩ := dpa_two2 ha (dpa_len ha)
      cases ee
      walk_at "gs"
      exact ⟨v1, a, 1, _, rfl, .dp h1, q _ Kp.refl⟩
    intro D2 H2 fD2 k2 e2
    walk_at "gs"
    refine i_all (SqL.of e2) ?_
    walk_at "gs"
    have k02 := Kp.trans k1 k2
    refine i_boN (fun c3 => ?_) (fun c3 => ?_)
    · walk_at "gs"
      refine kF (fun cs h => ?_) _ k02
      have e := h.1
      injection e with e
      rw [Bool.eq_false_iff] at c3
      refine c3 (List.all_eq_true.mpr fun b hb => ?_)
      obtain ⟨d, hd, rfl⟩ := List.mem_map.mp hb
      have bdd := bd ds rfl d hd
      rw [e] at hd
      obtain ⟨q, hq, rfl⟩ := List.mem_map.mp hd
      have q0 := rle_pos cs q hq
      have q1 := (bdd _ _ rfl).1 _ rfl
      exact decide_eq_true ⟨by omega, q1⟩
    have intz : ∀ d ∈ ds, ∃ (n : Int) (b : PyData), d = .tuple [.int n, b] := fun d hd => by
      obtain ⟨a, b, rfl⟩ := pr d hd
      have w := List.all_eq_true.mp c3 _ (List.mem_map.mpr ⟨_, hd, rfl⟩)
      obtain ⟨n, e, _⟩ := whD_int (d := a) w
      exact ⟨n, b, by rw [e]⟩
    walk_at "gs"
    refine i_mapL (k02.seqL not_nil hsq) ((ds.map nOf).map V.int) (by rw [List.length_map, List.length_map]; omega) (by omega) ?_ ?_
    · intro D i x y H' Q' fD hx hy k3 q
      obtain ⟨d', hd', hdx'⟩ := dxa_get hallx hx
      rw [List.getElem?_map, List.getElem?_map, hd'] at hy
      cases hy
      have hdp' := (hdx'.kp (Kp.trans k02 k3).wide _ _).dp _ _
      obtain ⟨n, b, rfl⟩ := intz d' (List.mem_of_getElem? hd')
      cases hdp'
      rename_i t xs2 hs ha
      obtain ⟨v1, v2, d1, d2', rfl, ee, h1, h2⟩ := dpa_two2 ha (dpa_len ha)
      cases ee
      cases h1
      walk_at "gs"
      exact q _ Kp.refl
    intro D3 H3 fD3 k3 e3
    walk_at "gs"
    refine i_sum (SqL.of e3) ?_
    have k03 := Kp.trans k02 k3
    obtain ⟨S, hS⟩ : ∃ S, S = (ds.map nOf).sum := ⟨_, rfl⟩
    rw [← hS]
    have sum : ∀ cs, Made1 (.list ds) cs → S = cs.length := fun cs h => by
      have e := h.1
      injection e with e
      rw [hS, e, nOf_runs, wide_rle]
    have tz3 : Tz K H3 ws (.ref l) (.list ds) := tz.kp k03.wide
    walk_at "gs"
    refine i_dec (fun g1 => ?_) (fun g1 => ?_)
    · walk_at "gs"
      refine i_dec (fun g2 => ?_) (fun g2 => ?_)
      · walk_at "gs"
        refine ⟨.ref l, _, S, ws, rfl, tz3, bd, fun b H4 k4 hb => ?_⟩
        walk_at "gs"
        refine i_bool2 (fun z => ?_) (fun z => ?_)
        · walk_at "gs"
          obtain ⟨ps, e, p0, a0, w0⟩ := hb.mp z
          refine kT ⟨cells ps, ?_⟩ _ (Kp.trans k03 k4)
          rw [e]
          exact made_runs p0 a0 w0 (by omega) (by omega)
        · walk_at "gs"
          refine kF (fun cs h => ?_) _ (Kp.trans k03 k4)
          have e := hb.mpr (by rw [sum cs h]; exact made_is h)
          rw [z] at e
          cases e
      · walk_at "gs"
        refine kF (fun cs h => ?_) _ k03
        have := sum cs h
        have := h.2
        omega
    · walk_at "gs"
      refine kF (fun cs h => ?_) _ k03
      have := sum cs h
      have := h.2
      omega

/-! ### repr of [data, data or a dict] -/
section
open PyProof.Rows PySem.Calls
def rRepr2 (K : PySem.W.Frag) : List V → Hp → VK → Prop := fun xs H Q => ∃ (a : Addr) (x y : V) (d1 d2 : PyData) (ws : List Addr), xs = [.ref a] ∧ H a = some (.lst [x, y]) ∧ Dp K H x d1 ∧ Tz K H ws y d2 ∧
  shw d1 = true ∧ d1.depth ≤ 20 ∧ cw d1 ≤ 1000000 ∧ Okay d2 ∧ Q (.str (PyData.list [d1, d2]).shown) H
theorem dict_reads {X : Cx} {pins : List (Addr × Obj)} {σ : L2.St} {H : Hp} {s : Shared} {a : Addr} {kvs : List (Key × V)} {es : List (PyData × PyData)} (I : Inv X pins σ H s) (ha : H a = some (.dK kvs)) (hd : dicts kvs es) :
    (∃ as, Reads s.heap (.ref a) (.dict es) as ∧ sysModules ∉ as) ∧ (PyData.dict es).showable = true ∧ (PyData.dict es).depth ≤ 20 ∧ (PyData.dict es).shown.length ≤ 1000 := by
  obtain ⟨_, lo, vs, rel, o, es', ep, ho, hc, hdat, _, hp, _⟩ := dk_of I.hok ha
  have na : sysModules ≠ a := fun z => by
    rw [← z] at lo
    simp at lo
  rcases hd with ⟨rfl, rfl⟩ | ⟨rfl, rfl⟩
  · cases rel
    have e0 : es'.toList = [] := by
      cases hq : es'.toList with
      | nil => rfl
      | cons x y =>
        rw [hq] at hp
        cases hp
    refine ⟨⟨a :: [] ++ [], .dict ho hc.1 hdat ?_ ?_, ?_⟩, rfl, ?_, by decide +kernel⟩
    · rw [e0]
      exact .nil
    · rw [e0]
      exact .nil
    · simp only [List.append_nil, List.mem_singleton]
      exact na
    · simp only [PyData.depth, PyData.depthKv]
      omega
  · cases rel with
    | cons r1 rel =>
    cases rel
    obtain ⟨e1, r2⟩ := r1
    obtain ⟨e, e0, ek, ev⟩ : ∃ e, es'.toList = [e] ∧ (∃ t, e.key = .int 1 t) ∧ ∃ t, e.val = .int 1 t := by
      cases hq : es'.toList with
      | nil =>
        rw [hq] at hp
        cases hp
      | cons x y =>
        rw [hq] at hp
        cases hp with
        | cons h1 h2 h3 =>
          cases h3
          refine ⟨x, rfl, ?_, ?_⟩
          · have h1' : keyIs (.inl 1) x.key = true := by
              first
              | exact h1
              | (rw [← e1] at h1; exact h1)
              | (rw [e1] at h1; exact h1)
            rcases keyIs_shape h1' with ⟨i, t, z1, z2⟩ | ⟨i, t, z1, z2⟩
            · cases z1
              exact ⟨t, z2⟩
            · cases z1
          · obtain ⟨t, z⟩ := r2
            exact ⟨t, h2.trans z⟩
    obtain ⟨t1, ek⟩ := ek
    obtain ⟨t2, ev⟩ := ev
    refine ⟨⟨a :: ([] ++ []) ++ ([] ++ []), .dict ho hc.1 hdat ?_ ?_, ?_⟩, by decide +kernel, ?_, by decide +kernel⟩
    · rw [e0]
      show ReadsAll _ [e.key] [.int 1] _
      rw [ek]
      exact .cons (.int _ _) .nil
    · rw [e0]
      show ReadsAll _ [e.val] [.int 1] _
      rw [ev]
      exact .cons (.int _ _) .nil
    · simp only [List.append_nil, List.mem_singleton]
      exact na
    · simp only [PyData.depth, PyData.depthKv]
      omega
theorem k_repr2 {X : Cx} {K : PySem.W.Frag} (h : X.K = K) (hg : X.A.guards = some []) (hu : X.A.units + 64 < cLine) : CallR X (.builtin "repr") (rRepr2 K) := by
  subst h
  intro pins s σ H xs us Q I r q
  obtain ⟨a, x, y, d1, d2, ws, rfl, ha, hx, hy, s1, p1, c1, o2, q⟩ := q
  obtain ⟨u, rfl, rx⟩ := vals1 r
  cases rx
  obtain ⟨its, n, rv, ho, _⟩ := I.lst ha
  cases rv with
  | cons r1 rv =>
  cases rv with
  | cons r2 rv =>
  cases rv
  rename_i u1 u2
  obtain ⟨as1, R1⟩ := Dp.reads I d1 x u1 hx r1
  obtain ⟨w1, w2⟩ := shw_showable d1 s1
  have z1 := Nat.le_trans (shown_len d1 s1) c1
  obtain ⟨as2, R2, m2, sh2, dp2, z2⟩ : ∃ as, Reads s.heap u2 d2 as ∧ (d2.hasDict = true → sysModules ∉ as) ∧ d2.showable = true ∧ d2.depth ≤ 20 ∧ d2.shown.length ≤ 1000000 := by
    rcases hy with hy | ⟨b, kvs, es, rfl, rfl, hb, _, hd⟩
    · rcases o2 with ⟨es, rfl⟩ | ⟨o1, o2, o3⟩
      · cases hy
      · obtain ⟨as, R⟩ := Dp.reads I d2 y u2 (hy.dp _ _) r2
        obtain ⟨v1, v2⟩ := shw_showable d2 o1
        exact ⟨as, R, (fun z => by rw [v2] at z; cases z), v1, by omega, Nat.le_trans (shown_len d2 o1) (by omega)⟩
    · cases r2
      obtain ⟨⟨as, R, m⟩, e1, e2, e3⟩ := dict_reads I hb hd
      exact ⟨as, R, fun _ => m, e1, e2, by omega⟩
  have big : (1000000 : Nat) ≤ sizeLine := by decide
  obtain ⟨bs1, hb1, K1⟩ := ReprK.of_reads (prog := X.prog) (w := X.w) R1 w1 (fun z => by rw [w2] at z; cases z) (by omega)
  obtain ⟨bs2, hb2, K2⟩ := ReprK.of_reads (prog := X.prog) (w := X.w) R2 sh2 m2 (by omega)
  have hz : (listText [d1.shown, d2.shown]).length ≤ sizeLine := by
    have e1 : (("[" : String) : Str).length = 1 := rfl
    have e2 : (("]" : String) : Str).length = 1 := rfl
    have e3 : ((", " : String) : Str).length = 2 := rfl
    have e4 : (("" : String) : Str).length = 0 := rfl
    have big2 : (3000000 : Nat) ≤ sizeLine := by decide
    have e : (listText [d1.shown, d2.shown]).length = d1.shown.length + d2.shown.length + 4 := by
      simp only [listText, textFrom, strLen_append, Nat.lt_irrefl, if_false, Nat.zero_add, gt_iff_lt, Nat.lt_one_iff, Nat.zero_lt_one, if_true, e1, e2, e3, e4]
      omega
    omega
  have dd : PyData.depthAll [d1, d2] = max d1.depth d2.depth := by
    simp only [PyData.depthAll]
    omega
  have hba : ReadAtMost s.heap (PyData.depthAll [d1, d2]) (bs1 ++ bs2) := (hb1.mono (by omega)).append (hb2.mono (by omega))
  have RL : Reads s.heap (.ref a) (.list [d1, d2]) (a :: (as1 ++ (as2 ++ []))) := .list ho rfl rfl (.cons R1 (.cons R2 .nil))
  have hna : a ∉ bs1 ++ bs2 := not_mem_of_deeper RL (by simp only [PyData.depth]; omega) hba
  refine call_repr_slot (T := "list") (idr := "list.__repr__") (by omega) ⟨_, ho, rfl⟩ PySem.F.slot_list_repr.toG ?_
  refine call_list_reprK (as := bs1 ++ bs2) (h₀ := s.heap) (d := PyData.depthAll [d1, d2]) (ts := [d1.shown, d2.shown]) ho rfl rfl hna rfl (fun i v e => ?_) hg (fun b _ => Clear.nil b) (by show X.A.units + 1 + _ < cLine; omega) (fun _ _ e => e) (fun h' u tk hk => ?_) hz
  · match i, e with
    | 0, e =>
      have e : u1 = v := by simpa using e
      rw [← e]
      exact ⟨_, rfl, (K1.more fun b hb => List.mem_append_left _ hb).level_le (by omega)⟩
    | 1, e =>
      have e : u2 = v := by simpa using e
      rw [← e]
      exact ⟨_, rfl, (K2.more fun b hb => List.mem_append_right _ hb).level_le (by omega)⟩
    | i + 2, e => simp at e
  · refine ⟨_, _, rfl, .str _, H, I.kept hk, ⟨_, rfl⟩, ?_⟩
    simp only [PyData.shown, PyData.shownAll] at q
    exact q
end

/-! ### for over a tuple -/
section
variable {K : PySem.W.Frag} {σ : L2.St} {H : Hp} {D : Ends} {tb : TS} {te : TE} {g : TG} {a : Addr} {xs : List V}
def ForT (K : PySem.W.Frag) (x : V) (g : TG) (tb : TS) (D : Ends) (σ : L2.St) (H : Hp) : Prop :=
  ∃ a, x = .ref a ∧ (∃ ys, SqT K H a ys) ∧ ∃ W : Nat → Nat → L2.St → Hp → Prop,
    (∃ m, W 0 m σ H) ∧ ∀ i m σ H, W i m σ H → ((Itt K a).stop i H ∧ D.nx σ H) ∨
      ((Itt K a).go i H ∧ ∃ Nx : L2.St → Hp → Prop,
        (∀ σ' H', Nx σ' H' → ∃ m', m' < m ∧ W (i + 1) m' σ' H') ∧
        ∀ x H', (Itt K a).yld i H x H' → g x σ H' fun σ2 H2 =>
          tb { D with nx := Nx, ct := Nx, bk := D.nx } σ2 H2)
theorem i_forT (h : te σ H fun x H1 => ForT K x g tb D σ H1) : tFor (iTup K te) g tb D σ H := h
theorem i_eachT (hs : SqT K H a xs) (Pv : Nat → L2.St → Hp → Prop) (h0 : Pv 0 σ H)
    (hl : ∀ i σ H, i ≤ xs.length → Pv i σ H → SqT K H a xs)
    (st : ∀ i x σ H, xs[i]? = some x → Pv i σ H → g x σ H fun σ2 H2 =>
      tb { D with nx := Pv (i + 1), ct := Pv (i + 1), bk := D.nx } σ2 H2)
    (hd : ∀ σ H, Pv xs.length σ H → D.nx σ H) : ForT K (.ref a) g tb D σ H :=
  ⟨a, rfl, ⟨_, hs⟩, for_tup Pv h0 hl st hd⟩
end

/-! ### the four answers of one turn -/
theorem is_num {d : PyData} (h : ∀ n, d = .int n → -1000000000000000000000000000000000000000000000000000000000000 ≤ n ∧ n ≤ 1000000000000000000000000000000000000000000000000000000000000) :
    whD d (-1000000000000000000000000000000000000000000000000000000000000) 1000000000000000000000000000000000000000000000000000000000000 = isI d := by
  cases d with
  | int n => exact decide_eq_true (h n rfl)
  | _ => rfl
theorem bool_iff {b c : Bool} {p : Prop} (h : b = true ↔ p) (h' : c = true ↔ p) : b = c := Bool.eq_iff_iff.mpr (h.trans h'.symm)
def sp_law_right (K : PySem.W.Frag) : Sp := fun vs H Q _ => ∃ p : Addr, vs = [.ref p] ∧ PotAt H p ∧ ∀ H', PotAt H' p → Kp [p] H H' → Q (.bl true) H'
theorem sc_law_right : FnScope ["_law_pot_here", "_law_thing_here", "_law_wide", "_law_pairs_here", "_law_spoilt_here", "_law_shown", "_law_asked", "_law_one"] ["_law_pot_here"] (defScope s_law_right) :=
  ⟨rfl, rfl, rfl, by decide +kernel, rfl, by decide +kernel, by decide +kernel⟩
theorem ok_law_right {P : Program} {w : World} {K : PySem.W.Frag} {mg : Str → Option Value} {base : Heap} (T : Txt K mg) :
    FnG P w K mg base 9 T.a_law_right T.d_law_right ["_law_pot_here"] (sp_law_right K) := by
  refine okD T.F_law_right sc_law_right (fun vs H Q E h => ?_) (fun cdv A outer s H vs Q E hr h => ?_)
  · first
      | (obtain ⟨_, rfl, _⟩ := h; rfl)
      | (obtain ⟨_, _, rfl, _⟩ := h; rfl)
      | (obtain ⟨_, _, _, rfl, _⟩ := h; rfl)
      | (obtain ⟨_, _, _, _, rfl, _⟩ := h; rfl)
      | (obtain ⟨_, _, _, _, _, rfl, _⟩ := h; rfl)
      | (obtain ⟨_, _, _, _, _, _, rfl, _⟩ := h; rfl)
      | (obtain ⟨_, _, _, _, _, _, _, rfl, _⟩ := h; rfl)
      | (obtain ⟨_, _, _, _, _, _, _, _, rfl, _⟩ := h; rfl)
      | (obtain ⟨_, _, _, _, _, _, _, _, _, rfl, _⟩ := h; rfl)
      | (obtain ⟨_, _, _, _, _, _, _, _, _, _, rfl, _⟩ := h; rfl)
      | (obtain ⟨_, _, _, _, _, _, _, _, _, _, _, rfl, _⟩ := h; rfl)
  · obtain ⟨p, rfl, hp, k⟩ := h
    refine ⟨_, (pss_cons (ps_set (i := 1) sc_law_right.nd rfl (Or.inl rfl) (d1 (ok_law_thing T) (hr.mono (by decide)) (by rfl) T.m_law_thing T.F_law_thing.kp T.b_law_thing passL (pa_cons (pv 0) pa_nil)))
      (pss_cons (ps_if (pt_not (pt_val (d1 (ok_law_is T) (hr.mono (by decide)) (by rfl) T.m_law_is T.F_law_is.kp T.b_law_is passL (pa_cons (d1 (ok_is_size T) (hr.mono (by decide)) (by rfl) T.m_is_size T.F_is_size.kp T.b_is_size passL (pa_cons (pv 1) pa_nil)) (pa_cons (d1 (ok_law_is_whole T) (hr.mono (by decide)) (by rfl) T.m_law_is_whole T.F_law_is_whole.kp T.b_law_is_whole passL (pa_cons (pv 1) (pa_cons pe_int (pa_cons (pe_op o_pow pe_int pe_int) pa_nil)))) pa_nil))))) (pss_one (ps_ret pe_bl)) pss_nil)
      (pss_cons (ps_if (pt_not (pt_val (d1 (ok_law_is T) (hr.mono (by decide)) (by rfl) T.m_law_is T.F_law_is.kp T.b_law_is passL (pa_cons (d1 (ok_is_number T) (hr.mono (by decide)) (by rfl) T.m_is_number T.F_is_number.kp T.b_is_number passL (pa_cons (pv 1) pa_nil)) (pa_cons (d1 (ok_law_is_whole T) (hr.mono (by decide)) (by rfl) T.m_law_is_whole T.F_law_is_whole.kp T.b_law_is_whole passL (pa_cons (pv 1) (pa_cons (pe_un un_neg (pe_op o_pow pe_int pe_int)) (pa_cons (pe_op o_pow pe_int pe_int) pa_nil)))) pa_nil))))) (pss_one (ps_ret pe_bl)) pss_nil)
      (pss_cons (ps_set (i := 2) sc_law_right.nd rfl (Or.inl rfl) (d1 (ok_law_size T) (hr.mono (by decide)) (by rfl) T.m_law_size T.F_law_size.kp T.b_law_size passL (pa_cons (pv 0) pa_nil)))
      (pss_cons (ps_set (i := 3) sc_law_right.nd rfl (Or.inl rfl) (d1 (ok_law_pairs T) (hr.mono (by decide)) (by rfl) T.m_law_pairs T.F_law_pairs.kp T.b_law_pairs passL (pa_cons (pv 0) (pa_cons (pv 2) pa_nil))))
      (pss_cons (ps_set (i := 4) sc_law_right.nd rfl (Or.inl rfl) (d1 (ok_law_spoilt T) (hr.mono (by decide)) (by rfl) T.m_law_spoilt T.F_law_spoilt.kp T.b_law_spoilt passL (pa_cons (pv 0) (pa_cons (pv 3) pa_nil))))
      (pss_cons (ps_set (i := 5) sc_law_right.nd rfl (Or.inl rfl) (pe_callB (k_repr2 (K := K) rfl hr.g hr.r.units) (by rfl) T.n_repr (by decide +kernel) (pa_cons (pe_lst (pa_cons (pv 3) (pa_cons (pv 4) pa_nil))) pa_nil)))
      (pss_cons (ps_set (i := 6) sc_law_right.nd rfl (Or.inl rfl) (pe_ix (k_ix (K := K) rfl) (pe_lst (pa_cons (pv 2) (pa_cons (pv 2) (pa_cons (pe_callB (c_min2 rfl) (by rfl) T.n_min (by decide +kernel) (pa_cons (pe_op o_pow pe_int pe_int) (pa_cons (pe_op (k_add (K := K) rfl) (pv 2) pe_int) pa_nil))) (pa_cons (pe_callB (c_max2 rfl) (by rfl) T.n_max (by decide +kernel) (pa_cons pe_int (pa_cons (pe_op op_sub (pv 2) pe_int) pa_nil))) pa_nil))))) (d1 (ok_law_draw T) (hr.mono (by decide)) (by rfl) T.m_law_draw T.F_law_draw.kp T.b_law_draw passL (pa_cons (pv 0) (pa_cons pe_int pa_nil))) (fun _ _ => rfl)))
      (pss_cons (ps_for (passes_of rfl) rfl (k_ptup (K := K) rfl (pe_tup (pa_cons (pv 3) (pa_cons (pv 4) pa_nil)))) (pg_name (i := 7) sc_law_right.nd rfl (Or.inl rfl))
      (pss_cons (ps_if (pt_not (pt_val (d1 (ok_law_is T) (hr.mono (by decide)) (by rfl) T.m_law_is T.F_law_is.kp T.b_law_is passL (pa_cons (d1 (ok_are_runs T) (hr.mono (by decide)) (by rfl) T.m_are_runs T.F_are_runs.kp T.b_are_runs passL (pa_cons (pv 7) (pa_cons (pv 6) pa_nil))) (pa_cons (d1 (ok_law_are_due T) (hr.mono (by decide)) (by rfl) T.m_law_are_due T.F_law_are_due.kp T.b_law_are_due passL (pa_cons (pv 7) (pa_cons (pv 6) pa_nil))) pa_nil))))) (pss_one (ps_ret pe_bl)) pss_nil)
      (pss_one (ps_if (pt_cmpR (k_ne (K := K) rfl hr.r.units) (pe_callB (k_repr (K := K) rfl hr.g hr.r.units) (by rfl) T.n_repr (by decide +kernel) (pa_cons (d1 (ok_law_made T) (hr.mono (by decide)) (by rfl) T.m_law_made T.F_law_made.kp T.b_law_made passL (pa_cons (pv 7) pa_nil)) pa_nil)) (pe_callB (k_repr (K := K) rfl hr.g hr.r.units) (by rfl) T.n_repr (by decide +kernel) (pa_cons (d1 (ok_law_of_any_size T) (hr.mono (by decide)) (by rfl) T.m_law_of_any_size T.F_law_of_any_size.kp T.b_law_of_any_size passL (pa_cons (pv 7) pa_nil)) pa_nil)) (nomark _)) (pss_one (ps_ret pe_bl)) pss_nil))))
      (pss_one (ps_ret (pe_cmpR (k_eq (K := K) rfl hr.r.units) (pe_callB (k_repr2 (K := K) rfl hr.g hr.r.units) (by rfl) T.n_repr (by decide +kernel) (pa_cons (pe_lst (pa_cons (pv 3) (pa_cons (pv 4) pa_nil))) pa_nil)) (pv 5) (nomark _))))))))))))), ?_⟩
    dsimp only [cxOf, st_1, st_2, st_3, st_4, st_5, st_6, List.length_cons, List.length_nil, List.replicate_succ, List.replicate_zero, Nat.reduceAdd, Nat.reduceSub]
    walk_at "gs"
    refine ⟨p, rfl, hp, fun v0 d0 H1 hp1 k1 tz0 ok0 len0 ib => ?_⟩
    walk_at "gs"
    refine ⟨v0, d0, rfl, tz0.any, ?_⟩
    walk_at "gs"
    refine ⟨v0, d0, _, _, rfl, tz0.any, ?_⟩
    walk_at "gs"
    refine ⟨_, rfl, ?_⟩
    walk_at "gs"
    refine ⟨v0, d0, rfl, tz0.any, ?_⟩
    walk_at "gs"
    refine ⟨v0, d0, _, _, rfl, tz0.any, ?_⟩
    rw [is_num ib]
    walk_at "gs"
    refine ⟨_, rfl, ?_⟩
    walk_at "gs"
    refine use_size hp1 (fun w H2 w0 w1 hp2 k2 => ?_)
    walk_at "gs"
    refine ⟨p, w, rfl, hp2, ⟨w0, w1⟩, fun l ps H3 fl hp3 k3 ld okq ap sum n1 n8 => ?_⟩
    have nlp : l ≠ p := Ne.symm (hp2.ne fl)
    walk_at "gs"
    refine ⟨p, l, ps, rfl, hp3, ld, nlp, okq, n1, n8, fun v d H4 hp4 k4 tz okd bd len => ?_⟩
    have ld4 := ld.kp k4 (imms_d2 _) (not_one nlp)
    walk_at "gs"
    refine i_new fun Z fZ => ?_
    walk_at "gs"
    have kZ : Kp [] H4 (upd H4 Z (.lst [.ref l, v])) := Kp.new fZ
    have ldZ := ld4.kp kZ (imms_d2 _) not_nil
    have tzZ := tz.kp kZ.wide
    have hpZ := hp4.kp kZ not_nil
    have nZp : Z ≠ p := Ne.symm (hp4.ne fZ)
    obtain ⟨HZ, hHZ⟩ : ∃ HZ, HZ = upd H4 Z (.lst [.ref l, v]) := ⟨_, rfl⟩
    have hZ : HZ Z = some (.lst [.ref l, v]) := by
      rw [hHZ]
      exact upd_same
    rw [← hHZ] at kZ ldZ tzZ hpZ ⊢
    have finP : ∀ e ∈ ps.map d2, Fine e := fun e he => by
      obtain ⟨q, hq, rfl⟩ := List.mem_map.mp he
      exact fine_d2 (okq q hq)
    have okP := (okay_list finP (by rw [List.length_map]; omega)).1
    have bdP : BdL (.list (ps.map d2)) := fun ds z e he => by
      cases z
      obtain ⟨q, hq, rfl⟩ := List.mem_map.mp he
      exact bd_d2 (okq q hq)
    obtain ⟨sP, pP, cP⟩ : shw (.list (ps.map d2)) = true ∧ (PyData.list (ps.map d2)).depth ≤ 10 ∧ cw (.list (ps.map d2)) ≤ 200000 := by
      rcases okP with ⟨es, z⟩ | z
      · cases z
      · exact z
    refine ⟨Z, .ref l, v, .list (ps.map d2), d, [p], rfl, hZ, ldZ.dp, tzZ, sP, by omega, by omega, okd, ?_⟩
    walk_at "gs"
    refine i_new fun M fM => ?_
    walk_at "gs"
    have kM : Kp [] HZ (upd HZ M (.lst [.int w, .int w, .int (min 1000000000000000000 (w + 1)), .int (max 1 (w - 1))])) := Kp.new fM
    have nMp : M ≠ p := Ne.symm (hpZ.ne fM)
    refine use_draw (hpZ.kp kM not_nil) (by decide) (by decide) (fun m H6 m0 m1 hp6 k6 => ?_)
    have hM6 : H6 M = some (.lst [.int w, .int w, .int (min 1000000000000000000 (w + 1)), .int (max 1 (w - 1))]) := k6.at_ _ _ upd_same (not_one nMp)
    obtain ⟨A, a0, a1, hat⟩ : ∃ A : Int, 1 ≤ A ∧ A ≤ 1000000000000000000 ∧ atI [V.int w, V.int w, V.int (min 1000000000000000000 (w + 1)), V.int (max 1 (w - 1))] m = some (.int A) := by
      obtain ⟨m', rfl⟩ := Int.eq_ofNat_of_zero_le m0
      have e : m' = 0 ∨ m' = 1 ∨ m' = 2 ∨ m' = 3 := by omega
      rcases e with rfl | rfl | rfl | rfl
      · exact ⟨_, w0, w1, rfl⟩
      · exact ⟨_, w0, w1, rfl⟩
      · exact ⟨_, by omega, by omega, rfl⟩
      · exact ⟨_, by omega, by omega, rfl⟩
    have kZ6 : Kp [p] HZ H6 := Kp.trans kM.wide k6
    have ld6 := ldZ.kp kZ6 (imms_d2 _) (not_one nlp)
    have tz6 := tzZ.kp kZ6
    walk_at "gs"
    refine i_forT ?_
    walk_at "gs"
    refine i_new fun U fU => ?_
    walk_at "gs"
    have kU : Kp [] H6 (upd H6 U (.tup [.ref l, v])) := Kp.new fU
    obtain ⟨HU, hHU⟩ : ∃ HU, HU = upd H6 U (.tup [.ref l, v]) := ⟨_, rfl⟩
    have hU : SqT K HU U [.ref l, v] := by
      rw [hHU]
      exact SqT.of upd_same
    rw [← hHU] at kU ⊢
    have ldU := ld6.kp kU (imms_d2 _) not_nil
    have tzU := tz6.kp kU.wide
    have hpU := hp6.kp kU not_nil
    have things : ∀ (i : Nat) (x : V), [V.ref l, v][i]? = some x → ∃ d, Tz K HU [p] x d ∧ Okay d ∧ BdL d ∧ ∀ ds, d = .list ds → ds.length ≤ 1000 := by
      intro i x hx
      match i, hx with
      | 0, hx =>
        cases hx
        obtain ⟨lv, hlv, hla⟩ := id ldU
        exact ⟨.list (ps.map d2), .inl (.lst (not_one nlp) hlv (dxs_imm _ _ (imms_d2 _) hla)), okP, bdP, fun ds z => by cases z; rw [List.length_map]; omega⟩
      | 1, hx =>
        cases hx
        exact ⟨d, tzU, okd, bd, fun ds z => Nat.le_trans (len ds z) (by omega)⟩
    refine i_eachT hU (fun i σ H' => ∃ y7, σ = [some (.ref p), some v0, some (.int w), some (.ref l), some v, some (.str (PyData.list [PyData.list (ps.map d2), d]).shown), some (.int A), y7] ∧ Kp [] HU H') ?_ ?_ ?_ ?_
    · exact ⟨_, rfl, Kp.refl⟩
    · rintro i σ H' _ ⟨y7, rfl, k7⟩
      exact k7.seqT hU
    · rintro i x σ H' hx ⟨y7, rfl, k7⟩
      obtain ⟨e, tze, oke, bde, lene⟩ := things i x hx
      have tze7 := tze.kp k7.wide
      walk_at "gs"
      refine ⟨x, e, A, [p], rfl, tze7, lene, fun b1 H8 k8 e1 => ?_⟩
      have tze8 := tze7.kp k8.wide
      walk_at "gs"
      refine ⟨x, e, A, [p], rfl, tze8, bde, fun b2 H9 k9 e2 => ?_⟩
      have tze9 := tze8.kp k9.wide
      obtain rfl := bool_iff e1 e2
      walk_at "gs"
      refine ⟨_, rfl, ?_⟩
      walk_at "gs"
      have k79 : Kp [] HU H9 := Kp.trans k7 (Kp.trans k8 k9)
      refine ⟨x, e, [p], rfl, tze9, lene, fun cs mk R H10 fR k10 ldR => ?_, fun no H10 k10 => ?_⟩
      · have tze10 := tze9.kp k10.wide
        obtain ⟨m1, m2, m3⟩ := id mk
        obtain ⟨s1, s2, s3⟩ : shw e = true ∧ e.depth ≤ 10 ∧ cw e ≤ 200000 := by
          rcases oke with ⟨es, z⟩ | z
          · rw [z] at m1
            cases m1
          · exact z
        subst m1
        walk_at "gs"
        refine i_repr ldR.dp s1 (by omega) (Nat.le_trans s3 (by decide)) ?_
        walk_at "gs"
        have tze10 := tze9.kp k10.wide
        refine ⟨x, _, [p], rfl, tze10, bde, lene, fun _ H11 k11 => ?_, fun no => (no cs mk).elim⟩
        walk_at "gs"
        refine i_repr ((tze10.kp k11.wide).list.dp _ _) s1 (by omega) (Nat.le_trans s3 (by decide)) ?_
        walk_at "gs"
        refine i_decN (fun z => absurd rfl z) (fun _ => ?_)
        walk_at "gs"
        exact ⟨_, rfl, Kp.trans k79 (Kp.trans k10 k11)⟩
      · have tze10 := tze9.kp k10.wide
        walk_at "gs"
        refine i_repr (d := .none) .non rfl (by simp only [PyData.depth]; omega) (by decide +kernel) ?_
        walk_at "gs"
        refine ⟨x, e, [p], rfl, tze10, bde, lene, fun yes => (yes.elim no).elim, fun _ H11 k11 => ?_⟩
        walk_at "gs"
        refine i_repr (d := .none) .non rfl (by simp only [PyData.depth]; omega) (by decide +kernel) ?_
        walk_at "gs"
        refine i_decN (fun z => absurd rfl z) (fun _ => ?_)
        walk_at "gs"
        exact ⟨_, rfl, Kp.trans k79 (Kp.trans k10 k11)⟩
    rintro σ H7 ⟨y7, rfl, k7⟩
    walk_at "gs"
    refine i_new fun W fW => ?_
    have kW : Kp [] H7 (upd H7 W (.lst [.ref l, v])) := Kp.new fW
    walk_at "gs"
    have kUW := Kp.trans k7 kW
    refine ⟨W, .ref l, v, .list (ps.map d2), d, [p], rfl, upd_same, (ldU.kp kUW (imms_d2 _) not_nil).dp, tzU.kp kUW.wide, sP, by omega, by omega, okd, ?_⟩
    walk_at "gs"
    rw [decide_eq_true rfl]
    refine k _ (hpU.kp kUW not_nil) ?_
    exact Kp.trans k1 (Kp.trans k2 (Kp.trans k3 (Kp.trans k4 (Kp.trans kZ.wide (Kp.trans kZ6 (Kp.trans kU kUW).wide)))))

def sp_law (K : PySem.W.Frag) : Sp := fun vs H Q _ => ∃ (a : Addr) (ns : List Int),
  vs = [.ref a] ∧ SqL K H a (ns.map V.int) ∧ ns.length ≤ 63 ∧ ∀ H', Q (.bl true) H'
theorem sc_law : FnScope ["_law_script", "_law_k", "_law_pot_here", "_law_turn"] ["_law_script"] (defScope s_law) :=
  ⟨rfl, rfl, rfl, by decide +kernel, rfl, by decide +kernel, by decide +kernel⟩
theorem ok_law {P : Program} {w : World} {K : PySem.W.Frag} {mg : Str → Option Value} {base : Heap} (T : Txt K mg) :
    FnG P w K mg base 10 T.a_law T.d_law ["_law_script"] (sp_law K) := by
  refine okD T.F_law sc_law (fun vs H Q E h => ?_) (fun cdv A outer s H vs Q E hr h => ?_)
  · first
      | (obtain ⟨_, rfl, _⟩ := h; rfl)
      | (obtain ⟨_, _, rfl, _⟩ := h; rfl)
      | (obtain ⟨_, _, _, rfl, _⟩ := h; rfl)
      | (obtain ⟨_, _, _, _, rfl, _⟩ := h; rfl)
      | (obtain ⟨_, _, _, _, _, rfl, _⟩ := h; rfl)
      | (obtain ⟨_, _, _, _, _, _, rfl, _⟩ := h; rfl)
      | (obtain ⟨_, _, _, _, _, _, _, rfl, _⟩ := h; rfl)
      | (obtain ⟨_, _, _, _, _, _, _, _, rfl, _⟩ := h; rfl)
      | (obtain ⟨_, _, _, _, _, _, _, _, _, rfl, _⟩ := h; rfl)
      | (obtain ⟨_, _, _, _, _, _, _, _, _, _, rfl, _⟩ := h; rfl)
      | (obtain ⟨_, _, _, _, _, _, _, _, _, _, _, rfl, _⟩ := h; rfl)
  · obtain ⟨s, ns, rfl, hsq, hns, k⟩ := h
    refine ⟨_, (pss_cons (ps_for (passes_of rfl) rfl (pi_range1 (by rfl) T.n_range (pa_cons (pe_callB (c_max2 rfl) (by rfl) T.n_max (by decide +kernel) (pa_cons pe_int (pa_cons (pe_callB (c_min2 rfl) (by rfl) T.n_min (by decide +kernel) (pa_cons (pe_callB (k_len (K := K) rfl) (by rfl) T.n_len (by decide +kernel) (pa_cons (pv 0) pa_nil)) (pa_cons pe_int pa_nil))) pa_nil))) pa_nil)) (pg_name (i := 1) sc_law.nd rfl (Or.inl rfl))
      (pss_cons (ps_set (i := 2) sc_law.nd rfl (Or.inr rfl) (d1 (ok_law_pot T) (hr.mono (by decide)) (by rfl) T.m_law_pot T.F_law_pot.kp T.b_law_pot passL (pa_cons (pv 0) (pa_cons (pv 1) pa_nil))))
      (pss_one (ps_if (pt_not (pt_val (pe_callB (k_all (K := K) rfl rfl) (by rfl) T.n_all (by decide +kernel) (pa_cons (pe_lc (own := [("_law_turn", 3)]) (g := (gName 3)) (tt := tYes) rfl sc_law.nd (pi_range1 (by rfl) T.n_range (pa_cons pe_int pa_nil)) (blkOk_by (own := [("_law_turn", 3)]) (N := ["_law_script", "_law_k", "_law_pot_here", "_law_turn"]) (sc := defScope s_law) (by decide +kernel)) (fun _ _ _ _ _ => (pg_name (i := 3) sc_law.nd rfl (Or.inl rfl))) (fun _ _ _ _ _ => pts_nil) (fun _ _ _ _ _ => (d1 (ok_law_right T) (hr.mono (by decide)) (by rfl) T.m_law_right T.F_law_right.kp T.b_law_right passL (pa_cons (pv 2) pa_nil)))) pa_nil)))) (pss_one (ps_ret pe_bl)) pss_nil))))
      (pss_one (ps_ret (pe_cmpR (k_eq (K := K) rfl hr.r.units) (pe_glob (v := V.int 1000000000000000000) rfl T.g_LARGEST ⟨_, rfl⟩) (pe_op o_pow pe_int pe_int) (nomark _))))), ?_⟩
    dsimp only [cxOf, st_1, st_2, st_3, st_4, st_5, st_6, List.length_cons, List.length_nil, List.replicate_succ, List.replicate_zero, Nat.reduceAdd, Nat.reduceSub]
    walk_at "gs"
    rw [List.length_map]
    refine i_turns (by omega) (by omega) (fun i σ H' => ∃ x1 x2 x3, σ = [some (.ref s), x1, x2, x3] ∧ Kp [] H H') ?_ ?_ ?_
    · exact ⟨none, none, none, rfl, Kp.refl⟩
    · rintro i σ H' hi ⟨x1, x2, x3, rfl, kp⟩
      walk_at "gs"
      refine ⟨s, ns, i, rfl, kp.seqL not_nil hsq, by omega, fun p H1 hp k1 hpot => ?_⟩
      walk_at "gs"
      refine i_reps (by decide) (by decide) (fun D i H2 => PotAt H2 p ∧ Kp [p] H1 H2 ∧ H2 D = some (.lst ((List.replicate i true).map V.bl))) ?_ ?_ ?_
      · intro D fD
        exact ⟨hpot.kp (Kp.new fD (ws := [])) not_nil, Kp.new fD, upd_same⟩
      · rintro D i2 H2 fD hi2 ⟨hp2, k2, hD⟩
        have nDp : D ≠ p := Ne.symm (hpot.ne fD)
        walk_at "gs"
        refine ⟨p, rfl, hp2, fun H3 hp3 k3 => ?_⟩
        have hD3 := k3.at_ _ _ hD (not_one nDp)
        have kl : Kp [D] H3 (upd H3 D (.lst ((List.replicate i2 true).map V.bl ++ [.bl true]))) := Kp.mut hD3 (fun z => z) List.mem_cons_self
        refine ⟨_, hD3, small_sz (by rw [List.length_map, List.length_replicate]; omega), hp3.kp kl (not_one (Ne.symm nDp)), ?_, ?_⟩
        · refine Kp.drop (p := D) ?_ fD
          exact Kp.trans ((Kp.trans k2 k3).mono fun b hb => List.mem_cons_of_mem _ hb) (kl.mono fun b hb => by rw [List.mem_singleton.mp hb]; exact List.mem_cons_self)
        · rw [List.replicate_succ', List.map_append]
          exact upd_same
      rintro D H2 fD ⟨hp2, k2, hD⟩
      walk_at "gs"
      refine i_all (SqL.of hD) ?_
      walk_at "gs"
      refine i_boN (fun z => by cases z) (fun _ => ?_)
      walk_at "gs"
      refine ⟨_, _, _, rfl, ?_⟩
      have q1 : Kp [p] H' H2 := Kp.trans k1.wide k2
      exact Kp.trans kp (Kp.drop q1 hp)
    · rintro σ H' ⟨x1, x2, x3, rfl, kp⟩
      walk_at "gs"
      exact k _
theorem law_end {K : PySem.W.Frag} {H : Hp} {a : Addr} {ns : List Int} (hl : ns.length ≤ 63)
    (_ : ∀ z ∈ ns, Builtin.Int.intBits z ≤ 1048576) (_ : Only H) (hs : SqL K H a (ns.map V.int)) :
    sp_law K [.ref a] H (fun v _ => v = .bl true) fun _ _ _ => False :=
  ⟨a, ns, rfl, hs, hl, fun _ => rfl⟩
theorem all_mk {l : PySem.W.OpenLaw} {w : World} {K : PySem.W.Frag} {h : Heap}
    {mg : Str → Option Value} {fa : Addr} (X : K.In h) (N : h.Ns mainGlobals mg)
    (hfa : mg "law" = some (.ref fa))
    {C0 : Addr} (ac0 : PySem.W.nsIn K mainGlobals "Memory" = some (some (.ref C0)))
    {X0 : Addr} (xm0 : PySem.W.nsIn K mainGlobals "ForkError" = some (some (.ref X0)))
    {X1 : Addr} (xm1 : PySem.W.nsIn K mainGlobals "NoRuns" = some (some (.ref X1)))
    {f0 : Addr} {od0 an0 : Option Addr} {sl0 : Array (Option Value)} {oc0 kV0 dc0 pm0 cd0 ct0 : Value}
    {f1 : Addr} {od1 an1 : Option Addr} {sl1 : Array (Option Value)} {oc1 kV1 dc1 pm1 cd1 ct1 : Value}
    {f2 : Addr} {od2 an2 : Option Addr} {sl2 : Array (Option Value)} {oc2 kV2 dc2 pm2 cd2 ct2 : Value}
    {f3 : Addr} {od3 an3 : Option Addr} {sl3 : Array (Option Value)} {oc3 kV3 dc3 pm3 cd3 ct3 : Value}
    {f4 : Addr} {od4 an4 : Option Addr} {sl4 : Array (Option Value)} {oc4 kV4 dc4 pm4 cd4 ct4 : Value}
    {f5 : Addr} {od5 an5 : Option Addr} {sl5 : Array (Option Value)} {oc5 kV5 dc5 pm5 cd5 ct5 : Value}
    {f6 : Addr} {od6 an6 : Option Addr} {sl6 : Array (Option Value)} {oc6 kV6 dc6 pm6 cd6 ct6 : Value}
    {f7 : Addr} {od7 an7 : Option Addr} {sl7 : Array (Option Value)} {oc7 kV7 dc7 pm7 cd7 ct7 : Value}
    {f8 : Addr} {od8 an8 : Option Addr} {sl8 : Array (Option Value)} {oc8 kV8 dc8 pm8 cd8 ct8 : Value}
    {f9 : Addr} {od9 an9 : Option Addr} {sl9 : Array (Option Value)} {oc9 kV9 dc9 pm9 cd9 ct9 : Value}
    {f10 : Addr} {od10 an10 : Option Addr} {sl10 : Array (Option Value)} {oc10 kV10 dc10 pm10 cd10 ct10 : Value}
    {f11 : Addr} {od11 an11 : Option Addr} {sl11 : Array (Option Value)} {oc11 dc11 pm11 cd11 ct11 : Value}
    {f12 : Addr} {od12 an12 : Option Addr} {sl12 : Array (Option Value)} {oc12 kV12 dc12 pm12 cd12 ct12 : Value}
    {f13 : Addr} {od13 an13 : Option Addr} {sl13 : Array (Option Value)} {oc13 kV13 dc13 pm13 cd13 ct13 : Value}
    {f14 : Addr} {od14 an14 : Option Addr} {sl14 : Array (Option Value)} {oc14 kV14 dc14 pm14 cd14 ct14 : Value}
    {f15 : Addr} {od15 an15 : Option Addr} {sl15 : Array (Option Value)} {oc15 kV15 dc15 pm15 cd15 ct15 : Value}
    {f16 : Addr} {od16 an16 : Option Addr} {sl16 : Array (Option Value)} {oc16 kV16 dc16 pm16 cd16 ct16 : Value}
    {f17 : Addr} {od17 an17 : Option Addr} {sl17 : Array (Option Value)} {oc17 kV17 dc17 pm17 cd17 ct17 : Value}
    {f18 : Addr} {od18 an18 : Option Addr} {sl18 : Array (Option Value)} {oc18 dc18 pm18 cd18 ct18 : Value}
    {f19 : Addr} {od19 an19 : Option Addr} {sl19 : Array (Option Value)} {oc19 kV19 dc19 pm19 cd19 ct19 : Value}
    {f20 : Addr} {od20 an20 : Option Addr} {sl20 : Array (Option Value)} {oc20 kV20 dc20 pm20 cd20 ct20 : Value}
    {f21 : Addr} {od21 an21 : Option Addr} {sl21 : Array (Option Value)} {oc21 kV21 dc21 pm21 cd21 ct21 : Value}
    {f22 : Addr} {od22 an22 : Option Addr} {sl22 : Array (Option Value)} {oc22 kV22 dc22 pm22 cd22 ct22 : Value}
    {f23 : Addr} {od23 an23 : Option Addr} {sl23 : Array (Option Value)} {oc23 kV23 dc23 pm23 cd23 ct23 : Value}
    {f24 : Addr} {od24 an24 : Option Addr} {sl24 : Array (Option Value)} {oc24 kV24 dc24 pm24 cd24 ct24 : Value}
    {f25 : Addr} {od25 an25 : Option Addr} {sl25 : Array (Option Value)} {oc25 kV25 dc25 pm25 cd25 ct25 : Value}
    {f26 : Addr} {od26 an26 : Option Addr} {sl26 : Array (Option Value)} {oc26 kV26 dc26 pm26 cd26 ct26 : Value}
    {f27 : Addr} {od27 an27 : Option Addr} {sl27 : Array (Option Value)} {oc27 kV27 dc27 pm27 cd27 ct27 : Value}
    {f28 : Addr} {od28 an28 : Option Addr} {sl28 : Array (Option Value)} {oc28 kV28 dc28 pm28 cd28 ct28 : Value}
    {f29 : Addr} {od29 an29 : Option Addr} {sl29 : Array (Option Value)} {oc29 kV29 dc29 pm29 cd29 ct29 : Value}
    {f30 : Addr} {od30 an30 : Option Addr} {sl30 : Array (Option Value)} {oc30 kV30 dc30 pm30 cd30 ct30 : Value}
    {f31 : Addr} {od31 an31 : Option Addr} {sl31 : Array (Option Value)} {oc31 kV31 dc31 pm31 cd31 ct31 : Value}
    {f32 : Addr} {od32 an32 : Option Addr} {sl32 : Array (Option Value)} {oc32 kV32 dc32 pm32 cd32 ct32 : Value}
    {f33 : Addr} {od33 an33 : Option Addr} {sl33 : Array (Option Value)} {oc33 kV33 dc33 pm33 cd33 ct33 : Value}
    {f34 : Addr} {od34 an34 : Option Addr} {sl34 : Array (Option Value)} {oc34 kV34 dc34 pm34 cd34 ct34 : Value}
    {f35 : Addr} {od35 an35 : Option Addr} {sl35 : Array (Option Value)} {oc35 kV35 dc35 pm35 cd35 ct35 : Value}
    {f36 : Addr} {od36 an36 : Option Addr} {sl36 : Array (Option Value)} {oc36 kV36 dc36 pm36 cd36 ct36 : Value}
    {f37 : Addr} {od37 an37 : Option Addr} {sl37 : Array (Option Value)} {oc37 kV37 dc37 pm37 cd37 ct37 : Value}
    {f38 : Addr} {od38 an38 : Option Addr} {sl38 : Array (Option Value)} {oc38 kV38 dc38 pm38 cd38 ct38 : Value}
    (a0 : PySem.W.nsIn K mainGlobals "_wall" = some (some (.ref f0)))
    (l0 : K.lookup f0 = some ⟨oc0, od0, .func (PySem.W.fnOf "_wall" "_wall" (defArgs s_wall) (defBody s_wall)
      (defScope s_wall) .none kV0 dc0 pm0 an0 cd0 ct0), sl0⟩)
    (c0 : PySem.W.codeIn K cd0 "_wall" = true) (k0 : PySem.W.keepIn K (.ref f0) = true)
    (a1 : PySem.W.nsIn K mainGlobals "is_number" = some (some (.ref f1)))
    (l1 : K.lookup f1 = some ⟨oc1, od1, .func (PySem.W.fnOf "is_number" "is_number" (defArgs s_is_number) (defBody s_is_number)
      (defScope s_is_number) .none kV1 dc1 pm1 an1 cd1 ct1), sl1⟩)
    (c1 : PySem.W.codeIn K cd1 "is_number" = true) (k1 : PySem.W.keepIn K (.ref f1) = true)
    (a2 : PySem.W.nsIn K mainGlobals "is_whole" = some (some (.ref f2)))
    (l2 : K.lookup f2 = some ⟨oc2, od2, .func (PySem.W.fnOf "is_whole" "is_whole" (defArgs s_is_whole) (defBody s_is_whole)
      (defScope s_is_whole) .none kV2 dc2 pm2 an2 cd2 ct2), sl2⟩)
    (c2 : PySem.W.codeIn K cd2 "is_whole" = true) (k2 : PySem.W.keepIn K (.ref f2) = true)
    (a3 : PySem.W.nsIn K mainGlobals "is_size" = some (some (.ref f3)))
    (l3 : K.lookup f3 = some ⟨oc3, od3, .func (PySem.W.fnOf "is_size" "is_size" (defArgs s_is_size) (defBody s_is_size)
      (defScope s_is_size) .none kV3 dc3 pm3 an3 cd3 ct3), sl3⟩)
    (c3 : PySem.W.codeIn K cd3 "is_size" = true) (k3 : PySem.W.keepIn K (.ref f3) = true)
    (a4 : PySem.W.nsIn K mainGlobals "is_run" = some (some (.ref f4)))
    (l4 : K.lookup f4 = some ⟨oc4, od4, .func (PySem.W.fnOf "is_run" "is_run" (defArgs s_is_run) (defBody s_is_run)
      (defScope s_is_run) .none kV4 dc4 pm4 an4 cd4 ct4), sl4⟩)
    (c4 : PySem.W.codeIn K cd4 "is_run" = true) (k4 : PySem.W.keepIn K (.ref f4) = true)
    (a5 : PySem.W.nsIn K mainGlobals "are_runs" = some (some (.ref f5)))
    (l5 : K.lookup f5 = some ⟨oc5, od5, .func (PySem.W.fnOf "are_runs" "are_runs" (defArgs s_are_runs) (defBody s_are_runs)
      (defScope s_are_runs) .none kV5 dc5 pm5 an5 cd5 ct5), sl5⟩)
    (c5 : PySem.W.codeIn K cd5 "are_runs" = true) (k5 : PySem.W.keepIn K (.ref f5) = true)
    (a6 : PySem.W.nsIn K mainGlobals "joined" = some (some (.ref f6)))
    (l6 : K.lookup f6 = some ⟨oc6, od6, .func (PySem.W.fnOf "joined" "joined" (defArgs s_joined) (defBody s_joined)
      (defScope s_joined) .none kV6 dc6 pm6 an6 cd6 ct6), sl6⟩)
    (c6 : PySem.W.codeIn K cd6 "joined" = true) (k6 : PySem.W.keepIn K (.ref f6) = true)
    (a7 : PySem.W.nsIn K mainGlobals "cut_out" = some (some (.ref f7)))
    (l7 : K.lookup f7 = some ⟨oc7, od7, .func (PySem.W.fnOf "cut_out" "cut_out" (defArgs s_cut_out) (defBody s_cut_out)
      (defScope s_cut_out) .none kV7 dc7 pm7 an7 cd7 ct7), sl7⟩)
    (c7 : PySem.W.codeIn K cd7 "cut_out" = true) (k7 : PySem.W.keepIn K (.ref f7) = true)
    (a8 : PySem.W.nsIn K mainGlobals "want_size" = some (some (.ref f8)))
    (l8 : K.lookup f8 = some ⟨oc8, od8, .func (PySem.W.fnOf "want_size" "want_size" (defArgs s_want_size) (defBody s_want_size)
      (defScope s_want_size) .none kV8 dc8 pm8 an8 cd8 ct8), sl8⟩)
    (c8 : PySem.W.codeIn K cd8 "want_size" = true) (k8 : PySem.W.keepIn K (.ref f8) = true)
    (a9 : PySem.W.nsIn K mainGlobals "want_number" = some (some (.ref f9)))
    (l9 : K.lookup f9 = some ⟨oc9, od9, .func (PySem.W.fnOf "want_number" "want_number" (defArgs s_want_number) (defBody s_want_number)
      (defScope s_want_number) .none kV9 dc9 pm9 an9 cd9 ct9), sl9⟩)
    (c9 : PySem.W.codeIn K cd9 "want_number" = true) (k9 : PySem.W.keepIn K (.ref f9) = true)
    (a10 : PySem.W.nsIn K mainGlobals "want_cell" = some (some (.ref f10)))
    (l10 : K.lookup f10 = some ⟨oc10, od10, .func (PySem.W.fnOf "want_cell" "want_cell" (defArgs s_want_cell) (defBody s_want_cell)
      (defScope s_want_cell) .none kV10 dc10 pm10 an10 cd10 ct10), sl10⟩)
    (c10 : PySem.W.codeIn K cd10 "want_cell" = true) (k10 : PySem.W.keepIn K (.ref f10) = true)
    (a11 : PySem.W.findIn K (.ref C0) "__init__" = some (some (.ref f11))) (i11 : PySem.W.isFn K (.ref f11) = true)
    {D11 : Addr}
    (l11 : K.lookup f11 = some ⟨oc11, od11, .func (PySem.W.fnOf "__init__" "Memory.__init__" (defArgs s_Memory_init) (defBody s_Memory_init)
      (defScope s_Memory_init) .none (.ref D11) dc11 pm11 an11 cd11 ct11), sl11⟩)
    (c11 : PySem.W.codeIn K cd11 "Memory.__init__" = true) (k11 : PySem.W.keepIn K (.ref f11) = true)
    {tq11_0 : Tok} (q11_0 : PySem.W.nsIn K D11 "number" = some (some (.int 0 tq11_0)))
    (a12 : PySem.W.findIn K (.ref C0) "size" = some (some (.ref f12))) (i12 : PySem.W.isFn K (.ref f12) = true)
    (l12 : K.lookup f12 = some ⟨oc12, od12, .func (PySem.W.fnOf "size" "Memory.size" (defArgs s_Memory_size) (defBody s_Memory_size)
      (defScope s_Memory_size) .none kV12 dc12 pm12 an12 cd12 ct12), sl12⟩)
    (c12 : PySem.W.codeIn K cd12 "Memory.size" = true) (k12 : PySem.W.keepIn K (.ref f12) = true)
    (a13 : PySem.W.findIn K (.ref C0) "at" = some (some (.ref f13))) (i13 : PySem.W.isFn K (.ref f13) = true)
    (l13 : K.lookup f13 = some ⟨oc13, od13, .func (PySem.W.fnOf "at" "Memory.at" (defArgs s_Memory_at) (defBody s_Memory_at)
      (defScope s_Memory_at) .none kV13 dc13 pm13 an13 cd13 ct13), sl13⟩)
    (c13 : PySem.W.codeIn K cd13 "Memory.at" = true) (k13 : PySem.W.keepIn K (.ref f13) = true)
    (a14 : PySem.W.findIn K (.ref C0) "runs" = some (some (.ref f14))) (i14 : PySem.W.isFn K (.ref f14) = true)
    (l14 : K.lookup f14 = some ⟨oc14, od14, .func (PySem.W.fnOf "runs" "Memory.runs" (defArgs s_Memory_runs) (defBody s_Memory_runs)
      (defScope s_Memory_runs) .none kV14 dc14 pm14 an14 cd14 ct14), sl14⟩)
    (c14 : PySem.W.codeIn K cd14 "Memory.runs" = true) (k14 : PySem.W.keepIn K (.ref f14) = true)
    (a15 : PySem.W.findIn K (.ref C0) "lay" = some (some (.ref f15))) (i15 : PySem.W.isFn K (.ref f15) = true)
    (l15 : K.lookup f15 = some ⟨oc15, od15, .func (PySem.W.fnOf "lay" "Memory.lay" (defArgs s_Memory_lay) (defBody s_Memory_lay)
      (defScope s_Memory_lay) .none kV15 dc15 pm15 an15 cd15 ct15), sl15⟩)
    (c15 : PySem.W.codeIn K cd15 "Memory.lay" = true) (k15 : PySem.W.keepIn K (.ref f15) = true)
    (a16 : PySem.W.findIn K (.ref C0) "put" = some (some (.ref f16))) (i16 : PySem.W.isFn K (.ref f16) = true)
    (l16 : K.lookup f16 = some ⟨oc16, od16, .func (PySem.W.fnOf "put" "Memory.put" (defArgs s_Memory_put) (defBody s_Memory_put)
      (defScope s_Memory_put) .none kV16 dc16 pm16 an16 cd16 ct16), sl16⟩)
    (c16 : PySem.W.codeIn K cd16 "Memory.put" = true) (k16 : PySem.W.keepIn K (.ref f16) = true)
    (a17 : PySem.W.findIn K (.ref C0) "fill" = some (some (.ref f17))) (i17 : PySem.W.isFn K (.ref f17) = true)
    (l17 : K.lookup f17 = some ⟨oc17, od17, .func (PySem.W.fnOf "fill" "Memory.fill" (defArgs s_Memory_fill) (defBody s_Memory_fill)
      (defScope s_Memory_fill) .none kV17 dc17 pm17 an17 cd17 ct17), sl17⟩)
    (c17 : PySem.W.codeIn K cd17 "Memory.fill" = true) (k17 : PySem.W.keepIn K (.ref f17) = true)
    (a18 : PySem.W.findIn K (.ref C0) "bring" = some (some (.ref f18))) (i18 : PySem.W.isFn K (.ref f18) = true)
    {D18 : Addr}
    (l18 : K.lookup f18 = some ⟨oc18, od18, .func (PySem.W.fnOf "bring" "Memory.bring" (defArgs s_Memory_bring) (defBody s_Memory_bring)
      (defScope s_Memory_bring) .none (.ref D18) dc18 pm18 an18 cd18 ct18), sl18⟩)
    (c18 : PySem.W.codeIn K cd18 "Memory.bring" = true) (k18 : PySem.W.keepIn K (.ref f18) = true)
    (q18_0 : PySem.W.nsIn K D18 "source" = some (some .none))
    (a19 : PySem.W.findIn K (.ref C0) "copied" = some (some (.ref f19))) (i19 : PySem.W.isFn K (.ref f19) = true)
    (l19 : K.lookup f19 = some ⟨oc19, od19, .func (PySem.W.fnOf "copied" "Memory.copied" (defArgs s_Memory_copied) (defBody s_Memory_copied)
      (defScope s_Memory_copied) .none kV19 dc19 pm19 an19 cd19 ct19), sl19⟩)
    (c19 : PySem.W.codeIn K cd19 "Memory.copied" = true) (k19 : PySem.W.keepIn K (.ref f19) = true)
    (a20 : PySem.W.findIn K (.ref C0) "__eq__" = some (some (.ref f20))) (i20 : PySem.W.isFn K (.ref f20) = true)
    (l20 : K.lookup f20 = some ⟨oc20, od20, .func (PySem.W.fnOf "__eq__" "Memory.__eq__" (defArgs s_Memory_eq) (defBody s_Memory_eq)
      (defScope s_Memory_eq) .none kV20 dc20 pm20 an20 cd20 ct20), sl20⟩)
    (c20 : PySem.W.codeIn K cd20 "Memory.__eq__" = true) (k20 : PySem.W.keepIn K (.ref f20) = true)
    (a21 : PySem.W.findIn K (.ref C0) "__len__" = some (some (.ref f21))) (i21 : PySem.W.isFn K (.ref f21) = true)
    (l21 : K.lookup f21 = some ⟨oc21, od21, .func (PySem.W.fnOf "__len__" "Memory.__len__" (defArgs s_Memory_len) (defBody s_Memory_len)
      (defScope s_Memory_len) .none kV21 dc21 pm21 an21 cd21 ct21), sl21⟩)
    (c21 : PySem.W.codeIn K cd21 "Memory.__len__" = true) (k21 : PySem.W.keepIn K (.ref f21) = true)
    (a22 : PySem.W.findIn K (.ref C0) "__repr__" = some (some (.ref f22))) (i22 : PySem.W.isFn K (.ref f22) = true)
    (l22 : K.lookup f22 = some ⟨oc22, od22, .func (PySem.W.fnOf "__repr__" "Memory.__repr__" (defArgs s_Memory_repr) (defBody s_Memory_repr)
      (defScope s_Memory_repr) .none kV22 dc22 pm22 an22 cd22 ct22), sl22⟩)
    (c22 : PySem.W.codeIn K cd22 "Memory.__repr__" = true) (k22 : PySem.W.keepIn K (.ref f22) = true)
    (a23 : PySem.W.nsIn K mainGlobals "memory_of" = some (some (.ref f23)))
    (l23 : K.lookup f23 = some ⟨oc23, od23, .func (PySem.W.fnOf "memory_of" "memory_of" (defArgs s_memory_of) (defBody s_memory_of)
      (defScope s_memory_of) .none kV23 dc23 pm23 an23 cd23 ct23), sl23⟩)
    (c23 : PySem.W.codeIn K cd23 "memory_of" = true) (k23 : PySem.W.keepIn K (.ref f23) = true)
    (a24 : PySem.W.nsIn K mainGlobals "_law_pot" = some (some (.ref f24)))
    (l24 : K.lookup f24 = some ⟨oc24, od24, .func (PySem.W.fnOf "_law_pot" "_law_pot" (defArgs s_law_pot) (defBody s_law_pot)
      (defScope s_law_pot) .none kV24 dc24 pm24 an24 cd24 ct24), sl24⟩)
    (c24 : PySem.W.codeIn K cd24 "_law_pot" = true) (k24 : PySem.W.keepIn K (.ref f24) = true)
    (a25 : PySem.W.nsIn K mainGlobals "_law_draw" = some (some (.ref f25)))
    (l25 : K.lookup f25 = some ⟨oc25, od25, .func (PySem.W.fnOf "_law_draw" "_law_draw" (defArgs s_law_draw) (defBody s_law_draw)
      (defScope s_law_draw) .none kV25 dc25 pm25 an25 cd25 ct25), sl25⟩)
    (c25 : PySem.W.codeIn K cd25 "_law_draw" = true) (k25 : PySem.W.keepIn K (.ref f25) = true)
    (a26 : PySem.W.nsIn K mainGlobals "_law_size" = some (some (.ref f26)))
    (l26 : K.lookup f26 = some ⟨oc26, od26, .func (PySem.W.fnOf "_law_size" "_law_size" (defArgs s_law_size) (defBody s_law_size)
      (defScope s_law_size) .none kV26 dc26 pm26 an26 cd26 ct26), sl26⟩)
    (c26 : PySem.W.codeIn K cd26 "_law_size" = true) (k26 : PySem.W.keepIn K (.ref f26) = true)
    (a27 : PySem.W.nsIn K mainGlobals "_law_value" = some (some (.ref f27)))
    (l27 : K.lookup f27 = some ⟨oc27, od27, .func (PySem.W.fnOf "_law_value" "_law_value" (defArgs s_law_value) (defBody s_law_value)
      (defScope s_law_value) .none kV27 dc27 pm27 an27 cd27 ct27), sl27⟩)
    (c27 : PySem.W.codeIn K cd27 "_law_value" = true) (k27 : PySem.W.keepIn K (.ref f27) = true)
    (a28 : PySem.W.nsIn K mainGlobals "_law_thing" = some (some (.ref f28)))
    (l28 : K.lookup f28 = some ⟨oc28, od28, .func (PySem.W.fnOf "_law_thing" "_law_thing" (defArgs s_law_thing) (defBody s_law_thing)
      (defScope s_law_thing) .none kV28 dc28 pm28 an28 cd28 ct28), sl28⟩)
    (c28 : PySem.W.codeIn K cd28 "_law_thing" = true) (k28 : PySem.W.keepIn K (.ref f28) = true)
    (a29 : PySem.W.nsIn K mainGlobals "_law_is_whole" = some (some (.ref f29)))
    (l29 : K.lookup f29 = some ⟨oc29, od29, .func (PySem.W.fnOf "_law_is_whole" "_law_is_whole" (defArgs s_law_is_whole) (defBody s_law_is_whole)
      (defScope s_law_is_whole) .none kV29 dc29 pm29 an29 cd29 ct29), sl29⟩)
    (c29 : PySem.W.codeIn K cd29 "_law_is_whole" = true) (k29 : PySem.W.keepIn K (.ref f29) = true)
    (a30 : PySem.W.nsIn K mainGlobals "_law_pairs" = some (some (.ref f30)))
    (l30 : K.lookup f30 = some ⟨oc30, od30, .func (PySem.W.fnOf "_law_pairs" "_law_pairs" (defArgs s_law_pairs) (defBody s_law_pairs)
      (defScope s_law_pairs) .none kV30 dc30 pm30 an30 cd30 ct30), sl30⟩)
    (c30 : PySem.W.codeIn K cd30 "_law_pairs" = true) (k30 : PySem.W.keepIn K (.ref f30) = true)
    (a31 : PySem.W.nsIn K mainGlobals "_law_odd_pair" = some (some (.ref f31)))
    (l31 : K.lookup f31 = some ⟨oc31, od31, .func (PySem.W.fnOf "_law_odd_pair" "_law_odd_pair" (defArgs s_law_odd_pair) (defBody s_law_odd_pair)
      (defScope s_law_odd_pair) .none kV31 dc31 pm31 an31 cd31 ct31), sl31⟩)
    (c31 : PySem.W.codeIn K cd31 "_law_odd_pair" = true) (k31 : PySem.W.keepIn K (.ref f31) = true)
    (a32 : PySem.W.nsIn K mainGlobals "_law_spoilt" = some (some (.ref f32)))
    (l32 : K.lookup f32 = some ⟨oc32, od32, .func (PySem.W.fnOf "_law_spoilt" "_law_spoilt" (defArgs s_law_spoilt) (defBody s_law_spoilt)
      (defScope s_law_spoilt) .none kV32 dc32 pm32 an32 cd32 ct32), sl32⟩)
    (c32 : PySem.W.codeIn K cd32 "_law_spoilt" = true) (k32 : PySem.W.keepIn K (.ref f32) = true)
    (a33 : PySem.W.nsIn K mainGlobals "_law_are_due" = some (some (.ref f33)))
    (l33 : K.lookup f33 = some ⟨oc33, od33, .func (PySem.W.fnOf "_law_are_due" "_law_are_due" (defArgs s_law_are_due) (defBody s_law_are_due)
      (defScope s_law_are_due) .none kV33 dc33 pm33 an33 cd33 ct33), sl33⟩)
    (c33 : PySem.W.codeIn K cd33 "_law_are_due" = true) (k33 : PySem.W.keepIn K (.ref f33) = true)
    (a34 : PySem.W.nsIn K mainGlobals "_law_is" = some (some (.ref f34)))
    (l34 : K.lookup f34 = some ⟨oc34, od34, .func (PySem.W.fnOf "_law_is" "_law_is" (defArgs s_law_is) (defBody s_law_is)
      (defScope s_law_is) .none kV34 dc34 pm34 an34 cd34 ct34), sl34⟩)
    (c34 : PySem.W.codeIn K cd34 "_law_is" = true) (k34 : PySem.W.keepIn K (.ref f34) = true)
    (a35 : PySem.W.nsIn K mainGlobals "_law_made" = some (some (.ref f35)))
    (l35 : K.lookup f35 = some ⟨oc35, od35, .func (PySem.W.fnOf "_law_made" "_law_made" (defArgs s_law_made) (defBody s_law_made)
      (defScope s_law_made) .none kV35 dc35 pm35 an35 cd35 ct35), sl35⟩)
    (c35 : PySem.W.codeIn K cd35 "_law_made" = true) (k35 : PySem.W.keepIn K (.ref f35) = true)
    (a36 : PySem.W.nsIn K mainGlobals "_law_of_any_size" = some (some (.ref f36)))
    (l36 : K.lookup f36 = some ⟨oc36, od36, .func (PySem.W.fnOf "_law_of_any_size" "_law_of_any_size" (defArgs s_law_of_any_size) (defBody s_law_of_any_size)
      (defScope s_law_of_any_size) .none kV36 dc36 pm36 an36 cd36 ct36), sl36⟩)
    (c36 : PySem.W.codeIn K cd36 "_law_of_any_size" = true) (k36 : PySem.W.keepIn K (.ref f36) = true)
    (a37 : PySem.W.nsIn K mainGlobals "_law_right" = some (some (.ref f37)))
    (l37 : K.lookup f37 = some ⟨oc37, od37, .func (PySem.W.fnOf "_law_right" "_law_right" (defArgs s_law_right) (defBody s_law_right)
      (defScope s_law_right) .none kV37 dc37 pm37 an37 cd37 ct37), sl37⟩)
    (c37 : PySem.W.codeIn K cd37 "_law_right" = true) (k37 : PySem.W.keepIn K (.ref f37) = true)
    (a38 : PySem.W.nsIn K mainGlobals "law" = some (some (.ref f38)))
    (l38 : K.lookup f38 = some ⟨oc38, od38, .func (PySem.W.fnOf "law" "law" (defArgs s_law) (defBody s_law)
      (defScope s_law) .none kV38 dc38 pm38 an38 cd38 ct38), sl38⟩)
    (c38 : PySem.W.codeIn K cd38 "law" = true) (k38 : PySem.W.keepIn K (.ref f38) = true)
    (pg0 : PySem.W.plainGet K C0 Str.empty = true) (hd0 : PySem.W.hasDictIn K C0 = true)
    (po0 : PySem.W.plainOver K C0 = true) (sa0 : PySem.W.findIn K (.ref C0) "__setattr__" = some (some (.builtin "object.__setattr__")))
    (mk0 : PySem.W.makesIn K C0 = true) (kc0 : PySem.W.keepIn K (.ref C0) = true)
    (na0_pairs : PySem.W.findIn K (.ref C0) "pairs" = some none)
    (na0_wide : PySem.W.findIn K (.ref C0) "wide" = some none)
    (qn : PySem.W.specialIn K (.builtin "object.__class__") "__get__" = some (some (.builtin "getset_descriptor.__get__"))) (qt : PySem.W.takesIn K (.builtin "object.__class__") = some true)
    (qa0 : PySem.W.findIn K (.ref X0) "__getattribute__" = some (some (.builtin "BaseException.__getattribute__"))) (qb0 : PySem.W.findIn K (.ref X0) "__getattr__" = some none)
    (qc0 : PySem.W.subIn K (.ref X0) (.type "BaseException") = some true) (qd0 : PySem.W.hasDictIn K X0 = true) (qe0 : PySem.W.findIn K (.ref X0) "__class__" = some (some (.builtin "object.__class__")))
    (qf0 : PySem.W.mroIn K X0 (.type "object") = some true) (qg0 : PySem.W.typeIn K (.ref X0) = some (.type "type"))
    (qa1 : PySem.W.findIn K (.ref X1) "__getattribute__" = some (some (.builtin "BaseException.__getattribute__"))) (qb1 : PySem.W.findIn K (.ref X1) "__getattr__" = some none)
    (qc1 : PySem.W.subIn K (.ref X1) (.type "BaseException") = some true) (qd1 : PySem.W.hasDictIn K X1 = true) (qe1 : PySem.W.findIn K (.ref X1) "__class__" = some (some (.builtin "object.__class__")))
    (qf1 : PySem.W.mroIn K X1 (.type "object") = some true) (qg1 : PySem.W.typeIn K (.ref X1) = some (.type "type"))
    (qk1 : PySem.W.keepIn K (.ref X1) = true)
    (qx1 : PySem.W.excIn K X1 [.type "ValueError", .type "Exception", .type "BaseException", .type "object"] "ValueError.__new__" = true)
    (qs1_0 : PySem.W.subIn K (.ref X1) (.ref X0) = some true)
    (qs1_1 : PySem.W.subIn K (.ref X1) (.ref X1) = some true)
    (on : PySem.W.specialIn K (.builtin "object.__class__") "__get__" = some (some (.builtin "getset_descriptor.__get__"))) (ot : PySem.W.takesIn K (.builtin "object.__class__") = some true)
    (oa0 : PySem.W.findIn K (.ref C0) "__class__" = some (some (.builtin "object.__class__"))) (om0 : PySem.W.mroIn K C0 (.type "object") = some true)
    (oc0_ : PySem.W.isClsIn K C0 = true) (oy0 : PySem.W.typeIn K (.ref C0) = some (.type "type"))
    (nn0 : PySem.W.findIn K (.ref C0) "__ne__" = some (some (.builtin "object.__ne__")))
    {t_LARGEST : Tok} (g_LARGEST : PySem.W.nsIn K mainGlobals "LARGEST" = some (some (.int 1000000000000000000 t_LARGEST)))
    (z_ValueError : PySem.W.nsIn K mainGlobals "ValueError" = some none)
    (z_abs : PySem.W.nsIn K mainGlobals "abs" = some none)
    (z_all : PySem.W.nsIn K mainGlobals "all" = some none)
    (z_any : PySem.W.nsIn K mainGlobals "any" = some none)
    (z_bool : PySem.W.nsIn K mainGlobals "bool" = some none)
    (z_divmod : PySem.W.nsIn K mainGlobals "divmod" = some none)
    (z_int : PySem.W.nsIn K mainGlobals "int" = some none)
    (z_isinstance : PySem.W.nsIn K mainGlobals "isinstance" = some none)
    (z_len : PySem.W.nsIn K mainGlobals "len" = some none)
    (z_list : PySem.W.nsIn K mainGlobals "list" = some none)
    (z_max : PySem.W.nsIn K mainGlobals "max" = some none)
    (z_min : PySem.W.nsIn K mainGlobals "min" = some none)
    (z_range : PySem.W.nsIn K mainGlobals "range" = some none)
    (z_repr : PySem.W.nsIn K mainGlobals "repr" = some none)
    (z_sum : PySem.W.nsIn K mainGlobals "sum" = some none)
    (z_tuple : PySem.W.nsIn K mainGlobals "tuple" = some none)
    (z_zip : PySem.W.nsIn K mainGlobals "zip" = some none)
    : ∃ fd : FuncData, (∀ (s : Shared) (v : Value), BindsTo s fd ⟨[v], []⟩ [("_law_script", v)]) ∧
      ∀ base : Heap, K.In base → base.Ns mainGlobals mg →
        FnG l.prog w K mg base 10 fa fd ["_law_script"] (sp_law K) := by
  have e := hfa.symm.trans (PySem.W.mg_of X N a38)
  cases e
  have F0 := fund0 (st := s_wall) l0 c0 k0
  have b0 := bindN (ps := ["k"]) F0 fun _ _ _ _ _ _ us hl => match us, hl with | [_], _ => rfl
  have F1 := fund0 (st := s_is_number) l1 c1 k1
  have b1 := bindN (ps := ["thing"]) F1 fun _ _ _ _ _ _ us hl => match us, hl with | [_], _ => rfl
  have F2 := fund0 (st := s_is_whole) l2 c2 k2
  have b2 := bindN (ps := ["thing", "least", "most"]) F2 fun _ _ _ _ _ _ us hl => match us, hl with | [_, _, _], _ => rfl
  have F3 := fund0 (st := s_is_size) l3 c3 k3
  have b3 := bindN (ps := ["thing"]) F3 fun _ _ _ _ _ _ us hl => match us, hl with | [_], _ => rfl
  have F4 := fund0 (st := s_is_run) l4 c4 k4
  have b4 := bindN (ps := ["thing"]) F4 fun _ _ _ _ _ _ us hl => match us, hl with | [_], _ => rfl
  have F5 := fund0 (st := s_are_runs) l5 c5 k5
  have b5 := bindN (ps := ["thing", "size"]) F5 fun _ _ _ _ _ _ us hl => match us, hl with | [_, _], _ => rfl
  have F6 := fund0 (st := s_joined) l6 c6 k6
  have b6 := bindN (ps := ["pairs"]) F6 fun _ _ _ _ _ _ us hl => match us, hl with | [_], _ => rfl
  have F7 := fund0 (st := s_cut_out) l7 c7 k7
  have b7 := bindN (ps := ["pairs", "begin", "end"]) F7 fun _ _ _ _ _ _ us hl => match us, hl with | [_, _, _], _ => rfl
  have F8 := fund0 (st := s_want_size) l8 c8 k8
  have b8 := bindN (ps := ["thing"]) F8 fun _ _ _ _ _ _ us hl => match us, hl with | [_], _ => rfl
  have F9 := fund0 (st := s_want_number) l9 c9 k9
  have b9 := bindN (ps := ["thing"]) F9 fun _ _ _ _ _ _ us hl => match us, hl with | [_], _ => rfl
  have F10 := fund0 (st := s_want_cell) l10 c10 k10
  have b10 := bindN (ps := ["thing", "size"]) F10 fun _ _ _ _ _ _ us hl => match us, hl with | [_, _], _ => rfl
  have F11 := fund1 (st := s_Memory_init) (kws := ([("number", V.int 0)] : List (Str × V))) l11 c11 k11 (kw_more q11_0 ⟨_, rfl⟩ (fun q hq => nomatch hq))
  have b11 := bindK (ps := ["self", "size", "number"]) F11 2 (by simp) rfl fun _ _ _ _ _ _ us ks h1 h2 => match us, ks, h1, h2 with | [_, _], [_], _, _ => ⟨_, _, _, _, _, _, rfl, rfl, rfl⟩
  have F12 := fund0 (st := s_Memory_size) l12 c12 k12
  have b12 := bindN (ps := ["self"]) F12 fun _ _ _ _ _ _ us hl => match us, hl with | [_], _ => rfl
  have F13 := fund0 (st := s_Memory_at) l13 c13 k13
  have b13 := bindN (ps := ["self", "cell"]) F13 fun _ _ _ _ _ _ us hl => match us, hl with | [_, _], _ => rfl
  have F14 := fund0 (st := s_Memory_runs) l14 c14 k14
  have b14 := bindN (ps := ["self"]) F14 fun _ _ _ _ _ _ us hl => match us, hl with | [_], _ => rfl
  have F15 := fund0 (st := s_Memory_lay) l15 c15 k15
  have b15 := bindN (ps := ["self", "begin", "pairs", "end"]) F15 fun _ _ _ _ _ _ us hl => match us, hl with | [_, _, _, _], _ => rfl
  have F16 := fund0 (st := s_Memory_put) l16 c16 k16
  have b16 := bindN (ps := ["self", "cell", "number"]) F16 fun _ _ _ _ _ _ us hl => match us, hl with | [_, _, _], _ => rfl
  have F17 := fund0 (st := s_Memory_fill) l17 c17 k17
  have b17 := bindN (ps := ["self", "begin", "end", "number"]) F17 fun _ _ _ _ _ _ us hl => match us, hl with | [_, _, _, _], _ => rfl
  have F18 := fund1 (st := s_Memory_bring) (kws := ([("source", V.non)] : List (Str × V))) l18 c18 k18 (kw_more q18_0 rfl (fun q hq => nomatch hq))
  have b18 := bindK (ps := ["self", "begin", "end", "to", "source"]) F18 4 (by simp) rfl fun _ _ _ _ _ _ us ks h1 h2 => match us, ks, h1, h2 with | [_, _, _, _], [_], _, _ => ⟨_, _, _, _, _, _, rfl, rfl, rfl⟩
  have F19 := fund0 (st := s_Memory_copied) l19 c19 k19
  have b19 := bindN (ps := ["self"]) F19 fun _ _ _ _ _ _ us hl => match us, hl with | [_], _ => rfl
  have F20 := fund0 (st := s_Memory_eq) l20 c20 k20
  have b20 := bindN (ps := ["self", "other"]) F20 fun _ _ _ _ _ _ us hl => match us, hl with | [_, _], _ => rfl
  have F21 := fund0 (st := s_Memory_len) l21 c21 k21
  have b21 := bindN (ps := ["self"]) F21 fun _ _ _ _ _ _ us hl => match us, hl with | [_], _ => rfl
  have F22 := fund0 (st := s_Memory_repr) l22 c22 k22
  have b22 := bindN (ps := ["self"]) F22 fun _ _ _ _ _ _ us hl => match us, hl with | [_], _ => rfl
  have F23 := fund0 (st := s_memory_of) l23 c23 k23
  have b23 := bindN (ps := ["runs"]) F23 fun _ _ _ _ _ _ us hl => match us, hl with | [_], _ => rfl
  have F24 := fund0 (st := s_law_pot) l24 c24 k24
  have b24 := bindN (ps := ["_law_script", "_law_k"]) F24 fun _ _ _ _ _ _ us hl => match us, hl with | [_, _], _ => rfl
  have F25 := fund0 (st := s_law_draw) l25 c25 k25
  have b25 := bindN (ps := ["_law_pot_here", "_law_many"]) F25 fun _ _ _ _ _ _ us hl => match us, hl with | [_, _], _ => rfl
  have F26 := fund0 (st := s_law_size) l26 c26 k26
  have b26 := bindN (ps := ["_law_pot_here"]) F26 fun _ _ _ _ _ _ us hl => match us, hl with | [_], _ => rfl
  have F27 := fund0 (st := s_law_value) l27 c27 k27
  have b27 := bindN (ps := ["_law_pot_here"]) F27 fun _ _ _ _ _ _ us hl => match us, hl with | [_], _ => rfl
  have F28 := fund0 (st := s_law_thing) l28 c28 k28
  have b28 := bindN (ps := ["_law_pot_here"]) F28 fun _ _ _ _ _ _ us hl => match us, hl with | [_], _ => rfl
  have F29 := fund0 (st := s_law_is_whole) l29 c29 k29
  have b29 := bindN (ps := ["_law_thing_here", "_law_least", "_law_most"]) F29 fun _ _ _ _ _ _ us hl => match us, hl with | [_, _, _], _ => rfl
  have F30 := fund0 (st := s_law_pairs) l30 c30 k30
  have b30 := bindN (ps := ["_law_pot_here", "_law_wide"]) F30 fun _ _ _ _ _ _ us hl => match us, hl with | [_, _], _ => rfl
  have F31 := fund0 (st := s_law_odd_pair) l31 c31 k31
  have b31 := bindN (ps := ["_law_pot_here", "_law_pair", "_law_ahead"]) F31 fun _ _ _ _ _ _ us hl => match us, hl with | [_, _, _], _ => rfl
  have F32 := fund0 (st := s_law_spoilt) l32 c32 k32
  have b32 := bindN (ps := ["_law_pot_here", "_law_pairs_here"]) F32 fun _ _ _ _ _ _ us hl => match us, hl with | [_, _], _ => rfl
  have F33 := fund0 (st := s_law_are_due) l33 c33 k33
  have b33 := bindN (ps := ["_law_thing_here", "_law_wide"]) F33 fun _ _ _ _ _ _ us hl => match us, hl with | [_, _], _ => rfl
  have F34 := fund0 (st := s_law_is) l34 c34 k34
  have b34 := bindN (ps := ["_law_told", "_law_due"]) F34 fun _ _ _ _ _ _ us hl => match us, hl with | [_, _], _ => rfl
  have F35 := fund0 (st := s_law_made) l35 c35 k35
  have b35 := bindN (ps := ["_law_thing_here"]) F35 fun _ _ _ _ _ _ us hl => match us, hl with | [_], _ => rfl
  have F36 := fund0 (st := s_law_of_any_size) l36 c36 k36
  have b36 := bindN (ps := ["_law_thing_here"]) F36 fun _ _ _ _ _ _ us hl => match us, hl with | [_], _ => rfl
  have F37 := fund0 (st := s_law_right) l37 c37 k37
  have b37 := bindN (ps := ["_law_pot_here"]) F37 fun _ _ _ _ _ _ us hl => match us, hl with | [_], _ => rfl
  have F38 := fund0 (st := s_law) l38 c38 k38
  have b38 := bindN (ps := ["_law_script"]) F38 fun _ _ _ _ _ _ us hl => match us, hl with | [_], _ => rfl
  let T : Txt K mg := {
    c_Memory := C0, cl_Memory := ⟨pg0, hd0, po0, sa0⟩, mg_Memory := PySem.W.mg_of X N ac0
    na_Memory_pairs := na0_pairs
    na_Memory_wide := na0_wide
    ic_Memory := ⟨⟨pg0, hd0, po0, sa0⟩, oa0, on, ot, om0, kit_me⟩
    ot_Memory := by
      intro n hn
      simp only [tyNames, List.mem_cons, List.not_mem_nil, or_false] at hn
      rcases hn with rfl | rfl | rfl | rfl | rfl | rfl | rfl
      · exact kit_other oc0_ oy0 (by kernel_rfl)
      · exact kit_other oc0_ oy0 (by kernel_rfl)
      · exact kit_other oc0_ oy0 (by kernel_rfl)
      · exact kit_other oc0_ oy0 (by kernel_rfl)
      · exact kit_other oc0_ oy0 (by kernel_rfl)
      · exact kit_other oc0_ oy0 (by kernel_rfl)
      · exact kit_other oc0_ oy0 (by kernel_rfl)
    ne_Memory := nn0
    x_ForkError := X0, mx_ForkError := PySem.W.mg_of X N xm0, ec_ForkError := ⟨qa0, qb0, qc0, qd0, qe0, qn, qt, qf0⟩, et_ForkError := qg0
    x_NoRuns := X1, mx_NoRuns := PySem.W.mg_of X N xm1, ec_NoRuns := ⟨qa1, qb1, qc1, qd1, qe1, qn, qt, qf1⟩, et_NoRuns := qg1
    ek_NoRuns := qk1
    en_NoRuns := qx1
    is_NoRuns_ForkError := qs1_0
    is_NoRuns_NoRuns := qs1_1
    a_wall := _, d_wall := _, F_wall := F0, b_wall := b0, m_wall := PySem.W.mg_of X N a0
    a_is_number := _, d_is_number := _, F_is_number := F1, b_is_number := b1, m_is_number := PySem.W.mg_of X N a1
    a_is_whole := _, d_is_whole := _, F_is_whole := F2, b_is_whole := b2, m_is_whole := PySem.W.mg_of X N a2
    a_is_size := _, d_is_size := _, F_is_size := F3, b_is_size := b3, m_is_size := PySem.W.mg_of X N a3
    a_is_run := _, d_is_run := _, F_is_run := F4, b_is_run := b4, m_is_run := PySem.W.mg_of X N a4
    a_are_runs := _, d_are_runs := _, F_are_runs := F5, b_are_runs := b5, m_are_runs := PySem.W.mg_of X N a5
    a_joined := _, d_joined := _, F_joined := F6, b_joined := b6, m_joined := PySem.W.mg_of X N a6
    a_cut_out := _, d_cut_out := _, F_cut_out := F7, b_cut_out := b7, m_cut_out := PySem.W.mg_of X N a7
    a_want_size := _, d_want_size := _, F_want_size := F8, b_want_size := b8, m_want_size := PySem.W.mg_of X N a8
    a_want_number := _, d_want_number := _, F_want_number := F9, b_want_number := b9, m_want_number := PySem.W.mg_of X N a9
    a_want_cell := _, d_want_cell := _, F_want_cell := F10, b_want_cell := b10, m_want_cell := PySem.W.mg_of X N a10
    a_Memory_init := _, d_Memory_init := _, F_Memory_init := F11, b_Memory_init := b11, mk_Memory := ⟨mk0, a11, i11, kc0⟩
    a_Memory_size := _, d_Memory_size := _, F_Memory_size := F12, b_Memory_size := b12, me_Memory_size := ⟨a12, i12, k12⟩
    a_Memory_at := _, d_Memory_at := _, F_Memory_at := F13, b_Memory_at := b13, me_Memory_at := ⟨a13, i13, k13⟩
    a_Memory_runs := _, d_Memory_runs := _, F_Memory_runs := F14, b_Memory_runs := b14, me_Memory_runs := ⟨a14, i14, k14⟩
    a_Memory_lay := _, d_Memory_lay := _, F_Memory_lay := F15, b_Memory_lay := b15, me_Memory_lay := ⟨a15, i15, k15⟩
    a_Memory_put := _, d_Memory_put := _, F_Memory_put := F16, b_Memory_put := b16, me_Memory_put := ⟨a16, i16, k16⟩
    a_Memory_fill := _, d_Memory_fill := _, F_Memory_fill := F17, b_Memory_fill := b17, me_Memory_fill := ⟨a17, i17, k17⟩
    a_Memory_bring := _, d_Memory_bring := _, F_Memory_bring := F18, b_Memory_bring := b18, me_Memory_bring := ⟨a18, i18, k18⟩
    a_Memory_copied := _, d_Memory_copied := _, F_Memory_copied := F19, b_Memory_copied := b19, me_Memory_copied := ⟨a19, i19, k19⟩
    a_Memory_eq := _, d_Memory_eq := _, F_Memory_eq := F20, b_Memory_eq := b20, me_Memory_eq := ⟨a20, i20, k20⟩
    a_Memory_len := _, d_Memory_len := _, F_Memory_len := F21, b_Memory_len := b21, me_Memory_len := ⟨a21, i21, k21⟩
    a_Memory_repr := _, d_Memory_repr := _, F_Memory_repr := F22, b_Memory_repr := b22, me_Memory_repr := ⟨a22, i22, k22⟩
    a_memory_of := _, d_memory_of := _, F_memory_of := F23, b_memory_of := b23, m_memory_of := PySem.W.mg_of X N a23
    a_law_pot := _, d_law_pot := _, F_law_pot := F24, b_law_pot := b24, m_law_pot := PySem.W.mg_of X N a24
    a_law_draw := _, d_law_draw := _, F_law_draw := F25, b_law_draw := b25, m_law_draw := PySem.W.mg_of X N a25
    a_law_size := _, d_law_size := _, F_law_size := F26, b_law_size := b26, m_law_size := PySem.W.mg_of X N a26
    a_law_value := _, d_law_value := _, F_law_value := F27, b_law_value := b27, m_law_value := PySem.W.mg_of X N a27
    a_law_thing := _, d_law_thing := _, F_law_thing := F28, b_law_thing := b28, m_law_thing := PySem.W.mg_of X N a28
    a_law_is_whole := _, d_law_is_whole := _, F_law_is_whole := F29, b_law_is_whole := b29, m_law_is_whole := PySem.W.mg_of X N a29
    a_law_pairs := _, d_law_pairs := _, F_law_pairs := F30, b_law_pairs := b30, m_law_pairs := PySem.W.mg_of X N a30
    a_law_odd_pair := _, d_law_odd_pair := _, F_law_odd_pair := F31, b_law_odd_pair := b31, m_law_odd_pair := PySem.W.mg_of X N a31
    a_law_spoilt := _, d_law_spoilt := _, F_law_spoilt := F32, b_law_spoilt := b32, m_law_spoilt := PySem.W.mg_of X N a32
    a_law_are_due := _, d_law_are_due := _, F_law_are_due := F33, b_law_are_due := b33, m_law_are_due := PySem.W.mg_of X N a33
    a_law_is := _, d_law_is := _, F_law_is := F34, b_law_is := b34, m_law_is := PySem.W.mg_of X N a34
    a_law_made := _, d_law_made := _, F_law_made := F35, b_law_made := b35, m_law_made := PySem.W.mg_of X N a35
    a_law_of_any_size := _, d_law_of_any_size := _, F_law_of_any_size := F36, b_law_of_any_size := b36, m_law_of_any_size := PySem.W.mg_of X N a36
    a_law_right := _, d_law_right := _, F_law_right := F37, b_law_right := b37, m_law_right := PySem.W.mg_of X N a37
    a_law := _, d_law := _, F_law := F38, b_law := b38, m_law := PySem.W.mg_of X N a38
    t_LARGEST := _, g_LARGEST := PySem.W.mg_of X N g_LARGEST
    n_ValueError := PySem.W.mg_none_of X N z_ValueError
    n_abs := PySem.W.mg_none_of X N z_abs
    n_all := PySem.W.mg_none_of X N z_all
    n_any := PySem.W.mg_none_of X N z_any
    n_bool := PySem.W.mg_none_of X N z_bool
    n_divmod := PySem.W.mg_none_of X N z_divmod
    n_int := PySem.W.mg_none_of X N z_int
    n_isinstance := PySem.W.mg_none_of X N z_isinstance
    n_len := PySem.W.mg_none_of X N z_len
    n_list := PySem.W.mg_none_of X N z_list
    n_max := PySem.W.mg_none_of X N z_max
    n_min := PySem.W.mg_none_of X N z_min
    n_range := PySem.W.mg_none_of X N z_range
    n_repr := PySem.W.mg_none_of X N z_repr
    n_sum := PySem.W.mg_none_of X N z_sum
    n_tuple := PySem.W.mg_none_of X N z_tuple
    n_zip := PySem.W.mg_none_of X N z_zip
  }
  refine ⟨_, fun s v => .of_eq rfl, fun base _ _ => ok_law T⟩
end My
open PySem PySem.W PyProof.Rows in
set_option maxRecDepth 100000 in
set_option maxHeartbeats 0 in
theorem PySem.Challenge.cw_forkthrift_k11_sizes_numbers_runs_holds : PySem.Challenge.rw_forkthrift_k11_sizes_numbers_runs.Holds := by
  w_on; o_law; k_head; (case hw => w_witness2)
  k_fill
  refine G.walkG (l := PySem.Challenge.rw_forkthrift_k11_sizes_numbers_runs) (sp := My.sp_law) (x := "_law_script") (n := 63) (k := 10) rfl (by decide) rfl ⟨rfl, by decide, by decide⟩ (fun w h Y => PySem.W.kIn_of Y) ?F ?S
  case S => exact fun K H a ns hl hb ho hs => My.law_end hl hb ho hs
  case F =>
    intro w mg fa h KX N hmg
    refine' My.all_mk KX N hmg ?ac0 ?xm0 ?xm1 ?a0 ?l0 ?c0 ?k0 ?a1 ?l1 ?c1 ?k1 ?a2 ?l2 ?c2 ?k2 ?a3 ?l3 ?c3 ?k3 ?a4 ?l4 ?c4 ?k4 ?a5 ?l5 ?c5 ?k5 ?a6 ?l6 ?c6 ?k6 ?a7 ?l7 ?c7 ?k7 ?a8 ?l8 ?c8 ?k8 ?a9 ?l9 ?c9 ?k9 ?a10 ?l10 ?c10 ?k10 ?a11 ?i11 ?l11 ?c11 ?k11 ?q11_0 ?a12 ?i12 ?l12 ?c12 ?k12 ?a13 ?i13 ?l13 ?c13 ?k13 ?a14 ?i14 ?l14 ?c14 ?k14 ?a15 ?i15 ?l15 ?c15 ?k15 ?a16 ?i16 ?l16 ?c16 ?k16 ?a17 ?i17 ?l17 ?c17 ?k17 ?a18 ?i18 ?l18 ?c18 ?k18 ?q18_0 ?a19 ?i19 ?l19 ?c19 ?k19 ?a20 ?i20 ?l20 ?c20 ?k20 ?a21 ?i21 ?l21 ?c21 ?k21 ?a22 ?i22 ?l22 ?c22 ?k22 ?a23 ?l23 ?c23 ?k23 ?a24 ?l24 ?c24 ?k24 ?a25 ?l25 ?c25 ?k25 ?a26 ?l26 ?c26 ?k26 ?a27 ?l27 ?c27 ?k27 ?a28 ?l28 ?c28 ?k28 ?a29 ?l29 ?c29 ?k29 ?a30 ?l30 ?c30 ?k30 ?a31 ?l31 ?c31 ?k31 ?a32 ?l32 ?c32 ?k32 ?a33 ?l33 ?c33 ?k33 ?a34 ?l34 ?c34 ?k34 ?a35 ?l35 ?c35 ?k35 ?a36 ?l36 ?c36 ?k36 ?a37 ?l37 ?c37 ?k37 ?a38 ?l38 ?c38 ?k38 ?pg0 ?hd0 ?po0 ?sa0 ?mk0 ?kc0 ?na0_pairs ?na0_wide ?qn ?qt ?qa0 ?qb0 ?qc0 ?qd0 ?qe0 ?qf0 ?qg0 ?qa1 ?qb1 ?qc1 ?qd1 ?qe1 ?qf1 ?qg1 ?qk1 ?qx1 ?qs1_0 ?qs1_1 ?on ?ot ?oa0 ?om0 ?oc0_ ?oy0 ?nn0 ?g_LARGEST ?z_ValueError ?z_abs ?z_all ?z_any ?z_bool ?z_divmod ?z_int ?z_isinstance ?z_len ?z_list ?z_max ?z_min ?z_range ?z_repr ?z_sum ?z_tuple ?z_zip
    (case ac0 => k_is)
    (case xm0 => k_is)
    (case xm1 => k_is)
    (case a0 => k_is)
    (case l0 => k_is)
    (case c0 => k_is)
    (case k0 => k_is)
    (case a1 => k_is)
    (case l1 => k_is)
    (case c1 => k_is)
    (case k1 => k_is)
    (case a2 => k_is)
    (case l2 => k_is)
    (case c2 => k_is)
    (case k2 => k_is)
    (case a3 => k_is)
    (case l3 => k_is)
    (case c3 => k_is)
    (case k3 => k_is)
    (case a4 => k_is)
    (case l4 => k_is)
    (case c4 => k_is)
    (case k4 => k_is)
    (case a5 => k_is)
    (case l5 => k_is)
    (case c5 => k_is)
    (case k5 => k_is)
    (case a6 => k_is)
    (case l6 => k_is)
    (case c6 => k_is)
    (case k6 => k_is)
    (case a7 => k_is)
    (case l7 => k_is)
    (case c7 => k_is)
    (case k7 => k_is)
    (case a8 => k_is)
    (case l8 => k_is)
    (case c8 => k_is)
    (case k8 => k_is)
    (case a9 => k_is)
    (case l9 => k_is)
    (case c9 => k_is)
    (case k9 => k_is)
    (case a10 => k_is)
    (case l10 => k_is)
    (case c10 => k_is)
    (case k10 => k_is)
    (case a11 => k_is)
    (case i11 => k_is)
    (case l11 => k_is)
    (case c11 => k_is)
    (case k11 => k_is)
    (case q11_0 => k_is)
    (case a12 => k_is)
    (case i12 => k_is)
    (case l12 => k_is)
    (case c12 => k_is)
    (case k12 => k_is)
    (case a13 => k_is)
    (case i13 => k_is)
    (case l13 => k_is)
    (case c13 => k_is)
    (case k13 => k_is)
    (case a14 => k_is)
    (case i14 => k_is)
    (case l14 => k_is)
    (case c14 => k_is)
    (case k14 => k_is)
    (case a15 => k_is)
    (case i15 => k_is)
    (case l15 => k_is)
    (case c15 => k_is)
    (case k15 => k_is)
    (case a16 => k_is)
    (case i16 => k_is)
    (case l16 => k_is)
    (case c16 => k_is)
    (case k16 => k_is)
    (case a17 => k_is)
    (case i17 => k_is)
    (case l17 => k_is)
    (case c17 => k_is)
    (case k17 => k_is)
    (case a18 => k_is)
    (case i18 => k_is)
    (case l18 => k_is)
    (case c18 => k_is)
    (case k18 => k_is)
    (case q18_0 => k_is)
    (case a19 => k_is)
    (case i19 => k_is)
    (case l19 => k_is)
    (case c19 => k_is)
    (case k19 => k_is)
    (case a20 => k_is)
    (case i20 => k_is)
    (case l20 => k_is)
    (case c20 => k_is)
    (case k20 => k_is)
    (case a21 => k_is)
    (case i21 => k_is)
    (case l21 => k_is)
    (case c21 => k_is)
    (case k21 => k_is)
    (case a22 => k_is)
    (case i22 => k_is)
    (case l22 => k_is)
    (case c22 => k_is)
    (case k22 => k_is)
    (case a23 => k_is)
    (case l23 => k_is)
    (case c23 => k_is)
    (case k23 => k_is)
    (case a24 => k_is)
    (case l24 => k_is)
    (case c24 => k_is)
    (case k24 => k_is)
    (case a25 => k_is)
    (case l25 => k_is)
    (case c25 => k_is)
    (case k25 => k_is)
    (case a26 => k_is)
    (case l26 => k_is)
    (case c26 => k_is)
    (case k26 => k_is)
    (case a27 => k_is)
    (case l27 => k_is)
    (case c27 => k_is)
    (case k27 => k_is)
    (case a28 => k_is)
    (case l28 => k_is)
    (case c28 => k_is)
    (case k28 => k_is)
    (case a29 => k_is)
    (case l29 => k_is)
    (case c29 => k_is)
    (case k29 => k_is)
    (case a30 => k_is)
    (case l30 => k_is)
    (case c30 => k_is)
    (case k30 => k_is)
    (case a31 => k_is)
    (case l31 => k_is)
    (case c31 => k_is)
    (case k31 => k_is)
    (case a32 => k_is)
    (case l32 => k_is)
    (case c32 => k_is)
    (case k32 => k_is)
    (case a33 => k_is)
    (case l33 => k_is)
    (case c33 => k_is)
    (case k33 => k_is)
    (case a34 => k_is)
    (case l34 => k_is)
    (case c34 => k_is)
    (case k34 => k_is)
    (case a35 => k_is)
    (case l35 => k_is)
    (case c35 => k_is)
    (case k35 => k_is)
    (case a36 => k_is)
    (case l36 => k_is)
    (case c36 => k_is)
    (case k36 => k_is)
    (case a37 => k_is)
    (case l37 => k_is)
    (case c37 => k_is)
    (case k37 => k_is)
    (case a38 => k_is)
    (case l38 => k_is)
    (case c38 => k_is)
    (case k38 => k_is)
    (case pg0 => k_is)
    (case hd0 => k_is)
    (case po0 => k_is)
    (case sa0 => k_is)
    (case mk0 => k_is)
    (case kc0 => k_is)
    (case na0_pairs => k_is)
    (case na0_wide => k_is)
    (case qn => k_is)
    (case qt => k_is)
    (case qa0 => k_is)
    (case qb0 => k_is)
    (case qc0 => k_is)
    (case qd0 => k_is)
    (case qe0 => k_is)
    (case qf0 => k_is)
    (case qg0 => k_is)
    (case qa1 => k_is)
    (case qb1 => k_is)
    (case qc1 => k_is)
    (case qd1 => k_is)
    (case qe1 => k_is)
    (case qf1 => k_is)
    (case qg1 => k_is)
    (case qk1 => k_is)
    (case qx1 => k_exc)
    (case qs1_0 => first | rfl | k_is)
    (case qs1_1 => first | rfl | k_is)
    (case on => k_is)
    (case ot => k_is)
    (case oa0 => k_is)
    (case om0 => k_is)
    (case oc0_ => k_is)
    (case oy0 => k_is)
    (case nn0 => k_is)
    (case g_LARGEST => k_is)
    (case z_ValueError => k_is)
    (case z_abs => k_is)
    (case z_all => k_is)
    (case z_any => k_is)
    (case z_bool => k_is)
    (case z_divmod => k_is)
    (case z_int => k_is)
    (case z_isinstance => k_is)
    (case z_len => k_is)
    (case z_list => k_is)
    (case z_max => k_is)
    (case z_min => k_is)
    (case z_range => k_is)
    (case z_repr => k_is)
    (case z_sum => k_is)
    (case z_tuple => k_is)
    (case z_zip => k_is)
#print axioms PySem.Challenge.cw_forkthrift_k11_sizes_numbers_runs_holds


