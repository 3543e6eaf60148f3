import PyProof.Rows.All
import Wide.All
import OpenK.AllK
import Wide.FinOn
import HandS.ForMost
import HandS.ForExc
import HandS.WideBits
import HandS.EndBits
import HandS.Defaults
import HandS.FStrTup
import HandS.IsInst
import HandS.More
import HandS.Style
import HandS.Steps
import HandS.MakeKwOnly
import HandS.SortInts
import HandS.Small
import HandS.FStr
import HandS.Codes
import HandS.ExcInit
import HandS.ExcIs
import HandS.ExcField
import KE.KExcIs
import PySem.Challenge.RW_forkthrift_k17_whole_differences
set_option Elab.async false
set_option linter.all false
set_option maxRecDepth 100000
set_option maxHeartbeats 4000000
namespace G
open PySem PySem.Spec PyProof.Rows L2

/-! the call layer once more, with the guards known -/
structure RoomG (k : Nat) (A : Around) : Prop where
  r : Room k A
  g : A.guards = some []
theorem RoomG.mono {j k : Nat} {A : Around} (z : RoomG k A) (h : j ≤ k) : RoomG j A :=
  ⟨z.r.mono h, z.g⟩
theorem RoomG.deeper {k : Nat} {A : Around} (z : RoomG (k + 1) A) (env : Env) :
    RoomG k (A.deeper env) := ⟨z.r.deeper env, z.g⟩
theorem make_guards {A : Around} {C : Addr} {us : List Value} {kw : List (Str × Value)} :
    (A.under (.builtin "type.__call__" ⟨.ref C :: us, kw⟩)).guards = A.guards := by
  first
    | rfl
    | (simp only [Around.under]
       rw [pushGuards_eq]
       have e : Code.guards (.builtin "type.__call__" ⟨.ref C :: us, kw⟩) = [] := by
         simp [Code.guards, Code.isGuard, guardIds]
       rw [e]
       cases A.guards <;> rfl)
theorem RoomG.make {k : Nat} {A : Around} (z : RoomG (k + 1) A) (C : Addr) (us : List Value)
    (kw : List (Str × Value)) : RoomG k (A.under (.builtin "type.__call__" ⟨.ref C :: us, kw⟩)) :=
  ⟨z.r.make C us kw, make_guards.trans z.g⟩

structure FnG (P : Program) (w : World) (K : PySem.W.Frag) (mg : Str → Option Value) (base : Heap)
    (k : Nat) (f : Addr) (fd : FuncData) (ps : List Str) (sp : Sp) : Prop where
  len : ∀ vs H Q E, sp vs H Q E → vs.length = ps.length
  run : ∀ (A : Around) (outer : List Env) (s : Shared) (H : Hp) (args : Args) (us : List Value)
    (vs : List V) (Q : VK) (E : XK), RoomG k A → Env0 P w K mg base A outer s H →
    BindsTo s fd args (ps.zip us) → Vals vs us → sp vs H Q E →
    codeAny (model P w) A (.call (.ref f) args) (CR (L2.CX P w) outer P w H s Q E) s
section
variable {P : Program} {w : World} {K : PySem.W.Frag} {mg : Str → Option Value} {base : Heap}
theorem FnG.mono {j k : Nat} {f : Addr} {fd : FuncData} {ps : List Str} {sp : Sp}
    (F : FnG P w K mg base j f fd ps sp) (h : j ≤ k) : FnG P w K mg base k f fd ps sp :=
  ⟨F.len, fun A o s H args us vs Q E z => F.run A o s H args us vs Q E (z.mono h)⟩
theorem FnG.of {k : Nat} {f : Addr} {fd : FuncData} {ps : List Str} {sp : Sp}
    (F : FnOk P w K mg base (L2.CX P w) k f fd ps sp) : FnG P w K mg base k f fd ps sp :=
  ⟨F.len, fun A o s H args us vs Q E z => F.run A o s H args us vs Q E z.r⟩

/-- a def by its body -/
theorem FnG.body {k : Nat} {f : Addr} {name qual : Str} {params : Arguments} {body : List Stmt}
    {sc : Scope} {dV kV doc pm cdv ct oc : Value} {an od : Option Addr} {osl : Array (Option Value)}
    {N ps : List Str} {sp : Sp}
    (lk : K.lookup f = some ⟨oc, od, .func (PySem.W.fnOf name qual params body sc dV kV doc pm an cdv ct), osl⟩)
    (hcd : PySem.W.codeIn K cdv qual = true) (S : FnScope N ps sc)
    (len : ∀ vs H Q E, sp vs H Q E → vs.length = ps.length)
    (hb : ∀ (A : Around) (outer : List Env) (s : Shared) (H : Hp) (vs : List V) (Q : VK) (E : XK),
      RoomG k (A.deeper (envOfC qual sc s.heap.objs.size f cdv)) → sp vs H Q E →
      ∃ t, PSs (cxOf (L2.CX P w) P w K mg base N qual sc f cdv A outer s H E) body t ∧
        t { nx := fun _ H' => Q .non H', rt := Q } (start N vs) H) :
    FnG P w K mg base (k + 1) f
      (PySem.W.fnOf name qual params body sc dV kV doc pm an cdv ct) ps sp := by
  refine ⟨len, ?_⟩
  intro A outer s H args us vs Q E z e0 bd rv hsp
  have n0 := len _ _ _ _ hsp
  have kin : K.In s.heap :=
    e0.mod.kin.keeps (fun b o e => (e0.bs b o e).1)
  have lim : s.heap.NoLimit :=
    e0.mod.nolimit.keeps (fun b o e => (e0.bs b o e).1)
  have kinds : ∀ y ∈ ps.zip us, sc.names.lookup y.1 = some .local ∨
      (sc.names.lookup y.1 = some .cell ∧
        ((cellsFrom (s.heap.objs.size + 1) sc.names []).lookup y.1).isSome = true) := by
    intro y hy
    obtain ⟨m, v⟩ := y
    cases S.par m (List.of_mem_zip hy).1 with
    | inl q => exact Or.inl q
    | inr q => exact Or.inr ⟨q, PySem.W.cellsFrom_some _ _ _ (Or.inl q)⟩
  refine codeAny_call_function z.r.depth (kin _ _ lk) rfl S.co S.gen rfl
    (PySem.W.codeRec_of kin hcd) (bd _ _ _ _ ?_)
  refine wpAny_newFunctionEnv_cells S.kind kinds ?_
  intro env he s1 x
  subst he
  refine ⟨lim.keeps x.toInCall.keep, ?_⟩
  refine codeAny_func ?_
  obtain ⟨t, ht, hq⟩ := hb A outer s H vs Q E (z.deeper _) hsp
  have I := inv_start (CX := L2.CX P w) (K := K) (mg := mg) (base := base) (E := E)
    S z.r.hd e0 n0 rv x
  refine wpAny_mono (ht.run [] s1 (start N vs) H _ I hq) ?_ (fun e s' hs => hs)
  intro fl s' hs
  have fin : ∀ {τ : L2.St} {G : Hp} {v : V} {u : Value},
      Inv (cxOf (L2.CX P w) P w K mg base N qual sc f cdv A outer s H E) [] τ G s' →
      RelV v u → Q v G → CE outer P w H s Q u s' := by
    intro τ G v u J r q
    exact ⟨v, G, J.os, J.bare, J.base, J.hok, r, q⟩
  match fl, hs with
  | .ret u, ⟨v, τ, G, J, r, q⟩ => exact fin J r q
  | .next, ⟨τ, G, J, q⟩ => exact fin (v := .non) (u := Value.none) J rfl q
  | .brk, ⟨_, _, _, q⟩ => exact False.elim q
  | .cont, ⟨_, _, _, q⟩ => exact False.elim q
end
end G
namespace G
open PySem PySem.Spec PyProof.Rows L2
section
variable {X : Cx} {k n : Nat} {f C : Addr} {fd : FuncData} {ps ks : List Str} {sp : Sp}
variable {dvs : List V} {ds : List Value} {E : XK} {x m : Str} {p pos apos : Pos} {e o : Expr}
variable {es : List Expr} {ta : TE} {t tk : TA} {pins : List (Addr × Obj)} {σ : L2.St} {H : Hp}
variable {s s' : Shared} {Q : VK}
abbrev Fg (X : Cx) (k : Nat) (f : Addr) (fd : FuncData) (ps : List Str) (sp : Sp) : Prop :=
  FnG X.prog X.w X.K X.mg X.base k f fd ps sp
abbrev Ps (X : Cx) (E : XK) : Prop := Passes (L2.CX X.prog X.w) X E

def Got (X : Cx) (R : Value → Shared → Prop) : Result → Shared → Prop
  | .ok (.ret u), s' => R u s'
  | .ok _, _ => False
  | .error e, s' => X.xe e s'
theorem ended (I : Inv X pins σ H s) (hx : Ps X E) {R : Value → Shared → Prop}
    (hR : ∀ u s', CE X.stack X.prog X.w H s Q u s' → R u s') {r : Result}
    (q : CR (L2.CX X.prog X.w) X.stack X.prog X.w H s Q E r s') : Got X R r s' := by
  match r, q with
  | .error e, q => exact hx pins σ H s e s' I q
  | .ok (.ret u), q => exact hR u s' q
  | .ok .next, q => exact False.elim q
  | .ok .brk, q => exact False.elim q
  | .ok .cont, q => exact False.elim q

theorem runG {args : Args} {us : List Value} {vs : List V} (F : Fg X k f fd ps sp)
    (z : RoomG k X.A) (hb : BindsTo s fd args (ps.zip us)) (hx : Ps X E) (I : Inv X pins σ H s)
    (rv : Vals vs us) (h : sp vs H Q E) :
    codeAny (model X.prog X.w) X.A (.call (.ref f) args) (Got X (EP X pins σ Q)) s := by
  refine codeAny_mono (F.run X.A X.stack s H args us vs Q E z I.env0 hb rv h) ?_
  intro r s' q
  exact ended I hx (fun u s' c => I.after c) q

theorem run1 {us : List Value} {vs : List V} (F : Fg X k f fd ps sp) (z : RoomG k X.A)
    (hb : Binds X.K fd ps ds) (hd : Vals dvs ds) (hx : Ps X E) (I : Inv X pins σ H s)
    (rv : Vals vs us) (h : sp (vs ++ dvs) H Q E) :
    wpAny (model X.prog X.w) X.A (call (.ref f) us) (EP X pins σ Q) X.xe s := by
  have r2 : Vals (vs ++ dvs) (us ++ ds) := rv.append hd
  have hl : (us ++ ds).length = ps.length := by
    rw [← r2.length]
    exact F.len _ _ _ _ h
  refine wpAny_call (codeAny_mono (runG F z (hb s us I.kIn hl) hx I r2 h) ?_)
  intro r s' q
  match r, q with
  | .error e, q => exact q
  | .ok (.ret u), q => exact q
  | .ok .next, q => exact q
  | .ok .brk, q => exact q
  | .ok .cont, q => exact q

theorem c1 (F : Fg X k f fd ps sp) (z : RoomG k X.A) (hg : Gl X x) (hm : X.mg x = some (.ref f))
    (hk : PySem.W.keepIn X.K (.ref f) = true) (hb : Binds X.K fd ps ds) (hd : Vals dvs ds)
    (hx : Ps X E) (ha : PA X (e :: es) t)
    (hdb : (x == ("__debug__" : Str)) = false := by decide)
    (he : starEach (e :: es) X.env = (false, eval e X.env) :: starEach es X.env := by rfl)
    (hpl : (backTo pos (starEach es X.env)).any (·.1) = false := by rfl) :
    PE X (.Call (.Name x p) (e :: es) [] pos) (tCall sp dvs E t) := by
  constructor
  intro pins s σ H Q I h
  refine wpAny_Call_Name_kw (ld_glob I hg hm ?_ hdb)
  refine PySem.W.callWith_K (h₀ := X.base) I.ok.mod.kin hk ?_ he hpl
  refine thn (ha.run pos pins s σ H _ I h) ?_
  intro us s1 y
  obtain ⟨vs, H1, I1, r, q⟩ := y
  exact ⟨I1.kIn, run1 F z hb hd hx I1 r q⟩

theorem c0 (F : Fg X k f fd ps sp) (z : RoomG k X.A) (hg : Gl X x) (hm : X.mg x = some (.ref f))
    (hk : PySem.W.keepIn X.K (.ref f) = true) (hb : Binds X.K fd ps ds) (hd : Vals dvs ds)
    (hx : Ps X E) (hdb : (x == ("__debug__" : Str)) = false := by decide) :
    PE X (.Call (.Name x p) [] [] pos) (tCall sp dvs E tNil) := by
  constructor
  intro pins s σ H Q I h
  refine wpAny_Call_Name_kw (ld_glob I hg hm ?_ hdb)
  exact PySem.W.callWith_K0 I.kIn hk (run1 (us := []) F z hb hd hx I .nil h)

/-- o.m(..) -/
theorem cm {pl : Sem Bool} (he : PE X o ta) (c : Cls X.K C) (hm : Meth X.K C m f)
    (F : Fg X k f fd ps sp) (z : RoomG k X.A) (hb : Binds X.K fd ps ds) (hd : Vals dvs ds)
    (hx : Ps X E) (ha : PA X (e :: es) t)
    (hst : starEach (e :: es) X.env = (false, eval e X.env) :: starEach es X.env := by rfl)
    (hpl : (backTo pos (starEach es X.env)).any (·.1) = false := by rfl)
    (ht : eval (.Call (.Attribute o m apos) (e :: es) [] pos) X.env = (do
      let y ← eval o X.env
      standAt apos.atName
      let (g, a) ← holding [y] (getMethod y m pl)
      callWith pos g a (backTo pos (starEach (e :: es) X.env))
        (backToKw pos (keywordEach [] X.env))) := by rfl) :
    PE X (.Call (.Attribute o m apos) (e :: es) [] pos) (tMeth C m sp dvs E ta t) := by
  constructor
  intro pins s σ H Q I h
  refine PySem.W.methodCall_KW (pl := pl) (thn (he.run pins s σ H _ I h) ?_) ht
  intro u s1 y
  obtain ⟨v, H1, I1, rx, a, dx, fs, ex, ea, l, q⟩ := y
  subst ex
  obtain rfl : u = Value.ref a := rx
  refine getmeth_ok I1 ea c hm l ?_
  refine PySem.W.callWith_K (first := [.ref a]) (h₀ := X.base) I.ok.mod.kin hm.kp ?_ hst hpl
  refine thn (ha.run pos pins s1 σ H1 _ I1 q) ?_
  intro us s2 y
  obtain ⟨vs, H2, I2, r, q2⟩ := y
  exact ⟨I2.kIn, run1 (us := .ref a :: us) (vs := .ref a :: vs) F z hb hd hx I2 (.cons rfl r) q2⟩
/-- o.m() -/
theorem cm0 {pl : Sem Bool} (he : PE X o ta) (c : Cls X.K C) (hm : Meth X.K C m f)
    (F : Fg X k f fd ps sp) (z : RoomG k X.A) (hb : Binds X.K fd ps ds) (hd : Vals dvs ds)
    (hx : Ps X E)
    (ht : eval (.Call (.Attribute o m apos) [] [] pos) X.env = (do
      let y ← eval o X.env
      standAt apos.atName
      let (g, a) ← holding [y] (getMethod y m pl)
      callWith pos g a (backTo pos (starEach [] X.env))
        (backToKw pos (keywordEach [] X.env))) := by rfl) :
    PE X (.Call (.Attribute o m apos) [] [] pos) (tMeth C m sp dvs E ta tNil) := by
  constructor
  intro pins s σ H Q I h
  refine PySem.W.methodCall_KW (pl := pl) (thn (he.run pins s σ H _ I h) ?_) ht
  intro u s1 y
  obtain ⟨v, H1, I1, rx, a, dx, fs, ex, ea, l, q⟩ := y
  subst ex
  obtain rfl : u = Value.ref a := rx
  refine getmeth_ok I1 ea c hm l ?_
  refine PySem.W.callWith_K0 (first := [.ref a]) I1.kIn hm.kp ?_
  exact run1 (us := [.ref a]) (vs := [.ref a]) F z hb hd hx I1 (.cons rfl .nil) q
end
end G
namespace G
open PySem PySem.Spec PyProof.Rows L2

/-- the heap at the law's entry: the script alone is tracked, or nothing -/
theorem lawG {P : Program} {w : World} {K : PySem.W.Frag} {mg mb : Str → Option Value} {k : Nat}
    {fa a : Addr} {fd : FuncData} {x : Str} {sp : Sp} {s0 : Shared} {vs : List Value}
    {ns : List Int} (kin : K.In s0.heap) (hns : s0.heap.Ns mainGlobals mg)
    (hb : s0.heap.Ns builtinsNs mb) (hbb : ∀ y : Str, y ≠ "__name__" → mb y = bootBuiltins y)
    (lim : s0.heap.NoLimit) (hg : s0.gens = #[])
    (ha : s0.heap.get? a = some { cls := .type "list", data := .seq vs.toArray })
    (hi : IntsAre vs ns) (hl : ns.length ≤ sizeLine) (z : RoomG k callerA)
    (F : ∀ base : Heap, K.In base → base.Ns mainGlobals mg → FnG P w K mg base k fa fd [x] sp)
    (bd : ∀ (s : Shared) (u : Value), BindsTo s fd ⟨[u], []⟩ [(x, u)])
    (hsp : ∀ H : Hp, Only H → SqL K H a (ns.map V.int) →
      sp [.ref a] H (fun v _ => v = .bl true) fun _ _ _ => False) :
    codeAny (model P w) callerA (.call (.ref fa) ⟨[.ref a], []⟩)
      (fun r s' => r = .ok (.ret (.bool true)) ∧ OldK s0.heap s'.heap ∧ s'.os = s0.os ∧
        AllBare s'.gens) s0 := by
  have rv := vals_ints hi
  have lv := hi.length
  have core : ∀ H : Hp, Only H → SqL K H a (ns.map V.int) → HOk P w H s0.heap →
      (∀ b, H b ≠ none → b = a) → (H a ≠ none → K.lookup a = none) →
      codeAny (model P w) callerA (.call (.ref fa) ⟨[.ref a], []⟩)
        (fun r s' => r = .ok (.ret (.bool true)) ∧ OldK s0.heap s'.heap ∧ s'.os = s0.os ∧
          AllBare s'.gens) s0 := by
    intro H only sq hok only_a notK
    have at_a : ∀ {b : Addr}, H b ≠ none → b = a := fun {b} q => only_a b q
    have seqs : ∀ {b : Addr} {o : Obj} {es : Array DictEntry} {ep : Nat},
        s0.heap.get? b = some o → o.data = .dict es ep → H b = none := by
      intro b o es ep e d
      cases q : H b with
      | none => rfl
      | some u =>
        obtain rfl := at_a (b := b) (by rw [q]; exact fun y => nomatch y)
        rw [ha] at e
        cases e
        have d' : Data.seq vs.toArray _ = Data.dict es ep := d
        cases d'
    have nsb : ∀ {b : Addr} {g : Str → Option Value}, s0.heap.Ns b g →
        (hidT s0.heap H).Ns b g := by
      intro b g y
      obtain ⟨o, es, ep, e, d, r⟩ := y
      exact ⟨o, es, ep, hidT_get e (seqs e d), d, r⟩
    have kb : K.In (hidT s0.heap H) := by
      intro b o e
      refine hidT_get (kin b o e) ?_
      cases q : H b with
      | none => rfl
      | some u =>
        obtain rfl := at_a (b := b) (by rw [q]; exact fun y => nomatch y)
        rw [notK (by rw [q]; exact fun y => nomatch y)] at e
        cases e
    have md : Mod K mg (hidT s0.heap H) := by
      obtain ⟨mc, l1, l2⟩ := lim
      exact ⟨kb, nsb hns, ⟨mb, nsb hb, hbb⟩, ⟨mc, nsb l1, l2⟩⟩
    have e0 : Env0 P w K mg (hidT s0.heap H) callerA [] s0 H :=
      ⟨rfl, md, fun b o e => of_hidT e, Nat.le_of_eq (hidT_size _ _), trivial,
        fun b q => absurd (show b ∈ ([] : List Addr) from q) List.not_mem_nil, hok, .of_eq hg⟩
    have run := (F _ kb (nsb hns)).run callerA [] s0 H ⟨[.ref a], []⟩ [.ref a] [.ref a] _ _
      z e0 (bd s0 (.ref a)) (.cons rfl .nil) (hsp H only sq)
    refine codeAny_mono run ?_
    intro r s' h
    match r, h with
    | .error e, h =>
      obtain ⟨_, _, _, _, _, _, _, _, _, _, _, _, y⟩ := h
      exact y.elim
    | .ok .next, h => exact False.elim h
    | .ok .brk, h => exact False.elim h
    | .ok .cont, h => exact False.elim h
    | .ok (.ret u), h =>
      obtain ⟨v, H', os, bare, un, hok', r', q⟩ := h
      have q' : v = .bl true := q
      subst q'
      obtain rfl : u = Value.bool true := r'
      refine ⟨rfl, OldK.of_keep ?_, os, bare⟩
      intro b o e
      cases q : H b with
      | none =>
        exact un.keep b o e q (fun y => absurd (show b ∈ ([] : List Addr) from y) List.not_mem_nil)
          List.not_mem_nil
      | some u =>
        rcases only b with y | ⟨ob, xs, y⟩
        · rw [q] at y
          cases y
        · obtain ⟨e1, _⟩ := hok b _ y
          obtain ⟨e2, _⟩ := hok' b _ (un.frzs b ob _ y)
          rw [e] at e1
          cases e1
          exact e2
  cases hk : K.lookup a with
  | some o =>
    have e := kin a o hk
    rw [ha] at e
    cases e
    refine core (fun _ => none) (fun _ => Or.inl rfl) (Or.inr ?_) ?_ (fun b y => absurd rfl y)
      (fun y => absurd rfl y)
    · refine ⟨_, vs.toArray, _, hk, rfl, rfl, rfl, ?_, ?_⟩
      · rw [List.size_toArray, lv]
        exact hl
      · simpa using rv
    · intro b u y
      have y' : (none : Option HO) = some u := y
      cases y'
  | none =>
    refine core (fun b => if b = a then
      some (.frz { cls := .type "list", data := .seq vs.toArray } (.lst (ns.map V.int)))
      else none) ?_ (Or.inl (Or.inr ⟨_, if_pos rfl⟩)) ?_ ?_ (fun _ => hk)
    · intro b
      by_cases q : b = a
      · exact Or.inr ⟨_, _, if_pos q⟩
      · exact Or.inl (if_neg q)
    · intro b u y
      by_cases q : b = a
      · have y' := (if_pos q).symm.trans y
        cases y'
        subst q
        refine ⟨ha, ?_, vs, _, rv, ha⟩
        rw [List.length_map]
        exact hl
      · have y' := (if_neg q).symm.trans y
        cases y'
    · intro b y
      by_cases q : b = a
      · exact q
      · exact absurd (if_neg q) y

/-- the end of a law row, the script's bits told -/
theorem walkG {l : PySem.W.OpenLaw} {n k : Nat} {q : Program} {loose : List Str}
    {XP : (Str → Option Value) → Heap → Prop} {YP : World → Heap → Prop} {d : DefRec}
    {K : Params → PySem.W.Frag} {sp : PySem.W.Frag → Sp} {x : Str} (hn : l.most = some n)
    (hn2 : n ≤ sizeLine) (hdf : d.params.defaults = []) (hr : Room k callerA)
    (hY : ∀ (w : World) (h : Heap), YP w h → (K w.params).In h)
    (F : ∀ (w : World) (mg : Str → Option Value) (fa : Addr) (h : Heap), (K w.params).In h →
      h.Ns mainGlobals mg → mg d.name = some (.ref fa) →
      ∃ fd : FuncData, (∀ (s : Shared) (u : Value), BindsTo s fd ⟨[u], []⟩ [(x, u)]) ∧
        ∀ base : Heap, (K w.params).In base → base.Ns mainGlobals mg →
          FnG l.prog w (K w.params) mg base k fa fd [x] (sp (K w.params)))
    (hsp : ∀ (K : PySem.W.Frag) (H : Hp) (a : Addr) (ns : List Int), ns.length ≤ n →
      (∀ z ∈ ns, Builtin.Int.intBits z ≤ 1048576) → Only H → SqL K H a (ns.map V.int) →
      sp K [.ref a] H (fun v _ => v = .bl true) fun _ _ _ => False) :
    PySem.W.WalkO q loose XP YP l.row.toRowW d [] (fun f vs => PySem.call f vs) := by
  refine Att.attach_callB hn hdf ?_
  intro w s0 s1 mg mb fa o pm cd doc a vs ns T Y ho hd hcd hmg hobj hints hlen hbits hg
  have kin := hY w _ Y
  obtain ⟨fd, hb, hF⟩ := F w mg fa _ kin T.T.g hmg
  exact lawG kin T.T.g T.T.b T.T.builtins T.T.nolimit hg hobj hints (Nat.le_trans hlen hn2)
    ⟨hr, rfl⟩ hF hb (fun H hO hS => hsp _ H a ns hlen hbits hO hS)
end G
namespace G
open PySem PySem.Spec PyProof.Rows L2

/-! ### repr of data -/

mutual
def cw : PyData → Nat
  | .none => 4
  | .bool _ => 5
  | .int _ => 1930
  | .str x => 10 * x.length + 4
  | .list xs => cws xs + 2
  | .tuple xs => cws xs + 2
  | .dict _ => 0
def cws : List PyData → Nat
  | [] => 0
  | x :: xs => cw x + 2 + cws xs
end
mutual
/-- it may be shown: ints of few bits, texts of plain signs, no dict -/
def shw : PyData → Bool
  | .none => true
  | .bool _ => true
  | .int i => decide (i.natAbs.log2 < 1920)
  | .str x => x.cps.toList.all fun c => decide (c < 16 ^ 8)
  | .list xs => shws xs
  | .tuple xs => shws xs
  | .dict _ => false
def shws : List PyData → Bool
  | [] => true
  | x :: xs => shw x && shws xs
end
theorem list_text (ts : List Str) : (listText ts).length ≤ piled ts + 2 := by
  unfold listText
  rw [strLen_append]
  have e1 : (("[" : Str)).length = 1 := by decide +kernel
  have e2 : (("]" : Str)).length = 1 := by decide +kernel
  cases ts with
  | nil =>
    show (("[" : Str)).length + (("]" : Str)).length ≤ _
    omega
  | cons t r =>
    have q := textFrom_length_pos r 1 (("[" : Str) ++ (if 0 > 0 then ", " else "" : String) ++ t) (by decide)
    have e3 : ((if 0 > 0 then ", " else "" : String) : Str).length = 0 := by decide +kernel
    have q2 : (textFrom 0 "[" (t :: r)).length = (("[" : Str) ++ (if 0 > 0 then ", " else "" : String) ++ t).length + piled r := q
    rw [q2, strLen_append, strLen_append, piled_cons]
    omega
mutual
theorem shown_len : ∀ d : PyData, shw d = true → d.shown.length ≤ cw d
  | .none, _ => by simp only [PyData.shown, cw]; decide +kernel
  | .bool b, _ => by cases b <;> (simp only [PyData.shown, cw]; decide +kernel)
  | .int i, h => by
    simp only [shw, decide_eq_true_eq] at h
    simp only [PyData.shown, cw]
    have q := int_text_length_le (a := i) (k := 1920) (by decide) h
    rw [PySem.ofString_length]
    omega
  | .str x, h => by
    simp only [shw, List.all_eq_true, decide_eq_true_eq] at h
    simp only [PyData.shown, cw]
    have q := StrLaws.reprText_len x h
    omega
  | .list xs, h => by
    simp only [shw] at h
    simp only [PyData.shown, cw]
    exact Nat.le_trans (list_text _) (Nat.add_le_add_right (shown_lens xs h) 2)
  | .tuple xs, h => by
    simp only [shw] at h
    simp only [PyData.shown, cw]
    exact Nat.le_trans (fmt_text _) (Nat.add_le_add_right (shown_lens xs h) 2)
  | .dict _, h => by simp only [shw] at h; cases h
theorem shown_lens : ∀ ds : List PyData, shws ds = true → piled (PyData.shownAll ds) ≤ cws ds
  | [], _ => Nat.zero_le _
  | d :: ds, h => by
    simp only [shws, Bool.and_eq_true] at h
    simp only [PyData.shownAll, cws, piled_cons]
    have q1 := shown_len d h.1
    have q2 := shown_lens ds h.2
    omega
end
mutual
theorem shw_showable : ∀ d : PyData, shw d = true → d.showable = true ∧ d.hasDict = false
  | .none, _ => ⟨rfl, rfl⟩
  | .bool _, _ => ⟨rfl, rfl⟩
  | .int i, h => ⟨by simpa only [shw, PyData.showable] using h, rfl⟩
  | .str x, _ => ⟨rfl, rfl⟩
  | .list xs, h => by
    simp only [shw] at h
    simpa only [PyData.showable, PyData.hasDict] using shws_showable xs h
  | .tuple xs, h => by
    simp only [shw] at h
    simpa only [PyData.showable, PyData.hasDict] using shws_showable xs h
  | .dict _, h => by simp only [shw] at h; cases h
theorem shws_showable : ∀ ds : List PyData, shws ds = true →
    PyData.showableAll ds = true ∧ PyData.hasDictAll ds = false
  | [], _ => ⟨rfl, rfl⟩
  | d :: ds, h => by
    simp only [shws, Bool.and_eq_true] at h
    obtain ⟨a, b⟩ := shw_showable d h.1
    obtain ⟨e, f⟩ := shws_showable ds h.2
    simp only [PyData.showableAll, PyData.hasDictAll, a, b, e, f]
    exact ⟨rfl, rfl⟩
end
/-- repr(x), x data -/
def rRepr (K : PySem.W.Frag) : List V → Hp → VK → Prop := fun xs H Q =>
  ∃ x d, xs = [x] ∧ Dp K H x d ∧ shw d = true ∧ d.depth ≤ 60 ∧ cw d ≤ sizeLine ∧ Q (.str d.shown) H
theorem call_repr {X : Cx} (hg : X.A.guards = some []) (hu : X.A.units + 64 < cLine) :
    CallR X (.builtin "repr") (rRepr X.K) := by
  intro pins s σ H vs us Q I rv h
  obtain ⟨x, d, rfl, hd, hs, hdp, hz, q⟩ := h
  obtain ⟨hs1, hs2⟩ := shw_showable d hs
  have hz2 := Nat.le_trans (shown_len d hs) hz
  cases rv with
  | cons r rn =>
    cases rn
    obtain ⟨as, hr⟩ := Dp.reads I d _ _ hd r
    cases hr with
    | none => exact PySem.P.repr_of_none ⟨.str _, H, I.tok _, ⟨_, rfl⟩, q⟩
    | bool b => exact PySem.P.repr_of_bool ⟨.str _, H, I.tok _, ⟨_, rfl⟩, q⟩
    | int i t =>
      refine PySem.P.repr_of_int ?_ ⟨.str _, H, I.tok _, ⟨_, rfl⟩, q⟩
      first | exact hs | simpa only [shw, decide_eq_true_eq] using hs
    | str y t => exact PySem.P.repr_of_str ⟨.str _, H, I.tok _, ⟨_, rfl⟩, q⟩ hz2
    | list h1 h2 h3 h4 =>
      refine repr_of_reads' (Reads.list h1 h2 h3 h4) hs1 (fun y => by rw [hs2] at y; cases y) hg
        (by omega) (fun _ _ e => e) (fun h' u tk hk => ?_) hz2
      exact ⟨.str _, H, I.kept hk, ⟨_, rfl⟩, q⟩
    | tuple h1 h2 h3 h4 =>
      refine repr_of_reads' (Reads.tuple h1 h2 h3 h4) hs1 (fun y => by rw [hs2] at y; cases y) hg
        (by omega) (fun _ _ e => e) (fun h' u tk hk => ?_) hz2
      exact ⟨.str _, H, I.kept hk, ⟨_, rfl⟩, q⟩
    | dict h1 h2 h3 h4 h5 => simp only [PyData.hasDict] at hs2; cases hs2
end G
namespace G
open PySem PySem.Spec PyProof.Rows L2

/-! ### heaps: what is kept -/
/-- x is not yet tracked -/
structure Fr (H : Hp) (x : Addr) : Prop where
  e : H x = none
theorem fr_ne {H : Hp} {a b : Addr} {o : HO} (h : H a = some o) (f : Fr H b) : a ≠ b := ne_of_none h f.e
/-- what nothing changes -/
def Fix : HO → Prop
  | .tup _ => True
  | .frz _ _ => True
  | _ => False
/-- all that H tracks is as it was, but perhaps what stands at ws -/
structure Kp (ws : List Addr) (H H' : Hp) : Prop where
  at_ : ∀ a u, H a = some u → a ∉ ws → H' a = some u
  fix : ∀ a u, H a = some u → Fix u → H' a = some u
  dom : ∀ a u, H a = some u → ∃ v, H' a = some v
section
variable {ws us : List Addr} {H H1 H2 : Hp} {p : Addr} {o u : HO}
theorem Kp.refl : Kp ws H H := ⟨fun _ _ h _ => h, fun _ _ h _ => h, fun _ u h => ⟨u, h⟩⟩
theorem Kp.trans (a : Kp ws H H1) (b : Kp ws H1 H2) : Kp ws H H2 :=
  ⟨fun c u h n => b.at_ c u (a.at_ c u h n) n, fun c u h f => b.fix c u (a.fix c u h f) f,
    fun c u h => let ⟨v, e⟩ := a.dom c u h; b.dom c v e⟩
theorem Kp.mono (a : Kp ws H H1) (h : ∀ b ∈ ws, b ∈ us) : Kp us H H1 :=
  ⟨fun c u e n => a.at_ c u e fun q => n (h c q), a.fix, a.dom⟩
theorem Kp.wide (a : Kp [] H H1) : Kp ws H H1 := a.mono fun b h => (nomatch h)
theorem Kp.free (a : Kp ws H H1) (f : Fr H1 p) : Fr H p := by
  have h := f.e
  constructor
  cases q : H p with
  | none => rfl
  | some u =>
    obtain ⟨v, e⟩ := a.dom p u q
    rw [h] at e
    cases e
theorem Kp.new (f : Fr H p) : Kp ws H (upd H p o) := by
  have h := f.e
  have k : ∀ a u, H a = some u → upd H p o a = some u := fun a u e => by
    rw [upd_ne (ne_of_none e h)]
    exact e
  exact ⟨fun a u e _ => k a u e, fun a u e _ => k a u e, fun a u e => ⟨u, k a u e⟩⟩
/-- what H does not know may be written -/
theorem Kp.upd (a : Kp ws H H1) (f : Fr H p) : Kp ws H (upd H1 p o) := by
  have h := f.e
  have k : ∀ b u, H b = some u → L2.upd H1 p o b = H1 b := fun b u e => upd_ne (ne_of_none e h)
  exact ⟨fun b u e n => (k b u e).trans (a.at_ b u e n), fun b u e f => (k b u e).trans (a.fix b u e f),
    fun b u e => let ⟨v, q⟩ := a.dom b u e; ⟨v, (k b u e).trans q⟩⟩
theorem Kp.mut (h : H p = some u) (nf : ¬ Fix u) (hp : p ∈ ws) : Kp ws H (L2.upd H p o) := by
  refine ⟨fun a v e n => ?_, fun a v e f => ?_, fun a v e => ?_⟩
  · rw [upd_ne (fun (q : a = p) => n (by rw [q]; exact hp))]
    exact e
  · have q : a ≠ p := by
      intro q
      subst q
      rw [h] at e
      cases e
      exact nf f
    rw [upd_ne q]
    exact e
  · by_cases q : a = p
    · exact ⟨o, by rw [q, upd_same]⟩
    · exact ⟨v, by rw [upd_ne q]; exact e⟩
theorem Kp.upm {ys : List V} (a : Kp ws H H1) (h : H1 p = some (.lst ys)) (hp : p ∈ ws) :
    Kp ws H (L2.upd H1 p o) := a.trans (Kp.mut h (fun z => z) hp)
/-- what H does not know need not be named -/
theorem Kp.drop (a : Kp (p :: ws) H H1) (f : Fr H p) : Kp ws H H1 :=
  have h := f.e
  ⟨fun b u e n => a.at_ b u e (fun q => (List.mem_cons.mp q).elim (fun z => by
    rw [z, h] at e
    cases e) n), a.fix, a.dom⟩
theorem Kp.dropAll (a : Kp us H H1) (h : ∀ b ∈ us, b ∈ ws ∨ Fr H b) : Kp ws H H1 :=
  ⟨fun b u e n => a.at_ b u e (fun q => (h b q).elim n (fun z => by
    rw [z.e] at e
    cases e)), a.fix, a.dom⟩
theorem Kp.seqL {K : PySem.W.Frag} {l : Addr} {xs : List V} (a : Kp ws H H1) (n : l ∉ ws)
    (h : SqL K H l xs) : SqL K H1 l xs := by
  rcases h with (h | ⟨o, h⟩) | h
  · exact .inl (.inl (a.at_ _ _ h n))
  · exact .inl (.inr ⟨o, a.fix _ _ h trivial⟩)
  · exact .inr h
theorem Kp.seqT {K : PySem.W.Frag} {l : Addr} {xs : List V} (a : Kp ws H H1)
    (h : SqT K H l xs) : SqT K H1 l xs := by
  rcases h with (h | ⟨o, h⟩) | h
  · exact .inl (.inl (a.fix _ _ h trivial))
  · exact .inl (.inr ⟨o, a.fix _ _ h trivial⟩)
  · exact .inr h
end
mutual
/-- data that nothing changes: no list, no dict -/
def imm : PyData → Bool
  | .none => true
  | .bool _ => true
  | .int _ => true
  | .str _ => true
  | .tuple xs => imms xs
  | .list _ => false
  | .dict _ => false
def imms : List PyData → Bool
  | [] => true
  | x :: xs => imm x && imms xs
end
section
variable {K : PySem.W.Frag} {ws : List Addr} {H H1 : Hp}
mutual
theorem dp_imm (k : Kp ws H H1) : ∀ (d : PyData) (v : V), imm d = true → Dp K H v d → Dp K H1 v d
  | .none, _, _, h => by cases h; exact .non
  | .bool b, _, _, h => by cases h; exact .bl b
  | .int i, _, _, h => by cases h; exact .int i
  | .str x, _, _, h => by cases h; exact .str x
  | .tuple ds, _, hi, h => by
    cases h with
    | tup hs ha => exact .tup (k.seqT hs) (dpa_imm k ds _ (by simpa only [G.imm] using hi) ha)
  | .list _, _, hi, _ => by simp only [G.imm] at hi; cases hi
  | .dict _, _, hi, _ => by simp only [G.imm] at hi; cases hi
theorem dpa_imm (k : Kp ws H H1) : ∀ (ds : List PyData) (vs : List V), imms ds = true →
    DpAll K H vs ds → DpAll K H1 vs ds
  | [], _, _, h => by cases h; exact .nil
  | d :: ds, _, hi, h => by
    simp only [imms, Bool.and_eq_true] at hi
    cases h with
    | cons h1 h2 => exact .cons (dp_imm k d _ hi.1 h1) (dpa_imm k ds _ hi.2 h2)
end
theorem dpa_len : ∀ {ds : List PyData} {vs : List V}, DpAll K H vs ds → vs.length = ds.length
  | [], _, h => by cases h; rfl
  | _ :: ds, _, h => by
    cases h with
    | cons _ h2 => rw [List.length_cons, List.length_cons, dpa_len h2]
theorem dpa_app : ∀ {ds es : List PyData} {vs ys : List V}, DpAll K H vs ds → DpAll K H ys es →
    DpAll K H (vs ++ ys) (ds ++ es)
  | [], _, _, _, h, g => by cases h; exact g
  | _ :: _, _, _, _, h, g => by
    cases h with
    | cons h1 h2 => exact .cons h1 (dpa_app h2 g)
theorem dpa_get : ∀ {ds : List PyData} {vs : List V} {i : Nat} {d : PyData}, DpAll K H vs ds →
    ds[i]? = some d → ∃ v, vs[i]? = some v ∧ Dp K H v d
  | [], _, _, _, _, e => by simp at e
  | _ :: _, _, 0, _, h, e => by
    cases h with
    | cons h1 h2 =>
      simp at e
      subst e
      exact ⟨_, rfl, h1⟩
  | _ :: _, _, i + 1, _, h, e => by
    cases h with
    | cons h1 h2 =>
      obtain ⟨v, q, r⟩ := dpa_get (i := i) h2 (by simpa using e)
      exact ⟨v, by simpa using q, r⟩
theorem dpa_getV : ∀ {ds : List PyData} {vs : List V} {i : Nat} {v : V}, DpAll K H vs ds →
    vs[i]? = some v → ∃ d, ds[i]? = some d ∧ Dp K H v d
  | [], _, _, _, h, e => by cases h; simp at e
  | _ :: _, _, 0, _, h, e => by
    cases h with
    | cons h1 h2 =>
      simp at e
      subst e
      exact ⟨_, rfl, h1⟩
  | _ :: _, _, i + 1, _, h, e => by
    cases h with
    | cons h1 h2 =>
      obtain ⟨d, q, r⟩ := dpa_getV (i := i) h2 (by simpa using e)
      exact ⟨d, by simpa using q, r⟩
theorem dpa_set : ∀ {ds : List PyData} {vs : List V} {i : Nat} {v : V} {d : PyData},
    DpAll K H vs ds → Dp K H v d → DpAll K H (vs.set i v) (ds.set i d)
  | [], _, _, _, _, h, _ => by cases h; exact .nil
  | _ :: _, _, 0, _, _, h, g => by
    cases h with
    | cons h1 h2 => exact .cons g h2
  | _ :: _, _, i + 1, _, _, h, g => by
    cases h with
    | cons h1 h2 => exact .cons h1 (dpa_set h2 g)
theorem dpa_take : ∀ {ds : List PyData} {vs : List V} (i : Nat),
    DpAll K H vs ds → DpAll K H (vs.take i) (ds.take i)
  | [], _, _, h => by cases h; simp; exact .nil
  | _ :: _, _, 0, h => by simp; exact .nil
  | _ :: _, _, i + 1, h => by
    cases h with
    | cons h1 h2 => exact .cons h1 (dpa_take i h2)
theorem dpa_drop : ∀ {ds : List PyData} {vs : List V} (i : Nat),
    DpAll K H vs ds → DpAll K H (vs.drop i) (ds.drop i)
  | [], _, _, h => by cases h; simp; exact .nil
  | _ :: _, _, 0, h => by simpa using h
  | _ :: _, _, i + 1, h => by
    cases h with
    | cons h1 h2 => exact dpa_drop i h2
theorem dpa_one {v : V} {d : PyData} (h : Dp K H v d) : DpAll K H [v] [d] := .cons h .nil
/-- a tuple of two ints -/
abbrev d2 (p : Int × Int) : PyData := .tuple [.int p.1, .int p.2]
theorem dp_pair {v : V} {p : Int × Int} (h : Dp K H v (d2 p)) :
    ∃ a, v = .ref a ∧ SqT K H a [.int p.1, .int p.2] := by
  cases h with
  | tup hs ha =>
    cases ha with
    | cons h1 h2 =>
      cases h2 with
      | cons h3 h4 =>
        cases h4
        cases h1
        cases h3
        exact ⟨_, rfl, hs⟩
theorem dp_mk2 {a : Addr} {m n : Int} (h : SqT K H a [.int m, .int n]) :
    Dp K H (.ref a) (d2 (m, n)) := .tup h (.cons (.int m) (.cons (.int n) .nil))
theorem imms_d2 : ∀ l : List (Int × Int), imms (l.map d2) = true
  | [] => rfl
  | _ :: l => by
    simp only [List.map_cons, imms, G.imm, imms_d2 l]
    rfl
/-- a list of our own, of data that nothing changes -/
def LD (K : PySem.W.Frag) (H : Hp) (l : Addr) (ds : List PyData) : Prop :=
  ∃ vs, H l = some (.lst vs) ∧ DpAll K H vs ds
theorem LD.dp {l : Addr} {ds : List PyData} (h : LD K H l ds) : Dp K H (.ref l) (.list ds) := by
  obtain ⟨vs, e, q⟩ := h
  exact .lst (SqL.of e) q
theorem LD.kp {l : Addr} {ds : List PyData} (h : LD K H l ds) (k : Kp ws H H1) (hi : imms ds = true)
    (n : l ∉ ws) : LD K H1 l ds := by
  obtain ⟨vs, e, q⟩ := h
  exact ⟨vs, k.at_ _ _ e n, dpa_imm k _ _ hi q⟩
theorem LD.some {l : Addr} {ds : List PyData} (h : LD K H l ds) : H l ≠ none := by
  obtain ⟨vs, e, q⟩ := h
  rw [e]
  exact fun y => nomatch y
end
end G
namespace G
open PySem PySem.Spec PyProof.Rows L2

/-! ### one rule for several kinds of values -/
theorem orR {X : Cx} {f : Value → Value → Sem Value} {r r' : R2} (h : OpR X f r) (h' : OpR X f r') :
    OpR X f (fun x y H Q => r x y H Q ∨ r' x y H Q) := by
  intro pins s σ H x y v u Q I rx ry q
  cases q with
  | inl q => exact h pins s σ H x y v u Q I rx ry q
  | inr q => exact h' pins s σ H x y v u Q I rx ry q
theorem orC {X : Cx} {f : Value} {r r' : List V → Hp → VK → Prop} (h : CallR X f r)
    (h' : CallR X f r') : CallR X f (fun xs H Q => r xs H Q ∨ r' xs H Q) := by
  intro pins s σ H xs us Q I rx q
  cases q with
  | inl q => exact h pins s σ H xs us Q I rx q
  | inr q => exact h' pins s σ H xs us Q I rx q
def uAdd (K : PySem.W.Frag) : R2 := fun x y H Q => rI0 (fun i j => .int (i + j)) x y H Q ∨
  (∃ i j, x = .str i ∧ y = .str j ∧ i.length + j.length ≤ sizeLine ∧ Q (.str (i ++ j)) H) ∨
  rCat x y H Q ∨ rCatT K x y H Q
def uMul : R2 := fun x y H Q => rI CMul (fun i j => .int (i * j)) x y H Q ∨
  rI CMulW (fun i j => .int (i * j)) x y H Q ∨ rRep x y H Q
def uEq (K : PySem.W.Frag) : R2 := fun x y H Q => rEq x y H Q ∨ rEqD K x y H Q
def uNe (K : PySem.W.Frag) : R2 := fun x y H Q => rNe x y H Q ∨ rNeD K x y H Q
def uIx (K : PySem.W.Frag) : R2 := fun x y H Q => rIxL K x y H Q ∨ rIxT K x y H Q ∨ rIxS x y H Q
def uLen (K : PySem.W.Frag) : List V → Hp → VK → Prop := fun xs H Q =>
  (∃ p ys, xs = [.ref p] ∧ (SqL K H p ys ∨ SqT K H p ys) ∧ Q (.int ys.length) H) ∨
  (∃ z, xs = [.str z] ∧ z.length ≤ sizeLine ∧ Q (.int z.length) H)
section
variable {X : Cx}
theorem o_add : OpR X (binaryOp .Add) (uAdd X.K) := orR op_add (orR op_add_str (orR op_cat op_catT))
theorem o_mul : OpR X (binaryOp .Mult) uMul := orR op_mul (orR op_mulW op_rep)
theorem o_eq (hu : X.A.units + 64 < cLine) : OpR X (compareOp .Eq) (uEq X.K) := orR op_eq (op_eqD hu)
theorem o_ne (hu : X.A.units + 64 < cLine) : OpR X (compareOp .NotEq) (uNe X.K) := orR op_ne (op_neD hu)
theorem o_ix : IxR X (uIx X.K) := ix_list.or (ix_tup.or ix_str)
theorem c_len : CallR X (.builtin "len") (uLen X.K) := orC call_len_seq call_len_str
end

/-! ### readings from the front -/
section
variable {K : PySem.W.Frag} {σ : L2.St} {H : Hp} {Q : VK} {D : Ends} {t1 t2 : TS} {te ta tb tc : TE}
variable {i j : Nat} {v x y : V} {c u : TT} {tr : TA} {n m : Int} {b : Bool} {p : Addr}
variable {QB : Bool → Hp → Prop} {QA : List V → Hp → Prop} {xs : List V}
theorem i_seq (h : t1 { D with nx := t2 D } σ H) : tSeq t1 t2 D σ H := h
theorem i_next (h : D.nx σ H) : tNext D σ H := h
theorem i_set (h : te σ H fun x H1 => D.nx (σ.set i (some x)) H1) : tAsg te (gName i) D σ H := h
theorem i_asg {g : TG} (h : te σ H fun x H1 => g x σ H1 D.nx) : tAsg te g D σ H := h
theorem i_drop (h : te σ H fun _ H1 => D.nx σ H1) : tDrop te D σ H := h
theorem i_ret (h : te σ H D.rt) : tRet te D σ H := h
theorem i_retN (h : D.rt .non H) : tRetN D σ H := h
theorem i_brk (h : D.bk σ H) : tBreak D σ H := h
theorem i_cont (h : D.ct σ H) : tCont D σ H := h
theorem i_ifS (h : c σ H fun b H1 => if b = true then t1 D σ H1 else t2 D σ H1) : tIfS c t1 t2 D σ H := h
theorem i_aug {ti : TIp} (e : σ[i]? = some (some x))
    (h : te σ H fun y H1 => ti x y H1 fun z H2 => D.nx (σ.set i (some z)) H2) : tAug i te ti D σ H := ⟨x, e, h⟩
theorem i_ipI {f : Int → Int → Int} (h : Q (.int (f n m)) H) : ipI f (.int n) (.int m) H Q := ⟨n, m, rfl, rfl, h⟩
theorem i_par {i j : Nat} {tt : TA}
    (h : tt σ H fun vs H1 => ∃ v w, vs = [v, w] ∧ D.nx ((σ.set i (some v)).set j (some w)) H1) :
    tPar i j tt D σ H := h
theorem i_two {P : V → V → Prop} (h : P x y) : ∃ v w, [x, y] = [v, w] ∧ P v w := ⟨x, y, rfl, h⟩

theorem i_var (e : σ[i]? = some (some v)) (h : Q v H) : tVar i σ H Q := ⟨v, e, h⟩
theorem i_c (h : Q v H) : tC v σ H Q := h
theorem i_op {r : R2} (h : ta σ H fun x H1 => tb σ H1 fun y H2 => r x y H2 Q) : tOp r ta tb σ H Q := h
theorem i_un {r : V → Hp → VK → Prop} (h : ta σ H fun x H1 => r x H1 Q) : tUn r ta σ H Q := h
theorem i_I0 {g : Int → Int → V} (h : Q (g n m) H) : rI0 g (.int n) (.int m) H Q := ⟨n, m, rfl, rfl, h⟩
theorem i_I {g : Int → Int → V} {C : Int → Int → Prop} (hc : C n m) (h : Q (g n m) H) :
    rI C g (.int n) (.int m) H Q := ⟨n, m, rfl, rfl, hc, h⟩
theorem i_U {g : Int → V} (h : Q (g n) H) : rU g (.int n) H Q := ⟨n, rfl, h⟩
theorem i_addI (h : Q (.int (n + m)) H) : uAdd K (.int n) (.int m) H Q := .inl ⟨n, m, rfl, rfl, h⟩
theorem i_addS {z w : Str} (hz : z.length + w.length ≤ sizeLine) (h : Q (.str (z ++ w)) H) :
    uAdd K (.str z) (.str w) H Q := .inr (.inl ⟨z, w, rfl, rfl, hz, h⟩)
theorem i_mulI (hc : CMul n m) (h : Q (.int (n * m)) H) : uMul (.int n) (.int m) H Q :=
  .inl ⟨n, m, rfl, rfl, hc, h⟩
theorem i_mulW (hc : CMulW n m) (h : Q (.int (n * m)) H) : uMul (.int n) (.int m) H Q :=
  .inr (.inl ⟨n, m, rfl, rfl, hc, h⟩)
theorem i_eqI (h : Q (.bl (decide (n = m))) H) : uEq K (.int n) (.int m) H Q := by
  refine .inl ⟨rfl, ?_⟩
  have e : decide (V.int n = V.int m) = decide (n = m) := by
    rw [Bool.eq_iff_iff]
    simp
  rw [e]
  exact h
theorem i_neI (h : Q (.bl (!decide (n = m))) H) : uNe K (.int n) (.int m) H Q := by
  refine .inl ⟨rfl, ?_⟩
  have e : decide (V.int n = V.int m) = decide (n = m) := by
    rw [Bool.eq_iff_iff]
    simp
  rw [e]
  exact h
theorem i_eqS {z w : Str} (h : Q (.bl (decide (z = w))) H) : uEq K (.str z) (.str w) H Q := by
  refine .inl ⟨rfl, ?_⟩
  have e : decide (V.str z = V.str w) = decide (z = w) := by
    rw [Bool.eq_iff_iff]
    simp
  rw [e]
  exact h
theorem i_neS {z w : Str} (h : Q (.bl (!decide (z = w))) H) : uNe K (.str z) (.str w) H Q := by
  refine .inl ⟨rfl, ?_⟩
  have e : decide (V.str z = V.str w) = decide (z = w) := by
    rw [Bool.eq_iff_iff]
    simp
  rw [e]
  exact h
theorem i_eqD {d e : PyData} (hd : Dp K H x d) (he : Dp K H y e) (sd : SeqAt.shaped d = true)
    (se : SeqAt.shaped e = true) (h : Q (.bl (PyData.eqv d e)) H) : uEq K x y H Q :=
  .inr ⟨d, e, hd, he, sd, se, h⟩
theorem i_neD {d e : PyData} (hd : Dp K H x d) (he : Dp K H y e) (sd : SeqAt.shaped d = true)
    (se : SeqAt.shaped e = true) (h : Q (.bl (!PyData.eqv d e)) H) : uNe K x y H Q :=
  .inr ⟨d, e, hd, he, sd, se, h⟩
theorem i_ixL (hs : SqL K H p xs) (ha : atI xs n = some v) (h : Q v H) :
    uIx K (.ref p) (.int n) H Q := .inl ⟨p, xs, n, v, rfl, rfl, hs, ha, h⟩
theorem i_ixT (hs : SqT K H p xs) (ha : atI xs n = some v) (h : Q v H) :
    uIx K (.ref p) (.int n) H Q := .inr (.inl ⟨p, xs, n, v, rfl, rfl, hs, ha, h⟩)
theorem i_lenL (hs : SqL K H p xs) (h : Q (.int xs.length) H) : uLen K [.ref p] H Q :=
  .inl ⟨p, xs, rfl, .inl hs, h⟩
theorem i_lenT (hs : SqT K H p xs) (h : Q (.int xs.length) H) : uLen K [.ref p] H Q :=
  .inl ⟨p, xs, rfl, .inr hs, h⟩
theorem i_lenS {z : Str} (hz : z.length ≤ sizeLine) (h : Q (.int z.length) H) : uLen K [.str z] H Q :=
  .inr ⟨z, rfl, hz, h⟩

theorem i_test (h : te σ H fun x H1 => ∃ k, x = .bl k ∧ QB k H1) : tTest te σ H QB := h
theorem i_B (h : te σ H fun x H1 => ∃ k, x = .bl k ∧ QB k H1) : tB te σ H QB := h
theorem i_bl {P : Bool → Prop} (h : P b) : ∃ k, V.bl b = .bl k ∧ P k := ⟨b, rfl, h⟩
theorem i_and (h : c σ H fun b H1 => if b = true then u σ H1 QB else QB false H1) : tAnd c u σ H QB := h
theorem i_or (h : c σ H fun b H1 => if b = true then QB true H1 else u σ H1 QB) : tOr c u σ H QB := h
theorem i_not (h : c σ H fun b H1 => QB (!b) H1) : tNot c σ H QB := h
theorem i_andV (h : ta σ H fun x H1 => ∃ k, x = .bl k ∧ if k = true then tb σ H1 Q else Q (.bl false) H1) :
    tAndV ta tb σ H Q := h
theorem i_orV (h : ta σ H fun x H1 => ∃ k, x = .bl k ∧ if k = true then Q (.bl true) H1 else tb σ H1 Q) :
    tOrV ta tb σ H Q := h
theorem i_notV (h : ta σ H fun x H1 => ∃ k, x = .bl k ∧ Q (.bl (!k)) H1) : tNotV ta σ H Q := h
theorem i_ifE (h : c σ H fun b H1 => if b = true then ta σ H1 Q else tb σ H1 Q) : tIf c ta tb σ H Q := h
theorem i_chain {r r' : R2} (h : ta σ H fun x H1 => tb σ H1 fun y H2 => r x y H2 fun z H3 =>
    ∃ k, z = .bl k ∧ if k = true then tc σ H3 fun w H4 => r' y w H4 Q else Q (.bl false) H3) :
    tChain r r' ta tb tc σ H Q := h
theorem i_nil (h : QA [] H) : tNil σ H QA := h
theorem i_cons (h : te σ H fun x H1 => tr σ H1 fun xs H2 => QA (x :: xs) H2) : tCons te tr σ H QA := h
/-- for any new place -/
def New (H : Hp) (P : Addr → Prop) : Prop := ∀ p, H p = none → P p
theorem i_new {P : Addr → Prop} (h : ∀ p, Fr H p → P p) : New H P := fun p e => h p ⟨e⟩
theorem i_tup (h : tr σ H fun xs H1 => xs.length ≤ sizeLine ∧ New H1 fun p => Q (.ref p) (upd H1 p (.tup xs))) :
    tTup tr σ H Q := h
theorem i_lst (h : tr σ H fun xs H1 => xs.length ≤ sizeLine ∧ New H1 fun p => Q (.ref p) (upd H1 p (.lst xs))) :
    tLst tr σ H Q := h
theorem i_few {P : Prop} {n : Nat} (hn : n ≤ 1000) (h : P) : n ≤ sizeLine ∧ P :=
  ⟨Nat.le_trans hn (by decide), h⟩
theorem i_CB {r : List V → Hp → VK → Prop} (h : tr σ H fun vs H1 => r vs H1 Q) : tCB r tr σ H Q := h
theorem i_call {sp : Sp} {dvs : List V} {E : XK} (h : tr σ H fun vs H1 => sp (vs ++ dvs) H1 Q E) :
    tCall sp dvs E tr σ H Q := h
theorem i_BM {T : String} {r : V → List V → Hp → VK → Prop}
    (h : te σ H fun x H1 => tyV K T x H1 ∧ tr σ H1 fun xs H2 => r x xs H2 Q) : tBM K T r te tr σ H Q := h
theorem i_BM0 {T : String} {r : V → List V → Hp → VK → Prop}
    (h : te σ H fun x H1 => tyV K T x H1 ∧ r x [] H1 Q) : tBM0 K T r te σ H Q := h
theorem i_tyL {P : Prop} (hs : SqL K H p xs) (h : P) : tyV K "list" (.ref p) H ∧ P :=
  ⟨.inl ⟨rfl, xs, hs⟩, h⟩
theorem i_app (hs : H p = some (.lst xs)) (hz : xs.length < sizeLine)
    (h : Q .non (upd H p (.lst (xs ++ [y])))) : rAppend (.ref p) [y] H Q := ⟨p, xs, y, rfl, rfl, hs, hz, h⟩
theorem i_repr {d : PyData} (hd : Dp K H x d) (hs : shw d = true) (hdp : d.depth ≤ 60)
    (hz : cw d ≤ sizeLine) (h : Q (.str d.shown) H) : rRepr K [x] H Q := ⟨x, d, rfl, hd, hs, hdp, hz, h⟩
theorem i_setL {S : Hp → Prop} {k : Nat} (hs : H p = some (.lst xs)) (hj : ixN xs.length n = some k)
    (h : S (upd H p (.lst (xs.set k v)))) : rSetL (.ref p) (.int n) v H S := ⟨p, xs, n, k, rfl, rfl, hs, hj, h⟩
theorem i_iList {R : It → Hp → Prop} (h : te σ H fun x H1 => ∃ a, x = .ref a ∧ (∃ xs, SqL K H1 a xs) ∧ R (Itl K a) H1) :
    iList K te σ H R := h
theorem i_For {wi : TI} {g : TG} (h : wi σ H fun J H1 => ∃ W : Nat → Nat → L2.St → Hp → Prop, (∃ m, W 0 m σ H1) ∧ ∀ i m σ H, W i m σ H →
    (J.stop i H ∧ D.nx σ H) ∨ (J.go i H ∧ ∃ Nx : L2.St → Hp → Prop, (∀ σ' H', Nx σ' H' → ∃ m', m' < m ∧ W (i + 1) m' σ' H') ∧
      ∀ x H', J.yld i H x H' → g x σ H' fun σ2 H2 => t1 { D with nx := Nx, ct := Nx, bk := D.nx } σ2 H2)) :
    tFor wi g t1 D σ H := h
theorem i_iteT {A B : Prop} (h : A) : if true = true then A else B := iteT h
theorem i_iteF {A B : Prop} (h : B) : if false = true then A else B := iteF h
theorem i_ntT {A B : Prop} (h : B) : if (!true) = true then A else B := iteF h
theorem i_ntF {A B : Prop} (h : A) : if (!false) = true then A else B := iteT h
theorem i_dec {p A B : Prop} [Decidable p] (h1 : p → A) (h2 : ¬ p → B) :
    if decide p = true then A else B := by
  by_cases h : p
  · rw [decide_eq_true h]
    exact iteT (h1 h)
  · rw [decide_eq_false h]
    exact iteF (h2 h)
theorem i_decN {p A B : Prop} [Decidable p] (h1 : ¬ p → A) (h2 : p → B) :
    if (!decide p) = true then A else B := by
  by_cases h : p
  · rw [decide_eq_true h]
    exact iteF (h2 h)
  · rw [decide_eq_false h]
    exact iteT (h1 h)
theorem i_boo {b : Bool} {A B : Prop} (h1 : b = true → A) (h2 : b = false → B) :
    if b = true then A else B := by
  cases b
  · exact iteF (h2 rfl)
  · exact iteT (h1 rfl)
end
section
variable {P : Program} {w : World} {K : PySem.W.Frag} {mg : Str → Option Value} {base : Heap}
/-- a def of the text, by its body -/
theorem okG {x qual : Str} {st : Stmt} {f : Addr} {fd : FuncData} {N ps : List Str} {k : Nat} {sp : Sp}
    (F : L2.Fun K x qual st f fd) (S : FnScope N ps (defScope st))
    (len : ∀ vs H Q E, sp vs H Q E → vs.length = ps.length)
    (hb : ∀ (cdv : Value) (A : Around) (outer : List Env) (s : Shared) (H : Hp) (vs : List V)
      (Q : VK) (E : XK), RoomG k (A.deeper (envOfC qual (defScope st) s.heap.objs.size f cdv)) →
      sp vs H Q E →
      ∃ t, PSs (cxOf (L2.CX P w) P w K mg base N qual (defScope st) f cdv A outer s H E) (defBody st) t ∧
        t { nx := fun _ H' => Q .non H', rt := Q } (start N vs) H) :
    FnG P w K mg base (k + 1) f fd ps sp := by
  obtain ⟨oc, od, kV, doc, pm, an, cdv, ct, osl, rfl, lk, hcd⟩ := F.ex
  exact FnG.body lk hcd S len fun A outer s H vs Q E z h => hb cdv A outer s H vs Q E z h
end
end G
namespace G
open PySem PySem.Spec PyProof.Rows L2
section
variable {K : PySem.W.Frag} {σ : L2.St} {H : Hp} {Q : VK} {D : Ends} {tb : TS} {te : TE} {g : TG}
variable {a p q l : Addr} {xs vs : List V} {v x y : V} {ds : List PyData} {S : L2.St → Hp → Prop}
theorem st_1 {N : List Str} {a : V} : L2.start N [a] = some a :: List.replicate (N.length - 1) none := rfl
theorem st_2 {N : List Str} {a b : V} : L2.start N [a, b] = some a :: some b :: List.replicate (N.length - 2) none := rfl
theorem st_3 {N : List Str} {a b c : V} :
    L2.start N [a, b, c] = some a :: some b :: some c :: List.replicate (N.length - 3) none := rfl
theorem st_4 {N : List Str} {a b c d : V} : L2.start N [a, b, c, d] =
    some a :: some b :: some c :: some d :: List.replicate (N.length - 4) none := rfl
theorem st_5 {N : List Str} {a b c d e : V} : L2.start N [a, b, c, d, e] =
    some a :: some b :: some c :: some d :: some e :: List.replicate (N.length - 5) none := rfl
theorem st_6 {N : List Str} {a b c d e f : V} : L2.start N [a, b, c, d, e, f] =
    some a :: some b :: some c :: some d :: some e :: some f :: List.replicate (N.length - 6) none := rfl
theorem i_gTup {n : Nat} {t : TGs} (hs : SqT K H p xs) (hl : xs.length = n) (h : t xs σ H S) :
    gTup K n t (.ref p) σ H S := ⟨p, xs, rfl, hs, hl, h⟩
theorem i_gCons {t : TG} {u : TGs} (h : t v σ H fun σ' H' => u xs σ' H' S) :
    gCons t u (v :: xs) σ H S := ⟨v, xs, rfl, h⟩
theorem i_gNil (h : S σ H) : gNil [] σ H S := ⟨rfl, h⟩
theorem i_gName {i : Nat} (h : S (σ.set i (some v)) H) : gName i v σ H S := h
theorem i_gSub {to ti : TE} {t : TSet} (h : to σ H fun o H1 => ti σ H1 fun i H2 => t o i v H2 fun H3 => S σ H3) :
    gSub to ti t v σ H S := h
/-- a for over x, a list -/
def ForL (K : PySem.W.Frag) (x : V) (g : TG) (tb : TS) (D : Ends) (σ : L2.St) (H : Hp) : Prop :=
  ∃ a, x = .ref a ∧ (∃ ys, SqL K H a ys) ∧ ∃ W : Nat → Nat → L2.St → Hp → Prop,
    (∃ m, W 0 m σ H) ∧ ∀ i m σ H, W i m σ H → ((Itl K a).stop i H ∧ D.nx σ H) ∨
      ((Itl K a).go i H ∧ ∃ Nx : L2.St → Hp → Prop,
        (∀ σ' H', Nx σ' H' → ∃ m', m' < m ∧ W (i + 1) m' σ' H') ∧
        ∀ x H', (Itl K a).yld i H x H' → g x σ H' fun σ2 H2 =>
          tb { D with nx := Nx, ct := Nx, bk := D.nx } σ2 H2)
theorem i_forL (h : te σ H fun x H1 => ForL K x g tb D σ H1) : tFor (iList K te) g tb D σ H := h
theorem i_each (hs : SqL K H a xs) (Pv : Nat → L2.St → Hp → Prop) (h0 : Pv 0 σ H)
    (hl : ∀ i σ H, i ≤ xs.length → Pv i σ H → SqL K H a xs)
    (st : ∀ i x σ H, xs[i]? = some x → Pv i σ H → g x σ H fun σ2 H2 =>
      tb { D with nx := Pv (i + 1), ct := Pv (i + 1), bk := D.nx } σ2 H2)
    (hd : ∀ σ H, Pv xs.length σ H → D.nx σ H) : ForL K (.ref a) g tb D σ H :=
  ⟨a, rfl, ⟨_, hs⟩, for_list Pv h0 hl st hd⟩
/-- a for over range(n) -/
def ForR (vs : List V) (g : TG) (tb : TS) (D : Ends) (σ : L2.St) (H : Hp) : Prop :=
  ∃ j : Int, vs = [.int j] ∧ -(2 ^ 62) ≤ j ∧ j < 2 ^ 62 ∧
    ∃ W : Nat → Nat → L2.St → Hp → Prop, (∃ m, W 0 m σ H) ∧ ∀ i m σ H, W i m σ H →
      ((Itr 0 j.toNat).stop i H ∧ D.nx σ H) ∨ ((Itr 0 j.toNat).go i H ∧ ∃ Nx : L2.St → Hp → Prop,
        (∀ σ' H', Nx σ' H' → ∃ m', m' < m ∧ W (i + 1) m' σ' H') ∧
        ∀ x H', (Itr 0 j.toNat).yld i H x H' → g x σ H' fun σ2 H2 =>
          tb { D with nx := Nx, ct := Nx, bk := D.nx } σ2 H2)
theorem i_forR {ta : TA} (h : ta σ H fun vs H1 => ForR vs g tb D σ H1) : tFor (iRng1 ta) g tb D σ H := h
theorem i_turns {n : Int} (b1 : 0 ≤ n) (b2 : n < 2 ^ 62) (Pv : Nat → L2.St → Hp → Prop) (h0 : Pv 0 σ H)
    (st : ∀ (i : Nat) σ H, (i : Int) < n → Pv i σ H → g (.int i) σ H fun σ2 H2 =>
      tb { D with nx := Pv (i + 1), ct := Pv (i + 1), bk := D.nx } σ2 H2)
    (hd : ∀ σ H, Pv n.toNat σ H → D.nx σ H) : ForR [.int n] g tb D σ H := by
  refine ⟨n, rfl, by omega, b2, for_range Pv h0 (fun i σ H hi q => ?_) hd⟩
  have e : V.int (0 + (i : Int)) = V.int i := by rw [Int.zero_add]
  rw [e]
  exact st i σ H (by omega) q

theorem canLay_pairs : ∀ l : List (Int × Int), PyData.canLayAll0 (l.map d2) = true
  | [] => rfl
  | p :: l => by
    simp only [List.map_cons, PyData.canLayAll0, PyData.canLay0, canLay_pairs l]
    rfl
theorem depth_pairs : ∀ l : List (Int × Int), PyData.depthAll (l.map d2) ≤ 1
  | [] => Nat.zero_le _
  | p :: l => by
    simp only [List.map_cons, PyData.depthAll, PyData.depth]
    have q := depth_pairs l
    omega
theorem shaped_of {d : PyData} (h : d.canLay0 = true) (hd : d.depth ≤ 64) : SeqAt.shaped d = true := by
  unfold SeqAt.shaped
  rw [h, decide_eq_true hd]
  rfl
theorem shaped_pairs (l : List (Int × Int)) : SeqAt.shaped (.list (l.map d2)) = true := by
  refine shaped_of ?_ ?_
  · simp only [PyData.canLay0]
    exact canLay_pairs l
  · simp only [PyData.depth]
    have q := depth_pairs l
    omega
theorem shaped_nil : SeqAt.shaped (.list []) = true := by decide +kernel
theorem eqv_nil (ds : List PyData) : PyData.eqv (.list ds) (.list []) = ds.isEmpty := by
  cases ds <;> simp [PyData.eqv, PyData.eqvAll]
/-- xs == [], xs != [] -/
theorem eq_nil (ld : LD K H l ds) (hi : imms ds = true) (hs : SeqAt.shaped (.list ds) = true)
    (hq : Fr H q) (h : Q (.bl ds.isEmpty) (upd H q (.lst []))) :
    uEq K (.ref l) (.ref q) (upd H q (.lst [])) Q := by
  refine i_eqD (LD.dp (ld.kp (Kp.new hq) hi List.not_mem_nil)) (.lst (SqL.of upd_same) .nil) hs
    shaped_nil ?_
  rw [eqv_nil]
  exact h
theorem ne_nil (ld : LD K H l ds) (hi : imms ds = true) (hs : SeqAt.shaped (.list ds) = true)
    (hq : Fr H q) (h : Q (.bl (!ds.isEmpty)) (upd H q (.lst []))) :
    uNe K (.ref l) (.ref q) (upd H q (.lst [])) Q := by
  refine i_neD (LD.dp (ld.kp (Kp.new hq) hi List.not_mem_nil)) (.lst (SqL.of upd_same) .nil) hs
    shaped_nil ?_
  rw [eqv_nil]
  exact h
theorem dpa_last {d : PyData} : ∀ {ds : List PyData} {vs : List V}, DpAll K H vs (ds ++ [d]) →
    ∃ us x, vs = us ++ [x] ∧ DpAll K H us ds ∧ Dp K H x d
  | [], _, h => by
    cases h with
    | cons h1 h2 =>
      cases h2
      exact ⟨[], _, rfl, .nil, h1⟩
  | _ :: ds, _, h => by
    cases h with
    | cons h1 h2 =>
      obtain ⟨us, x, e, q1, q2⟩ := dpa_last h2
      exact ⟨_ :: us, x, by rw [e]; rfl, .cons h1 q1, q2⟩
theorem list_last {α : Type} {l : List α} (h : l ≠ []) : ∃ f q, l = f ++ [q] :=
  ⟨l.dropLast, l.getLast h, (List.dropLast_concat_getLast h).symm⟩
theorem ix_last (n : Nat) : ixN (n + 1) (-1) = some n := by
  unfold ixN
  rw [if_neg (by decide), if_pos (by omega)]
  congr 1
  omega
theorem set_last {α : Type} (l : List α) (a b : α) : (l ++ [a]).set l.length b = l ++ [b] := by
  rw [List.set_append_right _ _ (Nat.le_refl _)]
  simp
theorem upd_nn {o : HO} {u : Option HO} {b : Addr} (h : b ≠ a) (k : H b = u) : upd H a o b = u :=
  (upd_ne h).trans k
/-- what is not tracked then was not tracked before -/
def Old (H H' : Hp) : Prop := ∀ a, H' a = none → H a = none
theorem Old.refl : Old H H := fun _ h => h
theorem old_upd {H1 : Hp} {o : HO} (h : Old H H1) : Old H (upd H1 p o) := fun x e => by
  refine h x ?_
  by_cases z : x = p
  · rw [z, upd_same] at e
    cases e
  · rw [upd_ne z] at e
    exact e
theorem old_kp {H1 H2 : Hp} {ws : List Addr} (k : Kp ws H1 H2) (h : Old H H1) : Old H H2 :=
  fun x e => h x (k.free ⟨e⟩).e
theorem fr_of {H1 : Hp} {x : Addr} (h : Fr H1 x) (o : Old H H1) : Fr H x := ⟨o x h.e⟩
theorem small_sz {n : Nat} (h : n ≤ 1000000) : n < sizeLine := Nat.lt_of_le_of_lt h (by decide)
theorem sqT_new {o : HO} (h : SqT K H a xs) (hq : Fr H q) : SqT K (upd H q o) a xs :=
  (Kp.new (ws := []) hq).seqT h
theorem sqT_lst {o : HO} {ys : List V} (h : SqT K H a xs) (hq : H q = some (.lst ys)) :
    SqT K (upd H q o) a xs :=
  (Kp.mut (ws := [q]) hq (fun z => z) (List.mem_singleton.mpr rfl)).seqT h
theorem i_boN {b : Bool} {A B : Prop} (h1 : b = false → A) (h2 : b = true → B) :
    if (!b) = true then A else B := by
  cases b
  · exact iteT (h1 rfl)
  · exact iteF (h2 rfl)
theorem map_get {α β : Type} {l : List α} {f : α → β} {i : Nat} {d : β} (h : (l.map f)[i]? = some d) :
    ∃ p, l[i]? = some p ∧ d = f p := by
  rw [List.getElem?_map] at h
  cases e : l[i]? with
  | none => rw [e] at h; cases h
  | some p => rw [e] at h; cases h; exact ⟨p, rfl, rfl⟩
end
end G
namespace G
open PySem PySem.Spec PyProof.Rows L2
section
variable {K : PySem.W.Frag} {σ : L2.St} {H : Hp} {Q : VK} {n m : Int} {a p : Addr} {xs : List V} {v : V}
def rAbs : List V → Hp → VK → Prop := fun xs H Q => ∃ i, xs = [.int i] ∧ Q (.int (if i < 0 then -i else i)) H
def rMax2 : List V → Hp → VK → Prop := fun xs H Q => ∃ i j, xs = [.int i, .int j] ∧ Q (.int (if j > i then j else i)) H
def rMin2 : List V → Hp → VK → Prop := fun xs H Q => ∃ i j, xs = [.int i, .int j] ∧ Q (.int (if j < i then j else i)) H
def rDm : List V → Hp → VK → Prop := fun xs H Q => ∃ i j, xs = [.int i, .int j] ∧ CDivP i j ∧
  ∀ p, H p = none → Q (.ref p) (upd H p (.tup [.int (i / j), .int (i % j)]))
def rListOf (K : PySem.W.Frag) : List V → Hp → VK → Prop := fun xs H Q => ∃ p ys, xs = [.ref p] ∧
  (SqL K H p ys ∨ SqT K H p ys) ∧ ∀ l, H l = none → Q (.ref l) (upd H l (.lst ys))
def rPow : R2 := rI CPow fun i j => .int (i ^ j.toNat)
def uMod : R2 := rI (fun _ j => 0 < j) fun i j => .int (i % j)
def uDiv : R2 := rI CDivW fun i j => .int (i / j)
theorem c_abs {X : Cx} : CallR X (.builtin "abs") rAbs := call_abs
theorem c_max2 {X : Cx} (hc : X.calm = true) : CallR X (.builtin "max") rMax2 := call_max2 hc
theorem c_min2 {X : Cx} (hc : X.calm = true) : CallR X (.builtin "min") rMin2 := call_min2 hc
theorem c_dm {X : Cx} : CallR X (.builtin "divmod") rDm := call_divmodW
theorem c_list {X : Cx} : CallR X (.type "list") (rListOf X.K) := call_list_of
theorem o_pow {X : Cx} : OpR X (binaryOp .Pow) rPow := op_pow
theorem o_mod {X : Cx} : OpR X (binaryOp .Mod) uMod := op_mod
theorem o_div {X : Cx} : OpR X (binaryOp .FloorDiv) uDiv := op_fdivW
theorem i_abs (h : Q (.int (n.natAbs : Int)) H) : rAbs [.int n] H Q := by
  refine ⟨n, rfl, ?_⟩
  have e : (if n < 0 then -n else n) = (n.natAbs : Int) := by split <;> omega
  rw [e]
  exact h
theorem i_max2 (h : Q (.int (max n m)) H) : rMax2 [.int n, .int m] H Q := by
  refine ⟨n, m, rfl, ?_⟩
  have e : (if m > n then m else n) = max n m := by
    rw [Int.max_def]
    split <;> split <;> omega
  rw [e]
  exact h
theorem i_min2 (h : Q (.int (min n m)) H) : rMin2 [.int n, .int m] H Q := by
  refine ⟨n, m, rfl, ?_⟩
  have e : (if m < n then m else n) = min n m := by
    rw [Int.min_def]
    split <;> split <;> omega
  rw [e]
  exact h
theorem i_mod (hc : 0 < m) (h : Q (.int (n % m)) H) : uMod (.int n) (.int m) H Q := ⟨n, m, rfl, rfl, hc, h⟩
theorem i_listL (hs : SqL K H p xs) (h : New H fun l => Q (.ref l) (upd H l (.lst xs))) :
    rListOf K [.ref p] H Q := ⟨p, xs, rfl, .inl hs, h⟩
theorem i_listT (hs : SqT K H p xs) (h : New H fun l => Q (.ref l) (upd H l (.lst xs))) :
    rListOf K [.ref p] H Q := ⟨p, xs, rfl, .inr hs, h⟩
theorem pow_go {k : Int} (e : (10 : Int) ^ m.toNat = k) (hm : 0 ≤ m ∧ m ≤ 1000000) (h : Q (.int k) H) :
    rPow (.int 10) (.int m) H Q :=
  ⟨10, m, rfl, rfl, ⟨hm.1, hm.2, by decide⟩, by
    show Q (.int (10 ^ m.toNat)) H
    rw [e]
    exact h⟩
theorem i_pw6 (h : Q (.int 1000000) H) : rPow (.int 10) (.int 6) H Q :=
  pow_go rfl (by decide) h
theorem i_pw16 (h : Q (.int 10000000000000000) H) : rPow (.int 10) (.int 16) H Q :=
  pow_go rfl (by decide) h
theorem i_pw18 (h : Q (.int 1000000000000000000) H) :
    rPow (.int 10) (.int 18) H Q := pow_go rfl (by decide) h
theorem i_pw58 (h : Q (.int 10000000000000000000000000000000000000000000000000000000000) H) :
    rPow (.int 10) (.int 58) H Q := pow_go rfl (by decide) h
theorem i_pw59 (h : Q (.int 100000000000000000000000000000000000000000000000000000000000) H) :
    rPow (.int 10) (.int 59) H Q := pow_go rfl (by decide) h
theorem i_pw60 (h : Q (.int 1000000000000000000000000000000000000000000000000000000000000) H) :
    rPow (.int 10) (.int 60) H Q := pow_go rfl (by decide) h
theorem i_pw61 (h : Q (.int 10000000000000000000000000000000000000000000000000000000000000) H) :
    rPow (.int 10) (.int 61) H Q := pow_go rfl (by decide) h
theorem log_small {j : Int} (h0 : 0 < j) (h : j ≤ 10000000000000000000000000000000000000000000000000000000000000000000000) :
    j.natAbs.log2 < 9000 := by
  have h1 : j.natAbs < 2 ^ 9000 := by
    have h2 : j.natAbs ≤ 10 ^ 70 := by
      have e : ((10 ^ 70 : Nat) : Int) = 10000000000000000000000000000000000000000000000000000000000000000000000 := by rfl
      omega
    exact Nat.lt_of_le_of_lt h2 (by decide +kernel)
  exact (Nat.log2_lt (by omega)).mpr h1
theorem divp_small {i j : Int} (h0 : 0 < j) (h : j.natAbs.log2 < 9000) : CDivP i j := by
  refine ⟨h0, ?_⟩
  have nz : ¬ (j == 0) = true := by
    simpa using (show j ≠ 0 by omega)
  unfold Builtin.divisionGoesByPylong
  simp only [nz]
  have e : ¬ (j.natAbs.log2 / 30 + 1 > 300) := by omega
  first
    | (simp only [e, decide_false, Bool.false_and]; done)
    | (simp [e]; done)
    | (simp; omega)
theorem i_dm (h0 : 0 < m)
    (h1 : m ≤ 10000000000000000000000000000000000000000000000000000000000000000000000)
    (h : New H fun q => Q (.ref q) (upd H q (.tup [.int (n / m), .int (n % m)]))) :
    rDm [.int n, .int m] H Q := ⟨n, m, rfl, divp_small h0 (log_small h0 h1), h⟩
theorem i_div (h0 : 0 < m)
    (h1 : m ≤ 10000000000000000000000000000000000000000000000000000000000000000000000)
    (h : Q (.int (n / m)) H) : uDiv (.int n) (.int m) H Q := ⟨n, m, rfl, rfl, ⟨h0, log_small h0 h1⟩, h⟩
/-- a pot: two numbers from which draws come -/
def PotAt (H : Hp) (p : Addr) : Prop :=
  ∃ x y : Int, H p = some (.lst [.int x, .int y]) ∧ 0 ≤ x ∧ 0 ≤ y ∧ y < 8589934592
theorem PotAt.kp {ws : List Addr} {H1 : Hp} (h : PotAt H p) (k : Kp ws H H1) (hp : p ∉ ws) : PotAt H1 p := by
  obtain ⟨x, y, e, r⟩ := h
  exact ⟨x, y, k.at_ _ _ e hp, r⟩
end
end G
namespace G
open PySem PySem.Spec PyProof.Rows L2
def dty : PyData → String
  | .none => "NoneType"
  | .bool _ => "bool"
  | .int _ => "int"
  | .str _ => "str"
  | .list _ => "list"
  | .tuple _ => "tuple"
  | .dict _ => "dict"
section
variable {K : PySem.W.Frag} {σ : L2.St} {H : Hp} {Q : VK} {n m : Int} {a p : Addr} {xs : List V} {v : V} {d : PyData}
theorem dp_ty (h : Dp K H v d) : TyX K H v (.type (dty d)) := by
  cases h with
  | non => exact .base .non
  | bl b => exact .base (.bl b)
  | int i => exact .base (.int i)
  | str x => exact .base (.str x)
  | lst hs ha =>
    rcases hs with (h | ⟨o, h⟩) | ⟨o, its, k, e, c, r⟩
    · exact .base (.lst h)
    · exact .base (.frz h)
    · exact .kList e c
  | tup hs ha =>
    rcases hs with (h | ⟨o, h⟩) | ⟨o, its, k, e, c, r⟩
    · exact .base (.tup h)
    · exact .fTuple h
    · exact .kTuple e c
theorem i_isD {T : String} {b : Bool} (hd : Dp K H v d) (e : kitB (dty d) T = some b) (h : Q (.bl b) H) :
    rIsi K [v, .ty T] H Q := ⟨v, .ty T, _, _, b, rfl, .ty T, dp_ty hd, kit_ty e, h⟩
theorem i_revL {te : TE} (h : te σ H fun x H1 => ∃ a xs, x = .ref a ∧ SqL K H1 a xs ∧
    New H1 fun p => Q (.ref p) (upd H1 p (.lst xs.reverse))) : tRevL K te σ H Q := h
theorem i_revd {P : Addr → List V → Prop} (hs : SqL K H a xs) (h : P a xs) :
    ∃ b ys, V.ref a = .ref b ∧ SqL K H b ys ∧ P b ys := ⟨a, xs, rfl, hs, h⟩
def rIns : V → List V → Hp → VK → Prop := fun x vs H Q => ∃ (l : Addr) (xs : List V) (i : Int) (y : V),
  x = .ref l ∧ vs = [.int i, y] ∧ H l = some (.lst xs) ∧ xs.length < sizeLine ∧ 0 ≤ i ∧ i < 2 ^ 63 ∧
  Q .non (upd H l (.lst (xs.take i.toNat ++ [y] ++ xs.drop i.toNat)))
theorem m_insert {X : Cx} : MtR X "list.insert" rIns := mt_insert
theorem i_ins0 {y : V} (hs : H p = some (.lst xs)) (hz : xs.length < sizeLine)
    (h : Q .non (upd H p (.lst (y :: xs)))) : rIns (.ref p) [.int 0, y] H Q :=
  ⟨p, xs, 0, y, rfl, rfl, hs, hz, by decide, by decide, h⟩
theorem i_call0 {sp : Sp} {E : XK} {tr : TA} (h : tr σ H fun vs H1 => sp vs H1 Q E) :
    tCall sp [] E tr σ H Q := by
  unfold tCall
  simp only [List.append_nil]
  exact h
def rAllB (K : PySem.W.Frag) : List V → Hp → VK → Prop := rAll K
theorem i_all {bs : List Bool} (hs : SqL K H p (bs.map V.bl)) (h : Q (.bl (bs.all id)) H) :
    rAll K [.ref p] H Q := ⟨p, bs, rfl, hs, h⟩
theorem i_any {bs : List Bool} (hs : SqL K H p (bs.map V.bl)) (h : Q (.bl (bs.any id)) H) :
    rAny K [.ref p] H Q := ⟨p, bs, rfl, hs, h⟩
theorem i_sum {ns : List Int} (hs : SqL K H p (ns.map V.int)) (h : Q (.int ns.sum) H) :
    rSum K [.ref p] H Q := ⟨p, ns, rfl, hs, h⟩
/-- an item by an index that is not written -/
theorem at_in {l : List V} {r : Int} (h0 : 0 ≤ r) (h1 : r < l.length) : ∃ v, atI l r = some v ∧ v ∈ l := by
  obtain ⟨k, rfl⟩ : ∃ k : Nat, r = k := ⟨r.toNat, by omega⟩
  have hl : k < l.length := by omega
  exact ⟨l[k], atI_nat (by simp), List.getElem_mem hl⟩
end
section
variable {K : PySem.W.Frag} {σ : L2.St} {H H1 : Hp} {Q : VK} {a p l : Addr} {xs : List V} {g : TG} {tt : TT} {te : TE} {vs : List Nat} {QB : Bool → Hp → Prop}
/-- a comprehension over x, a list -/
def LcL (K : PySem.W.Frag) (x : V) (g : TG) (tt : TT) (te : TE) (vs : List Nat) (σ : L2.St) (H1 : Hp) (Q : VK) : Prop :=
  ∃ a, x = .ref a ∧ (∃ xs, SqL K H1 a xs) ∧ ∀ D, H1 D = none →
    ∃ W : Nat → Nat → Hp → Prop, (∃ m, W 0 m (upd H1 D (.lst []))) ∧ ∀ i m H, W i m H →
      ((Itl K a).stop i H ∧ Q (.ref D) H) ∨ ((Itl K a).go i H ∧ ∃ Nx : Hp → Prop,
        (∀ H', Nx H' → ∃ m', m' < m ∧ W (i + 1) m' H') ∧
        ∀ x H', (Itl K a).yld i H x H' → g x (wipe σ vs) H' fun σ2 H2 => wipe σ2 vs = wipe σ vs ∧ tt σ2 H2 fun b H3 =>
          if b = true then te σ2 H3 fun y H4 => ∃ acc, H4 D = some (.lst acc) ∧ acc.length < sizeLine ∧
            Nx (upd H4 D (.lst (acc ++ [y]))) else Nx H3)
theorem i_lcL {te' : TE} (h : te' σ H fun x H1 => LcL K x g tt te vs σ H1 Q) :
    tLc (iList K te') g tt te vs σ H Q := h
theorem i_elts (hs : SqL K H a xs) (Pv : Addr → Nat → Hp → Prop)
    (h0 : ∀ D, Fr H D → Pv D 0 (upd H D (.lst [])))
    (hl : ∀ D i H', Fr H D → i ≤ xs.length → Pv D i H' → SqL K H' a xs)
    (st : ∀ D i x H', Fr H D → xs[i]? = some x → Pv D i H' → g x (wipe σ vs) H' fun σ2 H2 =>
      wipe σ2 vs = wipe σ vs ∧ tt σ2 H2 fun b H3 => if b = true then te σ2 H3 fun y H4 =>
        ∃ acc, H4 D = some (.lst acc) ∧ acc.length < sizeLine ∧ Pv D (i + 1) (upd H4 D (.lst (acc ++ [y])))
        else Pv D (i + 1) H3)
    (hd : ∀ D H', Fr H D → Pv D xs.length H' → Q (.ref D) H') : LcL K (.ref a) g tt te vs σ H Q := by
  refine ⟨a, rfl, ⟨_, hs⟩, fun D hD => ?_⟩
  exact lc_list (K := K) (a := a) (xs := xs) (Pv D) (h0 D ⟨hD⟩) (fun i H' => hl D i H' ⟨hD⟩)
    (fun i x H' => st D i x H' ⟨hD⟩) (fun H' => hd D H' ⟨hD⟩)
def LcR (ws : List V) (g : TG) (tt : TT) (te : TE) (vs : List Nat) (σ : L2.St) (H1 : Hp) (Q : VK) : Prop :=
  ∃ j : Int, ws = [.int j] ∧ -(2 ^ 62) ≤ j ∧ j < 2 ^ 62 ∧ ∀ D, H1 D = none →
    ∃ W : Nat → Nat → Hp → Prop, (∃ m, W 0 m (upd H1 D (.lst []))) ∧ ∀ i m H, W i m H →
      ((Itr 0 j.toNat).stop i H ∧ Q (.ref D) H) ∨ ((Itr 0 j.toNat).go i H ∧ ∃ Nx : Hp → Prop,
        (∀ H', Nx H' → ∃ m', m' < m ∧ W (i + 1) m' H') ∧
        ∀ x H', (Itr 0 j.toNat).yld i H x H' → g x (wipe σ vs) H' fun σ2 H2 => wipe σ2 vs = wipe σ vs ∧ tt σ2 H2 fun b H3 =>
          if b = true then te σ2 H3 fun y H4 => ∃ acc, H4 D = some (.lst acc) ∧ acc.length < sizeLine ∧
            Nx (upd H4 D (.lst (acc ++ [y]))) else Nx H3)
theorem i_lcR {ta : TA} (h : ta σ H fun ws H1 => LcR ws g tt te vs σ H1 Q) :
    tLc (iRng1 ta) g tt te vs σ H Q := h
theorem i_reps {n : Int} (b1 : 0 ≤ n) (b2 : n < 2 ^ 62) (Pv : Addr → Nat → Hp → Prop)
    (h0 : ∀ D, Fr H D → Pv D 0 (upd H D (.lst [])))
    (st : ∀ D (i : Nat) H', Fr H D → (i : Int) < n → Pv D i H' → g (.int i) (wipe σ vs) H' fun σ2 H2 =>
      wipe σ2 vs = wipe σ vs ∧ tt σ2 H2 fun b H3 => if b = true then te σ2 H3 fun y H4 =>
        ∃ acc, H4 D = some (.lst acc) ∧ acc.length < sizeLine ∧ Pv D (i + 1) (upd H4 D (.lst (acc ++ [y])))
        else Pv D (i + 1) H3)
    (hd : ∀ D H', Fr H D → Pv D n.toNat H' → Q (.ref D) H') : LcR [.int n] g tt te vs σ H Q := by
  refine ⟨n, rfl, by omega, b2, fun D hD => ?_⟩
  refine lc_range (lo := 0) (n := n.toNat) (Pv D) (h0 D ⟨hD⟩) (fun i H' hi q => ?_) (fun H' => hd D H' ⟨hD⟩)
  have e : V.int (0 + (i : Int)) = V.int i := by rw [Int.zero_add]
  rw [e]
  exact st D i H' ⟨hD⟩ (by omega) q
theorem i_wipe {σ2 : L2.St} {P : Prop} (e : wipe σ2 vs = wipe σ vs) (h : P) : wipe σ2 vs = wipe σ vs ∧ P := ⟨e, h⟩
theorem i_yes (h : QB true H) : tYes σ H QB := h
theorem i_acc {D : Addr} {y : V} {P : Hp → Prop} {acc : List V} (h1 : H D = some (.lst acc)) (h2 : acc.length < sizeLine)
    (h : P (upd H D (.lst (acc ++ [y])))) : ∃ acc, H D = some (.lst acc) ∧ acc.length < sizeLine ∧ P (upd H D (.lst (acc ++ [y]))) :=
  ⟨acc, h1, h2, h⟩
end
end G
namespace G
open PySem PySem.Spec PyProof.Rows L2
section
variable {K : PySem.W.Frag} {H H1 : Hp} {a p l q : Addr} {ws : List Addr} {o u : HO} {ds : List PyData}
theorem kp_at (k : Kp ws H H1) (h : H a = some u) (n : a ∉ ws) : H1 a = some u := k.at_ a u h n
theorem not_nil {α : Type} {a : α} : a ∉ ([] : List α) := List.not_mem_nil
theorem not_one {a b : Addr} (h : a ≠ b) : a ∉ [b] := fun z => h (List.mem_singleton.mp z)
theorem not_two {a b c : Addr} (h : a ≠ b) (h2 : a ≠ c) : a ∉ [b, c] := fun z => by
  rcases List.mem_cons.mp z with z | z
  · exact h z
  · exact h2 (List.mem_singleton.mp z)
theorem pot_upd (h : PotAt H p) (n : p ≠ q) : PotAt (upd H q o) p := by
  obtain ⟨x, y, e, r⟩ := h
  exact ⟨x, y, by rw [upd_ne n]; exact e, r⟩
theorem PotAt.ne {x : Addr} (h : PotAt H p) (f : Fr H x) : p ≠ x := by
  have hx := f.e
  obtain ⟨_, _, e, _⟩ := h
  exact ne_of_none e hx
theorem pot_ne {x : Addr} (hx : Fr H x) (h : PotAt H p) : p ≠ x := h.ne hx
theorem LD.ne {x : Addr} (h : LD K H l ds) (f : Fr H x) : l ≠ x := by
  have hx := f.e
  obtain ⟨_, e, _⟩ := h
  exact ne_of_none e hx
theorem ld_ne {x : Addr} (f : Fr H x) (h : LD K H l ds) : l ≠ x := h.ne f
theorem ld_upd (h : LD K H l ds) (hi : imms ds = true) (hq : Fr H q) : LD K (upd H q o) l ds := by
  have k : Kp ([] : List Addr) H (upd H q o) := Kp.new hq
  exact h.kp k hi not_nil
theorem ld_upl {ys : List V} (h : LD K H l ds) (hi : imms ds = true) (hq : H q = some (.lst ys))
    (n : l ≠ q) : LD K (upd H q o) l ds := by
  have k : Kp [q] H (upd H q o) := Kp.mut hq (fun z => z) (List.mem_singleton.mpr rfl)
  exact h.kp k hi (not_one n)
theorem sqL_new {xs : List V} (h : SqL K H a xs) (f : Fr H q) : SqL K (upd H q o) a xs :=
  (Kp.new (ws := []) f).seqL not_nil h
theorem sqL_kp {xs : List V} (k : Kp ws H H1) (h : SqL K H a xs) (n : a ∉ ws) : SqL K H1 a xs := k.seqL n h
theorem at_zero {x : V} {xs : List V} : atI (x :: xs) 0 = some x := atI_nat (j := 0) rfl
theorem ix_zero (n : Nat) : ixN (n + 1) 0 = some 0 := by
  unfold ixN
  rw [if_pos (by decide), if_pos (by omega)]
  rfl
theorem dpa_rev : ∀ {ds : List PyData} {vs : List V}, DpAll K H vs ds → DpAll K H vs.reverse ds.reverse
  | [], _, h => by cases h; exact .nil
  | _ :: _, _, h => by
    cases h with
    | cons h1 h2 =>
      rw [List.reverse_cons, List.reverse_cons]
      exact dpa_app (dpa_rev h2) (dpa_one h1)
/-- something is put behind -/
theorem ld_app {y : V} {d : PyData} {vs : List V} (h : DpAll K H vs ds) (e : H l = some (.lst vs))
    (hi : imms ds = true) (hd : Dp K H y d) (hj : imm d = true) : LD K (upd H l (.lst (vs ++ [y]))) l (ds ++ [d]) := by
  have k : Kp [l] H (upd H l (.lst (vs ++ [y]))) := Kp.mut e (fun z => z) (List.mem_singleton.mpr rfl)
  exact ⟨_, upd_same, dpa_app (dpa_imm k _ _ hi h) (dpa_one (dp_imm k _ _ hj hd))⟩
end
end G

namespace G
open PySem PySem.Spec PyProof.Rows L2
/-! the same rules, the written part named -/
section
variable {X : Cx} {K : PySem.W.Frag} {e : Expr} {es : List Expr} {te : TE} {t : TGs} {f : Str} {pos : Pos} {tg : Expr}
theorem k_add (h : X.K = K) : OpR X (binaryOp .Add) (uAdd K) := h ▸ o_add
theorem k_eq (h : X.K = K) (hu : X.A.units + 64 < cLine) : OpR X (compareOp .Eq) (uEq K) := h ▸ o_eq hu
theorem k_ne (h : X.K = K) (hu : X.A.units + 64 < cLine) : OpR X (compareOp .NotEq) (uNe K) := h ▸ o_ne hu
theorem k_ix (h : X.K = K) : IxR X (uIx K) := h ▸ o_ix
theorem k_len (h : X.K = K) : CallR X (.builtin "len") (uLen K) := h ▸ c_len
theorem k_list (h : X.K = K) : CallR X (.type "list") (rListOf K) := h ▸ c_list
theorem k_repr (h : X.K = K) (hg : X.A.guards = some []) (hu : X.A.units + 64 < cLine) :
    CallR X (.builtin "repr") (rRepr K) := h ▸ call_repr hg hu
theorem k_all (h : X.K = K) (hc : X.calm = true) : CallR X (.builtin "all") (rAll K) := h ▸ cr_all hc
theorem k_any (h : X.K = K) (hc : X.calm = true) : CallR X (.builtin "any") (rAny K) := h ▸ cr_any hc
theorem k_sum (h : X.K = K) (hc : X.calm = true) : CallR X (.builtin "sum") (rSum K) := h ▸ cr_sum hc
theorem k_isi (h : X.K = K) : CallR X (.builtin "isinstance") (rIsi K) := h ▸ call_isi
theorem k_sl (h : X.K = K) : SlR X (rSlL K) := h ▸ sl_list
theorem k_slT (h : X.K = K) : SlR X (rSlT K) := h ▸ sl_tup
theorem k_in (h : X.K = K) : OpR X (compareOp .In) (rIn K false) := h ▸ op_in_seq
theorem k_nin (h : X.K = K) : OpR X (compareOp .NotIn) (rIn K true) := h ▸ op_notIn_seq
theorem k_fld (h : X.K = K) (he : PE X e te) (hb : attributeBase e f X.env (eval e X.env) = eval e X.env) :
    PE X (.Attribute e f pos) (tFld K te f) := h ▸ pe_fld he hb
theorem k_plist (h : X.K = K) (he : PE X e te) : PI X tg e (iList K te) := h ▸ pi_list he
theorem k_ptup (h : X.K = K) (he : PE X e te) : PI X tg e (iTup K te) := h ▸ pi_tup he
theorem k_rev {k : Nat} {p1 p2 p3 : Pos} (h : X.K = K) (he : PE X e te) :
    PE X (.Subscript e (.Slice none none (some (.UnaryOp .USub (.Constant (.int 1) k p1) p2)) p3) pos) (tRevL K te) :=
  h ▸ pe_revL he
theorem k_gtup {k : Nat} (n : Nat) (h : X.K = K) (hc : X.calm = true) (hp : PGs X es t)
    (hn : (assignEach es X.env).length = n := by rfl)
    (hst : (assignEach es X.env).findIdx? (·.1) = none := by rfl) : PG X (.Tuple es k pos) (gTup K n t) :=
  h ▸ pg_tup hc hp hn hst
end
end G
namespace G
open PySem PySem.Spec PyProof.Rows L2
/-! what is tracked; what is fixed -/
structure Tr (H : Hp) (a : Addr) : Prop where
  ex : ∃ o, H a = some o
structure Fx (H H1 : Hp) : Prop where
  fx : ∀ a u, H a = some u → Fix u → H1 a = some u
section
variable {K : PySem.W.Frag} {H H0 H1 : Hp} {Q : VK} {a b p l q : Addr} {ws : List Addr} {o u : HO} {ds : List PyData} {xs : List V} {n : Int} {v : V}
theorem tr_of (h : H a = some o) : Tr H a := ⟨o, h⟩
theorem tr_same : Tr (upd H p o) p := ⟨o, upd_same⟩
theorem tr_upd (h : Tr H a) : Tr (upd H p o) a := by
  by_cases e : a = p
  · rw [e]
    exact tr_same
  · obtain ⟨u, h⟩ := h.ex
    exact ⟨u, by rw [upd_ne e]; exact h⟩
theorem tr_kp (k : Kp ws H H1) (h : Tr H a) : Tr H1 a := by
  obtain ⟨u, h⟩ := h.ex
  obtain ⟨v, e⟩ := k.dom _ _ h
  exact ⟨v, e⟩
theorem tr_ld (h : LD K H a ds) : Tr H a := by
  obtain ⟨vs, e, _⟩ := h
  exact ⟨_, e⟩
theorem tr_pot (h : PotAt H a) : Tr H a := by
  obtain ⟨x, y, e, _⟩ := h
  exact ⟨_, e⟩
theorem fr_tr (h : Tr H a) (f : Fr H b) : a ≠ b := by
  obtain ⟨u, e⟩ := h.ex
  exact fr_ne e f
theorem fx_refl : Fx H H := ⟨fun _ _ h _ => h⟩
theorem fx_new (h : Fx H0 H) (f : Fr H p) : Fx H0 (upd H p o) := ⟨fun a u e z => by
  have e2 := h.fx a u e z
  rw [upd_ne (fr_ne e2 f)]
  exact e2⟩
theorem fx_mut (h : Fx H0 H) (f : H p = some u) (nf : ¬ Fix u) : Fx H0 (upd H p o) := ⟨fun a v e z => by
  have e2 := h.fx a v e z
  rw [upd_ne]
  · exact e2
  · intro c
    subst c
    rw [f] at e2
    cases e2
    exact nf z⟩
theorem fx_kp (k : Kp ws H H1) (h : Fx H0 H) : Fx H0 H1 := ⟨fun a u e z => k.fix a u (h.fx a u e z) z⟩
theorem Fx.seqT (k : Fx H H1) (h : SqT K H l xs) : SqT K H1 l xs := by
  rcases h with (h | ⟨o, h⟩) | h
  · exact .inl (.inl (k.fx _ _ h trivial))
  · exact .inl (.inr ⟨o, k.fx _ _ h trivial⟩)
  · exact .inr h
mutual
theorem Fx.dp (k : Fx H H1) : ∀ (d : PyData) (v : V), imm d = true → Dp K H v d → Dp K H1 v d
  | .none, _, _, h => by cases h; exact .non
  | .bool b, _, _, h => by cases h; exact .bl b
  | .int i, _, _, h => by cases h; exact .int i
  | .str x, _, _, h => by cases h; exact .str x
  | .tuple ds, _, hi, h => by
    cases h with
    | tup hs ha => exact .tup (k.seqT hs) (Fx.dpa k ds _ (by simpa only [imm] using hi) ha)
  | .list _, _, hi, _ => by simp only [imm] at hi; cases hi
  | .dict _, _, hi, _ => by simp only [imm] at hi; cases hi
theorem Fx.dpa (k : Fx H H1) : ∀ (ds : List PyData) (vs : List V), imms ds = true →
    DpAll K H vs ds → DpAll K H1 vs ds
  | [], _, _, h => by cases h; exact .nil
  | d :: ds, _, hi, h => by
    simp only [imms, Bool.and_eq_true] at hi
    cases h with
    | cons h1 h2 => exact .cons (Fx.dp k d _ hi.1 h1) (Fx.dpa k ds _ hi.2 h2)
end
/-- an item of an object -/
def ixO : HO → Int → V → Prop
  | .lst xs, n, v => atI xs n = some v
  | .tup xs, n, v => atI xs n = some v
  | _, _, _ => False
theorem i_ixO (h : H p = some o) (hv : ixO o n v) (q : Q v H) : uIx K (.ref p) (.int n) H Q := by
  cases o with
  | lst xs => exact i_ixL (SqL.of h) hv q
  | tup xs => exact i_ixT (SqT.of h) hv q
  | _ => exact hv.elim
theorem i_ixS (h0 : SqT K H0 p xs) (k : Fx H0 H) (hv : atI xs n = some v) (q : Q v H) :
    uIx K (.ref p) (.int n) H Q := i_ixT (k.seqT h0) hv q
def lenO : HO → Int → Prop
  | .lst xs, n => n = xs.length
  | .tup xs, n => n = xs.length
  | _, _ => False
theorem i_lenO (h : H p = some o) (hv : lenO o n) (q : Q (.int n) H) : uLen K [.ref p] H Q := by
  cases o with
  | lst xs =>
    have e : n = xs.length := hv
    subst e
    exact i_lenL (SqL.of h) q
  | tup xs =>
    have e : n = xs.length := hv
    subst e
    exact i_lenT (SqT.of h) q
  | _ => exact hv.elim
end
end G
namespace G
open PySem PySem.Spec PyProof.Rows L2
section
variable {K : PySem.W.Frag} {H : Hp} {Q : VK} {x y : V} {d : PyData}
theorem ne_same (hx : Dp K H x d) (hy : Dp K H y d) (sh : SeqAt.shaped d = true) (h : Q (.bl false) H) :
    uNe K x y H Q := by
  refine i_neD hx hy sh sh ?_
  rw [SeqAt.eqv_refl d (SeqAt.canLay_of_shaped sh)]
  exact h
theorem eq_same (hx : Dp K H x d) (hy : Dp K H y d) (sh : SeqAt.shaped d = true) (h : Q (.bl true) H) :
    uEq K x y H Q := by
  refine i_eqD hx hy sh sh ?_
  rw [SeqAt.eqv_refl d (SeqAt.canLay_of_shaped sh)]
  exact h
/-- a number that may be shown -/
def okI (i : Int) : Prop := i.natAbs.log2 < 1920
theorem okI_of {i : Int} (h0 : -100000000000000000000000000000000000000000000000000000000000000000000000 ≤ i)
    (h1 : i ≤ 100000000000000000000000000000000000000000000000000000000000000000000000) : okI i := by
  unfold okI
  have h2 : i.natAbs ≤ 10 ^ 71 := by
    have e : ((10 ^ 71 : Nat) : Int) = 100000000000000000000000000000000000000000000000000000000000000000000000 := by rfl
    omega
  by_cases z : i.natAbs = 0
  · rw [z]
    decide
  · exact (Nat.log2_lt z).mpr (Nat.lt_of_le_of_lt h2 (by decide +kernel))
theorem shws_pairs : ∀ l : List (Int × Int), (∀ q ∈ l, okI q.1 ∧ okI q.2) → shws (l.map d2) = true
  | [], _ => rfl
  | q :: l, h => by
    have a := h q List.mem_cons_self
    have b := shws_pairs l fun z hz => h z (List.mem_cons_of_mem _ hz)
    simp only [List.map_cons, shws, shw, b, Bool.and_true, Bool.and_eq_true, decide_eq_true_eq]
    exact a
theorem cws_pairs : ∀ l : List (Int × Int), cws (l.map d2) = 3868 * l.length
  | [] => rfl
  | q :: l => by
    simp only [List.map_cons, cws, cw, cws_pairs l, List.length_cons]
    omega
theorem depth_list (l : List (Int × Int)) : (PyData.list (l.map d2)).depth ≤ 60 := by
  simp only [PyData.depth]
  have q := depth_pairs l
  omega
theorem repr_pairs {l : List (Int × Int)} (hx : Dp K H x (.list (l.map d2))) (h : ∀ q ∈ l, okI q.1 ∧ okI q.2)
    (hl : l.length ≤ 4000) (q : Q (.str (PyData.list (l.map d2)).shown) H) : rRepr K [x] H Q := by
  refine i_repr hx ?_ (depth_list l) ?_ q
  · simp only [shw]
    exact shws_pairs l h
  · have e : cw (.list (l.map d2)) = 3868 * l.length + 2 := by simp only [cw, cws_pairs]
    rw [e]
    exact Nat.le_trans (show 3868 * l.length + 2 ≤ 15472002 by omega) (by decide)
end
end G
namespace G
open PySem PySem.Spec PyProof.Rows L2
/-! methods, new instances, keywords -/
section
variable {X : Cx} {k n : Nat} {f C : Addr} {fd : FuncData} {ps ks : List Str} {sp : Sp}
variable {dvs : List V} {ds : List Value} {E : XK} {x m : Str} {p pos apos : Pos} {e o : Expr}
variable {es : List Expr} {kws : List Keyword} {ta : TE} {t tk : TA} {pins : List (Addr × Obj)} {σ : L2.St} {H : Hp}
variable {s s' : Shared} {Q : VK} {g : List Value → List Value → List Value} {gV : List V → List V → List V}
/-- defaults of which only the values are known -/
def BindsD (K : PySem.W.Frag) (fd : FuncData) (ps : List Str) (dvs : List V) : Prop :=
  ∃ ds, Vals dvs ds ∧ Binds K fd ps ds
def KBnD (K : PySem.W.Frag) (fd : FuncData) (ps : List Str) (n : Nat) (ks : List Str)
    (gV : List V → List V → List V) : Prop := ∃ g, KBn K fd ps n ks g gV
theorem BindsD.plain {K : PySem.W.Frag} (h : Binds K fd ps []) : BindsD K fd ps [] := ⟨[], .nil, h⟩
theorem d1 (F : Fg X k f fd ps sp) (z : RoomG k X.A) (hg : Gl X x) (hm : X.mg x = some (.ref f))
    (hk : PySem.W.keepIn X.K (.ref f) = true) (hb : BindsD X.K fd ps dvs)
    (hx : Ps X E) (ha : PA X (e :: es) t)
    (hdb : (x == ("__debug__" : Str)) = false := by decide)
    (he : starEach (e :: es) X.env = (false, eval e X.env) :: starEach es X.env := by rfl)
    (hpl : (backTo pos (starEach es X.env)).any (·.1) = false := by rfl) :
    PE X (.Call (.Name x p) (e :: es) [] pos) (tCall sp dvs E t) := by
  obtain ⟨ds, hd, hb⟩ := hb
  exact c1 F z hg hm hk hb hd hx ha hdb he hpl
theorem dm {pl : Sem Bool} (c : Cls X.K C) (hm : Meth X.K C m f)
    (F : Fg X k f fd ps sp) (z : RoomG k X.A) (hb : BindsD X.K fd ps dvs)
    (hx : Ps X E) (he : PE X o ta) (ha : PA X (e :: es) t)
    (hst : starEach (e :: es) X.env = (false, eval e X.env) :: starEach es X.env := by rfl)
    (hpl : (backTo pos (starEach es X.env)).any (·.1) = false := by rfl)
    (ht : eval (.Call (.Attribute o m apos) (e :: es) [] pos) X.env = (do
      let y ← eval o X.env
      standAt apos.atName
      let (g, a) ← holding [y] (getMethod y m pl)
      callWith pos g a (backTo pos (starEach (e :: es) X.env))
        (backToKw pos (keywordEach [] X.env))) := by rfl) :
    PE X (.Call (.Attribute o m apos) (e :: es) [] pos) (tMeth C m sp dvs E ta t) := by
  obtain ⟨ds, hd, hb⟩ := hb
  exact cm he c hm F z hb hd hx ha hst hpl ht
theorem dm0 {pl : Sem Bool} (c : Cls X.K C) (hm : Meth X.K C m f)
    (F : Fg X k f fd ps sp) (z : RoomG k X.A) (hb : BindsD X.K fd ps dvs)
    (hx : Ps X E) (he : PE X o ta)
    (ht : eval (.Call (.Attribute o m apos) [] [] pos) X.env = (do
      let y ← eval o X.env
      standAt apos.atName
      let (g, a) ← holding [y] (getMethod y m pl)
      callWith pos g a (backTo pos (starEach [] X.env))
        (backToKw pos (keywordEach [] X.env))) := by rfl) :
    PE X (.Call (.Attribute o m apos) [] [] pos) (tMeth C m sp dvs E ta tNil) := by
  obtain ⟨ds, hd, hb⟩ := hb
  exact cm0 he c hm F z hb hd hx ht
/-- a call of f with positional values and keywords -/
theorem runK {us ws : List Value} {vs zs : List V} (F : Fg X k f fd ps sp) (z : RoomG k X.A)
    (hb : KBn X.K fd ps n ks g gV) (hx : Ps X E) (I : Inv X pins σ H s) (rv : Vals vs us) (rz : Vals zs ws)
    (l1 : vs.length = n) (l2 : zs.length = ks.length) (h : sp (gV vs zs) H Q E) :
    wpAny (model X.prog X.w) X.A (call (.ref f) us (ks.zip ws)) (EP X pins σ Q) X.xe s := by
  have b := hb.to s us ws I.kIn (rv.length.symm.trans l1) (rz.length.symm.trans l2)
  refine wpAny_call (codeAny_mono (runG F z b hx I (hb.rel rv rz) h) ?_)
  intro r s' q
  match r, q with
  | .error e, q => exact q
  | .ok (.ret u), q => exact q
  | .ok .next, q => exact q
  | .ok .brk, q => exact q
  | .ok .cont, q => exact q
def tKw (n m : Nat) (sp : Sp) (gV : List V → List V → List V) (E : XK) (t tk : TA) : TE := fun σ H Q =>
  t σ H fun vs H1 => tk σ H1 fun zs H2 => vs.length = n ∧ zs.length = m ∧ sp (gV vs zs) H2 Q E
def tMw (C : Addr) (nm : Str) (n m : Nat) (sp : Sp) (gV : List V → List V → List V) (E : XK) (ta : TE) (t tk : TA) : TE :=
  fun σ H Q => ta σ H fun x H1 => ∃ a dx fs, x = .ref a ∧ H1 a = some (.ins C dx fs) ∧ fs.lookup nm = none ∧
    t σ H1 fun vs H2 => tk σ H2 fun zs H3 => vs.length = n ∧ zs.length = m ∧ sp (gV (x :: vs) zs) H3 Q E
theorem kc (F : Fg X k f fd ps sp) (z : RoomG k X.A) (hg : Gl X x) (hm : X.mg x = some (.ref f))
    (hk : PySem.W.keepIn X.K (.ref f) = true) (hb : KBnD X.K fd ps n ks gV) (hx : Ps X E)
    (ha : PA X (e :: es) t) (hkw : PK X kws tk)
    (hall : (backToKw pos (keywordEach kws X.env)).all (·.1.isSome) = true := by rfl)
    (hks : (backToKw pos (keywordEach kws X.env)).filterMap (·.1) = ks := by rfl)
    (hdb : (x == ("__debug__" : Str)) = false := by decide)
    (he : starEach (e :: es) X.env = (false, eval e X.env) :: starEach es X.env := by rfl)
    (hpl : ((backTo pos (starEach (e :: es) X.env)).any (·.1) ||
      (backToKw pos (keywordEach kws X.env)).any (·.1.isNone)) = false := by rfl) :
    PE X (.Call (.Name x p) (e :: es) kws pos) (tKw n ks.length sp gV E t tk) := by
  obtain ⟨g, hb⟩ := hb
  constructor
  intro pins s σ H Q I h
  refine wpAny_Call_Name_kw (ld_glob I hg hm ?_ hdb)
  refine PySem.W.callWith_KW (h₀ := X.base) I.ok.mod.kin hk hall ?_ hpl he
  refine thn (ha.run pos pins s σ H _ I h) ?_
  intro us s1 y
  obtain ⟨vs, H1, I1, r, q⟩ := y
  refine thn (hkw.run pos pins s1 σ H1 _ I1 q) ?_
  intro ws s2 y
  obtain ⟨zs, H2, I2, rz, l1, l2, q2⟩ := y
  refine ⟨I2.kIn, ?_⟩
  rw [hks]
  exact runK F z hb hx I2 r rz l1 l2 q2
theorem kc0 (F : Fg X k f fd ps sp) (z : RoomG k X.A) (hg : Gl X x) (hm : X.mg x = some (.ref f))
    (hk : PySem.W.keepIn X.K (.ref f) = true) (hb : KBnD X.K fd ps 0 ks gV) (hx : Ps X E)
    (hkw : PK X kws tk)
    (hall : (backToKw pos (keywordEach kws X.env)).all (·.1.isSome) = true := by rfl)
    (hks : (backToKw pos (keywordEach kws X.env)).filterMap (·.1) = ks := by rfl)
    (hdb : (x == ("__debug__" : Str)) = false := by decide)
    (hpl : ((backTo pos (starEach [] X.env)).any (·.1) ||
      (backToKw pos (keywordEach kws X.env)).any (·.1.isNone)) = false := by rfl) :
    PE X (.Call (.Name x p) [] kws pos) (tKw 0 ks.length sp gV E tNil tk) := by
  obtain ⟨g, hb⟩ := hb
  constructor
  intro pins s σ H Q I h
  refine wpAny_Call_Name_kw (ld_glob I hg hm ?_ hdb)
  refine PySem.W.callWith_KW0 (h₀ := X.base) I.ok.mod.kin hk hall ?_ hpl
  refine thn (hkw.run pos pins s σ H _ I h) ?_
  intro ws s2 y
  obtain ⟨zs, H2, I2, rz, l1, l2, q2⟩ := y
  refine ⟨I2.kIn, ?_⟩
  rw [hks]
  exact runK (us := []) (vs := []) F z hb hx I2 .nil rz l1 l2 q2
theorem km {pl : Sem Bool} (c : Cls X.K C) (hm : Meth X.K C m f)
    (F : Fg X k f fd ps sp) (z : RoomG k X.A) (hb : KBnD X.K fd ps (n + 1) ks gV)
    (hx : Ps X E) (he : PE X o ta) (ha : PA X (e :: es) t) (hkw : PK X kws tk)
    (hall : (backToKw pos (keywordEach kws X.env)).all (·.1.isSome) = true := by rfl)
    (hks : (backToKw pos (keywordEach kws X.env)).filterMap (·.1) = ks := by rfl)
    (hst : starEach (e :: es) X.env = (false, eval e X.env) :: starEach es X.env := by rfl)
    (hpl : ((backTo pos (starEach (e :: es) X.env)).any (·.1) ||
      (backToKw pos (keywordEach kws X.env)).any (·.1.isNone)) = false := by rfl)
    (ht : eval (.Call (.Attribute o m apos) (e :: es) kws pos) X.env = (do
      let y ← eval o X.env
      standAt apos.atName
      let (g, a) ← holding [y] (getMethod y m pl)
      callWith pos g a (backTo pos (starEach (e :: es) X.env))
        (backToKw pos (keywordEach kws X.env))) := by rfl) :
    PE X (.Call (.Attribute o m apos) (e :: es) kws pos) (tMw C m n ks.length sp gV E ta t tk) := by
  obtain ⟨g, hb⟩ := hb
  constructor
  intro pins s σ H Q I h
  refine PySem.W.methodCall_KW (pl := pl) (thn (he.run pins s σ H _ I h) ?_) ht
  intro u s1 y
  obtain ⟨v, H1, I1, rx, a, dx, fs, ex, ea, l, q⟩ := y
  subst ex
  obtain rfl : u = Value.ref a := rx
  refine getmeth_ok I1 ea c hm l ?_
  refine PySem.W.callWith_KW (first := [.ref a]) (h₀ := X.base) I.ok.mod.kin hm.kp hall ?_ hpl hst
  refine thn (ha.run pos pins s1 σ H1 _ I1 q) ?_
  intro us s2 y
  obtain ⟨vs, H2, I2, r, q2⟩ := y
  refine thn (hkw.run pos pins s2 σ H2 _ I2 q2) ?_
  intro ws s3 y
  obtain ⟨zs, H3, I3, rz, l1, l2, q3⟩ := y
  refine ⟨I3.kIn, ?_⟩
  rw [hks]
  exact runK (us := .ref a :: us) (vs := .ref a :: vs) F z hb hx I3 (.cons rfl r) rz (by rw [List.length_cons, l1]) l2 q3
theorem km0 {pl : Sem Bool} (c : Cls X.K C) (hm : Meth X.K C m f)
    (F : Fg X k f fd ps sp) (z : RoomG k X.A) (hb : KBnD X.K fd ps 1 ks gV)
    (hx : Ps X E) (he : PE X o ta) (hkw : PK X kws tk)
    (hall : (backToKw pos (keywordEach kws X.env)).all (·.1.isSome) = true := by rfl)
    (hks : (backToKw pos (keywordEach kws X.env)).filterMap (·.1) = ks := by rfl)
    (hpl : ((backTo pos (starEach [] X.env)).any (·.1) ||
      (backToKw pos (keywordEach kws X.env)).any (·.1.isNone)) = false := by rfl)
    (ht : eval (.Call (.Attribute o m apos) [] kws pos) X.env = (do
      let y ← eval o X.env
      standAt apos.atName
      let (g, a) ← holding [y] (getMethod y m pl)
      callWith pos g a (backTo pos (starEach [] X.env))
        (backToKw pos (keywordEach kws X.env))) := by rfl) :
    PE X (.Call (.Attribute o m apos) [] kws pos) (tMw C m 0 ks.length sp gV E ta tNil tk) := by
  obtain ⟨g, hb⟩ := hb
  constructor
  intro pins s σ H Q I h
  refine PySem.W.methodCall_KW (pl := pl) (thn (he.run pins s σ H _ I h) ?_) ht
  intro u s1 y
  obtain ⟨v, H1, I1, rx, a, dx, fs, ex, ea, l, q⟩ := y
  subst ex
  obtain rfl : u = Value.ref a := rx
  refine getmeth_ok I1 ea c hm l ?_
  refine PySem.W.callWith_KW0 (first := [.ref a]) (h₀ := X.base) I.ok.mod.kin hm.kp hall ?_ hpl
  refine thn (hkw.run pos pins s1 σ H1 _ I1 q) ?_
  intro ws s3 y
  obtain ⟨zs, H3, I3, rz, l1, l2, q3⟩ := y
  refine ⟨I3.kIn, ?_⟩
  rw [hks]
  exact runK (us := [.ref a]) (vs := [.ref a]) F z hb hx I3 (.cons rfl .nil) rz (by rw [List.length_singleton]) l2 q3
/-- a new instance, then its __init__ -/
def Made (C : Addr) (sp : Sp) (E : XK) (H : Hp) (Q : VK) (vs : Addr → List V) : Prop :=
  ∀ x dx, H x = none → H dx = none → dx ≠ x →
    sp (vs x) (upd (upd H dx (.own x)) x (.ins C dx [])) (fun v H2 => v = .non ∧ Q (.ref x) H2) E
theorem runM {vs : Addr → List V} (M : Mk X.K C f) (F : Fg X k f fd ps sp)
    (z : RoomG (k + 1) X.A) (hx : Ps X E) (I : Inv X pins σ H s) {us0 : List Value} {kw : List (Str × Value)}
    {us : Addr → List Value} (hb : ∀ (s : Shared) (x : Addr), X.K.In s.heap → BindsTo s fd ⟨.ref x :: us0, kw⟩ (ps.zip (us x)))
    (h : Made C sp E H Q vs)
    (rv : ∀ x, Vals (vs x) (us x)) :
    wpAny (model X.prog X.w) X.A (call (.ref C) us0 kw) (EP X pins σ Q) X.xe s := by
  have hq := h (s.heap.objs.size + 1) s.heap.objs.size (I.hok.fresh (Nat.le_succ _)) (I.hok.fresh (Nat.le_refl _))
    (Nat.ne_of_lt (Nat.lt_succ_self _))
  have I2 := Inv.made (C := C) I
  refine wpAny_call (make_map (f := f) I.kIn M.makes M.init (beq_iff_eq.mp M.fn) (codeAny_mono
    (F.run _ X.stack _ _ ⟨.ref (s.heap.objs.size + 1) :: us0, kw⟩ _ _ _ E (z.make C us0 kw)
      (I2.env0.make C us0 kw) (hb _ _ I2.kIn) (rv _) hq) ?_))
  intro r s' q
  match r, q with
  | .error e, q => exact hx pins σ _ _ e s' I2 q
  | .ok (.ret u), q =>
    obtain ⟨v, H', I3, rv, ev, q3⟩ := I2.after q
    subst ev
    exact ⟨rv, ⟨V.ref (s.heap.objs.size + 1), H', I3, rfl, q3⟩⟩
  | .ok .next, q => exact False.elim q
  | .ok .brk, q => exact False.elim q
  | .ok .cont, q => exact False.elim q
def tMk (C : Addr) (sp : Sp) (dvs : List V) (E : XK) (t : TA) : TE := fun σ H Q => t σ H fun vs H1 =>
  Made C sp E H1 Q fun x => .ref x :: (vs ++ dvs)
def tMkK (C : Addr) (n m : Nat) (sp : Sp) (gV : List V → List V → List V) (E : XK) (t tk : TA) : TE := fun σ H Q =>
  t σ H fun vs H1 => tk σ H1 fun zs H2 => vs.length = n ∧ zs.length = m ∧ Made C sp E H2 Q fun x => gV (.ref x :: vs) zs
theorem made_len {vs : Addr → List V} (F : Fg X k f fd ps sp) (I : Inv X pins σ H s) (h : Made C sp E H Q vs) :
    ∃ x, (vs x).length = ps.length := by
  have hq := h (s.heap.objs.size + 1) s.heap.objs.size (I.hok.fresh (Nat.le_succ _)) (I.hok.fresh (Nat.le_refl _))
    (Nat.ne_of_lt (Nat.lt_succ_self _))
  exact ⟨_, F.len _ _ _ _ hq⟩
theorem mk1 (M : Mk X.K C f) (F : Fg X k f fd ps sp) (z : RoomG (k + 1) X.A) (hg : Gl X x)
    (hm : X.mg x = some (.ref C)) (hb : BindsD X.K fd ps dvs) (hx : Ps X E) (ha : PA X (e :: es) t)
    (hdb : (x == ("__debug__" : Str)) = false := by decide)
    (he : starEach (e :: es) X.env = (false, eval e X.env) :: starEach es X.env := by rfl)
    (hpl : (backTo pos (starEach es X.env)).any (·.1) = false := by rfl) :
    PE X (.Call (.Name x p) (e :: es) [] pos) (tMk C sp dvs E t) := by
  obtain ⟨ds, hd, hb⟩ := hb
  constructor
  intro pins s σ H Q I h
  refine wpAny_Call_Name_kw (ld_glob I hg hm ?_ hdb)
  refine PySem.W.callWith_K (h₀ := X.base) I.ok.mod.kin M.kp ?_ he hpl
  refine thn (ha.run pos pins s σ H _ I h) ?_
  intro us s1 y
  obtain ⟨vs, H1, I1, r, q⟩ := y
  refine ⟨I1.kIn, ?_⟩
  obtain ⟨x0, hl⟩ := made_len F I1 q
  refine runM (us := fun x => .ref x :: (us ++ ds)) M F z hx I1 ?_ q (fun x => .cons rfl (r.append hd))
  intro s2 x2 kin
  refine hb s2 (.ref x2 :: us) kin ?_
  rw [← hl]
  have e1 := r.length
  have e2 := hd.length
  simp only [List.length_cons, List.length_append, List.cons_append] at *
  omega
theorem mk0 (M : Mk X.K C f) (F : Fg X k f fd ps sp) (z : RoomG (k + 1) X.A) (hg : Gl X x)
    (hm : X.mg x = some (.ref C)) (hb : BindsD X.K fd ps dvs) (hx : Ps X E)
    (hdb : (x == ("__debug__" : Str)) = false := by decide) :
    PE X (.Call (.Name x p) [] [] pos) (tMk C sp dvs E tNil) := by
  obtain ⟨ds, hd, hb⟩ := hb
  constructor
  intro pins s σ H Q I h
  refine wpAny_Call_Name_kw (ld_glob I hg hm ?_ hdb)
  refine PySem.W.callWith_K0 I.kIn M.kp ?_
  obtain ⟨x0, hl⟩ := made_len F I h
  refine runM (us0 := []) (us := fun x => .ref x :: ([] ++ ds)) M F z hx I ?_ h (fun x => .cons rfl (Vals.append .nil hd))
  intro s2 x2 kin
  refine hb s2 [.ref x2] kin ?_
  rw [← hl]
  have e2 := hd.length
  simp only [List.length_cons, List.length_append, List.cons_append, List.length_nil, List.nil_append] at *
  omega
theorem mkK (M : Mk X.K C f) (F : Fg X k f fd ps sp) (z : RoomG (k + 1) X.A) (hg : Gl X x)
    (hm : X.mg x = some (.ref C)) (hb : KBnD X.K fd ps (n + 1) ks gV) (hx : Ps X E) (ha : PA X (e :: es) t)
    (hkw : PK X kws tk)
    (hall : (backToKw pos (keywordEach kws X.env)).all (·.1.isSome) = true := by rfl)
    (hks : (backToKw pos (keywordEach kws X.env)).filterMap (·.1) = ks := by rfl)
    (hdb : (x == ("__debug__" : Str)) = false := by decide)
    (he : starEach (e :: es) X.env = (false, eval e X.env) :: starEach es X.env := by rfl)
    (hpl : ((backTo pos (starEach (e :: es) X.env)).any (·.1) ||
      (backToKw pos (keywordEach kws X.env)).any (·.1.isNone)) = false := by rfl) :
    PE X (.Call (.Name x p) (e :: es) kws pos) (tMkK C n ks.length sp gV E t tk) := by
  obtain ⟨g, hb⟩ := hb
  constructor
  intro pins s σ H Q I h
  refine wpAny_Call_Name_kw (ld_glob I hg hm ?_ hdb)
  refine PySem.W.callWith_KW (h₀ := X.base) I.ok.mod.kin M.kp hall ?_ hpl he
  refine thn (ha.run pos pins s σ H _ I h) ?_
  intro us s1 y
  obtain ⟨vs, H1, I1, r, q⟩ := y
  refine thn (hkw.run pos pins s1 σ H1 _ I1 q) ?_
  intro ws s2 y
  obtain ⟨zs, H2, I2, rz, l1, l2, q2⟩ := y
  refine ⟨I2.kIn, ?_⟩
  rw [hks]
  refine runM (us := fun x => g (.ref x :: us) ws) M F z hx I2 ?_ q2 (fun x => hb.rel (.cons rfl r) rz)
  intro s3 x3 kin
  refine hb.to s3 (.ref x3 :: us) ws kin ?_ (rz.length.symm.trans l2)
  rw [List.length_cons, ← r.length, l1]
theorem mkK0 (M : Mk X.K C f) (F : Fg X k f fd ps sp) (z : RoomG (k + 1) X.A) (hg : Gl X x)
    (hm : X.mg x = some (.ref C)) (hb : KBnD X.K fd ps 1 ks gV) (hx : Ps X E)
    (hkw : PK X kws tk)
    (hall : (backToKw pos (keywordEach kws X.env)).all (·.1.isSome) = true := by rfl)
    (hks : (backToKw pos (keywordEach kws X.env)).filterMap (·.1) = ks := by rfl)
    (hdb : (x == ("__debug__" : Str)) = false := by decide)
    (hpl : ((backTo pos (starEach [] X.env)).any (·.1) ||
      (backToKw pos (keywordEach kws X.env)).any (·.1.isNone)) = false := by rfl) :
    PE X (.Call (.Name x p) [] kws pos) (tMkK C 0 ks.length sp gV E tNil tk) := by
  obtain ⟨g, hb⟩ := hb
  constructor
  intro pins s σ H Q I h
  refine wpAny_Call_Name_kw (ld_glob I hg hm ?_ hdb)
  refine PySem.W.callWith_KW0 (h₀ := X.base) I.ok.mod.kin M.kp hall ?_ hpl
  refine thn (hkw.run pos pins s σ H _ I h) ?_
  intro ws s2 y
  obtain ⟨zs, H2, I2, rz, l1, l2, q2⟩ := y
  refine ⟨I2.kIn, ?_⟩
  rw [hks]
  refine runM (us0 := []) (us := fun x => g [.ref x] ws) M F z hx I2 ?_ q2 (fun x => hb.rel (.cons rfl .nil) rz)
  intro s3 x3 kin
  exact hb.to s3 [.ref x3] ws kin rfl (rz.length.symm.trans l2)
end
section
variable {P : Program} {w : World} {K : PySem.W.Frag} {mg : Str → Option Value} {base : Heap}
theorem okD {x qual : Str} {params : Arguments} {body : List Stmt} {scope : Scope} {dvs : List V} {kws : List (Str × V)}
    {f : Addr} {fd : FuncData} {N ps : List Str} {k : Nat} {sp : Sp}
    (F : FunD K x qual params body scope dvs kws f fd) (S : FnScope N ps scope)
    (len : ∀ vs H Q E, sp vs H Q E → vs.length = ps.length)
    (hb : ∀ (cdv : Value) (A : Around) (outer : List Env) (s : Shared) (H : Hp) (vs : List V)
      (Q : VK) (E : XK), RoomG k (A.deeper (envOfC qual scope s.heap.objs.size f cdv)) →
      sp vs H Q E →
      ∃ t, PSs (cxOf (L2.CX P w) P w K mg base N qual scope f cdv A outer s H E) body t ∧
        t { nx := fun _ H' => Q .non H', rt := Q } (start N vs) H) :
    FnG P w K mg base (k + 1) f fd ps sp := by
  obtain ⟨oc, od, dV, kV, doc, pm, an, cdv, ct, osl, rfl, lk, hcd, _, _⟩ := F.ex
  exact FnG.body lk hcd S len fun A outer s H vs Q E z h => hb cdv A outer s H vs Q E z h
end
/-! readings of these -/
section
variable {K : PySem.W.Frag} {σ : L2.St} {H : Hp} {Q : VK} {D : Ends} {a C dx p : Addr} {fs : List (Str × V)} {f m : Str} {v : V}
variable {ta tv : TE} {t tk : TA} {sp : Sp} {E : XK} {vs zs : List V} {gV : List V → List V → List V} {n k : Nat}
def MethR (C : Addr) (m : Str) (sp : Sp) (E : XK) (t : TA) (σ : L2.St) (x : V) (H1 : Hp) (Q : VK) : Prop :=
  ∃ a dx fs, x = .ref a ∧ H1 a = some (.ins C dx fs) ∧ fs.lookup m = none ∧ t σ H1 fun vs H2 => sp (x :: vs) H2 Q E
theorem i_meth (h : ta σ H fun x H1 => MethR C m sp E t σ x H1 Q) : tMeth C m sp [] E ta t σ H Q := by
  unfold tMeth
  simp only [List.append_nil]
  exact h
theorem i_methR (ho : H a = some (.ins C dx fs)) (hl : fs.lookup m = none)
    (h : t σ H fun vs H2 => sp (.ref a :: vs) H2 Q E) : MethR C m sp E t σ (.ref a) H Q := ⟨a, dx, fs, rfl, ho, hl, h⟩
def MethW (C : Addr) (nm : Str) (n m : Nat) (sp : Sp) (gV : List V → List V → List V) (E : XK) (t tk : TA) (σ : L2.St) (x : V)
    (H1 : Hp) (Q : VK) : Prop := ∃ a dx fs, x = .ref a ∧ H1 a = some (.ins C dx fs) ∧ fs.lookup nm = none ∧
    t σ H1 fun vs H2 => tk σ H2 fun zs H3 => vs.length = n ∧ zs.length = m ∧ sp (gV (x :: vs) zs) H3 Q E
theorem i_methW (h : ta σ H fun x H1 => MethW C m n k sp gV E t tk σ x H1 Q) : tMw C m n k sp gV E ta t tk σ H Q := h
theorem i_methWR (ho : H a = some (.ins C dx fs)) (hl : fs.lookup m = none)
    (h : t σ H fun vs H2 => tk σ H2 fun zs H3 => vs.length = n ∧ zs.length = k ∧ sp (gV (.ref a :: vs) zs) H3 Q E) :
    MethW C m n k sp gV E t tk σ (.ref a) H Q := ⟨a, dx, fs, rfl, ho, hl, h⟩
theorem i_lens {P : Prop} (h1 : vs.length = n) (h2 : zs.length = k) (h : P) : vs.length = n ∧ zs.length = k ∧ P := ⟨h1, h2, h⟩
theorem i_kw (h : t σ H fun vs H1 => tk σ H1 fun zs H2 => vs.length = n ∧ zs.length = k ∧ sp (gV vs zs) H2 Q E) :
    tKw n k sp gV E t tk σ H Q := h
theorem i_mk (h : t σ H fun vs H1 => Made C sp E H1 Q fun x => .ref x :: vs) : tMk C sp [] E t σ H Q := by
  unfold tMk
  simp only [List.append_nil]
  exact h
theorem i_mkD {dvs : List V} (h : t σ H fun vs H1 => Made C sp E H1 Q fun x => .ref x :: (vs ++ dvs)) : tMk C sp dvs E t σ H Q := h
theorem i_mkK (h : t σ H fun vs H1 => tk σ H1 fun zs H2 => vs.length = n ∧ zs.length = k ∧
    Made C sp E H2 Q fun x => gV (.ref x :: vs) zs) : tMkK C n k sp gV E t tk σ H Q := h
/-- an attribute -/
def FldR (K : PySem.W.Frag) (f : Str) (x : V) (H1 : Hp) (Q : VK) : Prop := ∃ a C dx fs v, x = .ref a ∧
  H1 a = some (.ins C dx fs) ∧ Cls K C ∧ NoAttr K C f ∧ fs.lookup f = some v ∧ Q v H1
theorem i_fld (h : ta σ H fun x H1 => FldR K f x H1 Q) : tFld K ta f σ H Q := h
theorem i_fldR (ho : H a = some (.ins C dx fs)) (c : Cls K C) (n : NoAttr K C f) (hl : fs.lookup f = some v)
    (h : Q v H) : FldR K f (.ref a) H Q := ⟨a, C, dx, fs, v, rfl, ho, c, n, hl, h⟩
def FldS (K : PySem.W.Frag) (f : Str) (y x : V) (D : Ends) (σ : L2.St) (H2 : Hp) : Prop := ∃ a C dx fs, x = .ref a ∧
  H2 a = some (.ins C dx fs) ∧ Cls K C ∧ NoAttr K C f ∧ fs.length < 1000 ∧ D.nx σ (upd H2 a (.ins C dx (putF f y fs)))
theorem i_fldS (h : tv σ H fun y H1 => ta σ H1 fun x H2 => FldS K f y x D σ H2) : sFld K ta tv f D σ H := h
theorem i_fldSR {y : V} (ho : H a = some (.ins C dx fs)) (c : Cls K C) (n : NoAttr K C f) (hl : fs.length < 1000)
    (h : D.nx σ (upd H a (.ins C dx (putF f y fs)))) : FldS K f y (.ref a) D σ H := ⟨a, C, dx, fs, rfl, ho, c, n, hl, h⟩
end
end G
namespace G
open PySem PySem.Spec PyProof.Rows L2
/-! the facts of the top -/
section
variable {K : PySem.W.Frag} {x qual : Str} {st : Stmt} {f D : Addr} {oc : Value} {od an : Option Addr} {osl : Array (Option Value)}
variable {kV doc pm cdv ct : Value} {ps : List Str}
theorem fund0 (l : K.lookup f = some ⟨oc, od, .func (PySem.W.fnOf x qual (defArgs st) (defBody st)
      (defScope st) .none kV doc pm an cdv ct), osl⟩)
    (c : PySem.W.codeIn K cdv qual = true) (k : PySem.W.keepIn K (.ref f) = true) :
    FunD K x qual (defArgs st) (defBody st) (defScope st) [] [] f
      (PySem.W.fnOf x qual (defArgs st) (defBody st) (defScope st) .none kV doc pm an cdv ct) :=
  ⟨⟨oc, od, .none, kV, doc, pm, an, cdv, ct, osl, rfl, l, c, .inl ⟨rfl, rfl⟩, .inl rfl⟩, k⟩
theorem fund1 {kws : List (Str × V)} (l : K.lookup f = some ⟨oc, od, .func (PySem.W.fnOf x qual (defArgs st) (defBody st)
      (defScope st) .none (.ref D) doc pm an cdv ct), osl⟩)
    (c : PySem.W.codeIn K cdv qual = true) (k : PySem.W.keepIn K (.ref f) = true)
    (q : ∀ q ∈ kws, ∃ u, PySem.W.nsIn K D q.1 = some (some u) ∧ RelV q.2 u) :
    FunD K x qual (defArgs st) (defBody st) (defScope st) [] kws f
      (PySem.W.fnOf x qual (defArgs st) (defBody st) (defScope st) .none (.ref D) doc pm an cdv ct) :=
  ⟨⟨oc, od, .none, .ref D, doc, pm, an, cdv, ct, osl, rfl, l, c, .inl ⟨rfl, rfl⟩, .inr ⟨D, rfl, q⟩⟩, k⟩
theorem kw_one {nm : Str} {v : V} {u : Value} (e : PySem.W.nsIn K D nm = some (some u)) (r : RelV v u) :
    ∀ q ∈ [(nm, v)], ∃ u, PySem.W.nsIn K D q.1 = some (some u) ∧ RelV q.2 u := fun q hq => by
  rw [List.mem_singleton.mp hq]
  exact ⟨u, e, r⟩
theorem kw_more {nm : Str} {v : V} {u : Value} {l : List (Str × V)} (e : PySem.W.nsIn K D nm = some (some u)) (r : RelV v u)
    (h : ∀ q ∈ l, ∃ u, PySem.W.nsIn K D q.1 = some (some u) ∧ RelV q.2 u) :
    ∀ q ∈ (nm, v) :: l, ∃ u, PySem.W.nsIn K D q.1 = some (some u) ∧ RelV q.2 u := fun q hq => by
  rcases List.mem_cons.mp hq with z | z
  · rw [z]
    exact ⟨u, e, r⟩
  · exact h q z
/-- positional values, then by places of what the keywords and the defaults give -/
def gp (idx : List Nat) {α : Type} (vs mz zs : List α) : List α := vs ++ idx.filterMap fun i => (zs ++ mz)[i]?
theorem vals_idx {vs : List V} {us : List Value} (r : Vals vs us) : ∀ idx : List Nat,
    Vals (idx.filterMap fun i => vs[i]?) (idx.filterMap fun i => us[i]?)
  | [] => .nil
  | i :: idx => by
    have ih := vals_idx r idx
    cases e : vs[i]? with
    | none =>
      have e2 := Vals.none_of r e
      rw [List.filterMap_cons_none e, List.filterMap_cons_none e2]
      exact ih
    | some v =>
      obtain ⟨u, e2, q⟩ := Vals.get r e
      rw [List.filterMap_cons_some e, List.filterMap_cons_some e2]
      exact .cons q ih
theorem gp_rel (idx : List Nat) {vs mz zs : List V} {us mv ws : List Value} (r : Vals vs us) (r1 : Vals mz mv) (r2 : Vals zs ws) :
    Vals (gp idx vs mz zs) (gp idx us mv ws) := r.append (vals_idx (r2.append r1) idx)
variable {params : Arguments} {body : List Stmt} {scope : Scope} {fd : FuncData} {kws : List (Str × V)}
theorem bindN (F : FunD K x qual params body scope [] [] f fd)
    (h : ∀ (kV doc pm : Value) (an : Option Addr) (cdv ct : Value) (us : List Value), us.length = ps.length →
      bindArgs (PySem.W.fnOf x qual params body scope .none kV doc pm an cdv ct) ⟨us, []⟩ = pure (ps.zip us)) :
    BindsD K fd ps [] := BindsD.plain (F.bindsN h)
theorem bindK (F : FunD K x qual params body scope [] kws f fd) (n : Nat) (hk : kws ≠ []) (hn : n + kws.length = ps.length)
    (h : ∀ (D : Addr) (doc pm : Value) (an : Option Addr) (cdv ct : Value) (us ks : List Value), us.length = n →
      ks.length = kws.length → KwChain D ((kws.map (·.1)).zip ks)
        (bindArgs (PySem.W.fnOf x qual params body scope .none (.ref D) doc pm an cdv ct) ⟨us, []⟩) (ps.zip (us ++ ks))) :
    BindsD K fd ps (kws.map (·.2)) := F.binds0 n hk hn h
theorem kbN (F : FunD K x qual params body scope [] [] f fd) (n : Nat) (ks : List Str) (idx : List Nat)
    (h : ∀ (kV doc pm : Value) (an : Option Addr) (cdv ct : Value) (us ws : List Value), us.length = n →
      ws.length = ks.length → bindArgs (PySem.W.fnOf x qual params body scope .none kV doc pm an cdv ct) ⟨us, ks.zip ws⟩ =
        pure (ps.zip (gp idx us [] ws))) : KBnD K fd ps n ks (fun vs zs => gp idx vs [] zs) := by
  refine ⟨fun us ws => gp idx us [] ws, ?_, fun r1 r2 => gp_rel idx r1 .nil r2⟩
  intro s us ws kin l1 l2
  obtain ⟨oc, od, dV, kV, doc, pm, an, cdv, ct, osl, rfl, lk, hcd, hD, hK⟩ := F.ex
  rcases hD with ⟨_, rfl⟩ | ⟨e, _⟩
  · exact .of_eq (h kV doc pm an cdv ct us ws l1 l2)
  · exact absurd rfl e
theorem kbK (F : FunD K x qual params body scope [] kws f fd) (n : Nat) (ks : List Str) (ms : List (Str × V)) (idx : List Nat)
    (hk : kws ≠ []) (hms : ∀ q ∈ ms, q ∈ kws)
    (h : ∀ (D : Addr) (doc pm : Value) (an : Option Addr) (cdv ct : Value) (us mv ws : List Value), us.length = n →
      mv.length = ms.length → ws.length = ks.length → KwChain D ((ms.map (·.1)).zip mv)
        (bindArgs (PySem.W.fnOf x qual params body scope .none (.ref D) doc pm an cdv ct) ⟨us, ks.zip ws⟩)
        (ps.zip (gp idx us mv ws))) : KBnD K fd ps n ks (fun vs zs => gp idx vs (ms.map (·.2)) zs) := by
  obtain ⟨mv, h⟩ := F.kbinds0 n ks ms (fun vs mz zs => gp idx vs mz zs) hk hms (fun r r1 r2 => gp_rel idx r r1 r2) h
  exact ⟨_, h⟩
end
end G
namespace G
open PySem PySem.Spec PyProof.Rows L2
section
variable {X : Cx} {K : PySem.W.Frag} {k n : Nat} {f C : Addr} {fd : FuncData} {ps : List Str} {sp : Sp}
variable {dvs : List V} {E : XK} {x m : Str} {p pos pos' : Pos} {e o value : Expr} {fl : Str} {ta tv : TE}
theorem d0 (F : Fg X k f fd ps sp) (z : RoomG k X.A) (hg : Gl X x) (hm : X.mg x = some (.ref f))
    (hk : PySem.W.keepIn X.K (.ref f) = true) (hb : BindsD X.K fd ps dvs)
    (hx : Ps X E) (hdb : (x == ("__debug__" : Str)) = false := by decide) :
    PE X (.Call (.Name x p) [] [] pos) (tCall sp dvs E tNil) := by
  obtain ⟨ds, hd, hb⟩ := hb
  exact c0 F z hg hm hk hb hd hx hdb
theorem k_sfld (h : X.K = K) (ha : PE X o ta) (hv : PE X value tv)
    (hs : swapsWith value (some (.Attribute o fl pos')) pos.line X.env = pure false) :
    PS X (.Assign [.Attribute o fl pos'] value pos) (sFld K ta tv fl) := h ▸ ps_fld ha hv hs
theorem k_pzip {e2 : Expr} {t : TA} {tpos : Pos} {elts : List Expr} {kk : Nat} (h : X.K = K) (hg : Gl X "zip") (hm : X.mg "zip" = none)
    (ha : PA X [e, e2] t) (hs : starEach [e, e2] X.env = (false, eval e X.env) :: starEach [e2] X.env := by rfl)
    (hpl : (backTo pos (starEach [e2] X.env)).any (·.1) = false := by rfl) :
    PI X (.Tuple elts kk tpos) (.Call (.Name "zip" p) [e, e2] [] pos) (iZip K t) := h ▸ pi_zip hg hm ha hs hpl
end
section
variable {K : PySem.W.Frag} {σ : L2.St} {H H1 : Hp} {Q : VK} {D : Ends} {tb : TS} {te : TE} {tt : TT} {g : TG}
variable {a b p q l C dx : Addr} {xs ys vs us : List V} {v x y : V} {fs : List (Str × V)} {f m : Str} {t ta : TE} {tr : TA} {sp : Sp} {E : XK}
variable {dvs : List V} {vn : List Nat}
theorem i_methD {t : TA} (h : ta σ H fun x H1 => MethR C m sp E (fun σ H Q => t σ H fun vs H' => Q (vs ++ dvs) H') σ x H1 Q) :
    tMeth C m sp dvs E ta t σ H Q := h
theorem i_isNn (h : Q (.bl true) H) : rIsN .non .non H Q := ⟨rfl, h⟩
theorem i_isNr (h : Q (.bl false) H) : rIsN (.ref a) .non H Q := ⟨rfl, h⟩
theorem i_isNi {n : Int} (h : Q (.bl false) H) : rIsN (.int n) .non H Q := ⟨rfl, h⟩
theorem i_notNn (h : Q (.bl false) H) : rNotN .non .non H Q := ⟨rfl, h⟩
theorem i_notNr (h : Q (.bl true) H) : rNotN (.ref a) .non H Q := ⟨rfl, h⟩
theorem i_notNi {n : Int} (h : Q (.bl true) H) : rNotN (.int n) .non H Q := ⟨rfl, h⟩
/-- a for over zip of two lists -/
def ForZ (K : PySem.W.Frag) (ws : List V) (g : TG) (tb : TS) (D : Ends) (σ : L2.St) (H : Hp) : Prop :=
  ∃ a b xs ys, ws = [.ref a, .ref b] ∧ SqL K H a xs ∧ SqL K H b ys ∧ ∃ W : Nat → Nat → L2.St → Hp → Prop,
    (∃ m, W 0 m σ H) ∧ ∀ i m σ H, W i m σ H → ((Itz K a b).stop i H ∧ D.nx σ H) ∨
      ((Itz K a b).go i H ∧ ∃ Nx : L2.St → Hp → Prop,
        (∀ σ' H', Nx σ' H' → ∃ m', m' < m ∧ W (i + 1) m' σ' H') ∧
        ∀ x H', (Itz K a b).yld i H x H' → g x σ H' fun σ2 H2 =>
          tb { D with nx := Nx, ct := Nx, bk := D.nx } σ2 H2)
theorem i_forZ (h : tr σ H fun ws H1 => ForZ K ws g tb D σ H1) : tFor (iZip K tr) g tb D σ H := h
theorem i_both (hx : SqL K H a xs) (hy : SqL K H b ys) (Pv : Nat → L2.St → Hp → Prop) (h0 : Pv 0 σ H)
    (hl : ∀ i σ H, Pv i σ H → SqL K H a xs ∧ SqL K H b ys)
    (st : ∀ i x y T σ H, xs[i]? = some x → ys[i]? = some y → Pv i σ H → Fr H T → g (.ref T) σ (upd H T (.tup [x, y])) fun σ2 H2 =>
      tb { D with nx := Pv (i + 1), ct := Pv (i + 1), bk := D.nx } σ2 H2)
    (hd : ∀ σ H, Pv (min xs.length ys.length) σ H → D.nx σ H) : ForZ K [.ref a, .ref b] g tb D σ H := by
  refine ⟨a, b, xs, ys, rfl, hx, hy, fun i m σ H => m = min xs.length ys.length - i ∧ i ≤ min xs.length ys.length ∧ Pv i σ H,
    ⟨_, rfl, Nat.zero_le _, h0⟩, ?_⟩
  rintro i m σ H ⟨rfl, hi, z⟩
  obtain ⟨qx, qy⟩ := hl i σ H z
  by_cases c : i < min xs.length ys.length
  · have c1 : i < xs.length := by omega
    have c2 : i < ys.length := by omega
    refine .inr ⟨⟨xs, ys, _, _, qx, qy, List.getElem?_eq_getElem c1, List.getElem?_eq_getElem c2⟩, Pv (i + 1),
      fun σ' H' w => ⟨_, by omega, rfl, by omega, w⟩, ?_⟩
    rintro v H' ⟨T, x', y', rfl, hT, rfl, f1, f2⟩
    exact st i x' y' T σ H (f1 xs qx) (f2 ys qy) z ⟨hT⟩
  · have e : i = min xs.length ys.length := by omega
    refine .inl ⟨⟨xs, ys, qx, qy, by omega⟩, hd σ H (by rw [← e]; exact z)⟩
/-- a comprehension over zip of two lists -/
def LcZ (K : PySem.W.Frag) (ws : List V) (g : TG) (tt : TT) (te : TE) (vs : List Nat) (σ : L2.St) (H1 : Hp) (Q : VK) : Prop :=
  ∃ a b xs ys, ws = [.ref a, .ref b] ∧ SqL K H1 a xs ∧ SqL K H1 b ys ∧ ∀ D, H1 D = none →
    ∃ W : Nat → Nat → Hp → Prop, (∃ m, W 0 m (upd H1 D (.lst []))) ∧ ∀ i m H, W i m H →
      ((Itz K a b).stop i H ∧ Q (.ref D) H) ∨ ((Itz K a b).go i H ∧ ∃ Nx : Hp → Prop,
        (∀ H', Nx H' → ∃ m', m' < m ∧ W (i + 1) m' H') ∧
        ∀ x H', (Itz K a b).yld i H x H' → g x (wipe σ vs) H' fun σ2 H2 => wipe σ2 vs = wipe σ vs ∧ tt σ2 H2 fun b H3 =>
          if b = true then te σ2 H3 fun y H4 => ∃ acc, H4 D = some (.lst acc) ∧ acc.length < sizeLine ∧
            Nx (upd H4 D (.lst (acc ++ [y]))) else Nx H3)
theorem i_lcZ (h : tr σ H fun ws H1 => LcZ K ws g tt te vn σ H1 Q) : tLc (iZip K tr) g tt te vn σ H Q := h
theorem i_eltz (hx : SqL K H a xs) (hy : SqL K H b ys) (Pv : Addr → Nat → Hp → Prop)
    (h0 : ∀ D, Fr H D → Pv D 0 (upd H D (.lst [])))
    (hl : ∀ D i H', Fr H D → Pv D i H' → SqL K H' a xs ∧ SqL K H' b ys)
    (st : ∀ D i x y T H', Fr H D → xs[i]? = some x → ys[i]? = some y → Pv D i H' → Fr H' T →
      g (.ref T) (wipe σ vn) (upd H' T (.tup [x, y])) fun σ2 H2 =>
      wipe σ2 vn = wipe σ vn ∧ tt σ2 H2 fun b H3 => if b = true then te σ2 H3 fun y H4 =>
        ∃ acc, H4 D = some (.lst acc) ∧ acc.length < sizeLine ∧ Pv D (i + 1) (upd H4 D (.lst (acc ++ [y])))
        else Pv D (i + 1) H3)
    (hd : ∀ D H', Fr H D → Pv D (min xs.length ys.length) H' → Q (.ref D) H') : LcZ K [.ref a, .ref b] g tt te vn σ H Q := by
  refine ⟨a, b, xs, ys, rfl, hx, hy, fun D hD => ⟨fun i m H => m = min xs.length ys.length - i ∧ i ≤ min xs.length ys.length ∧ Pv D i H,
    ⟨_, rfl, Nat.zero_le _, h0 D ⟨hD⟩⟩, ?_⟩⟩
  rintro i m H ⟨rfl, hi, z⟩
  obtain ⟨qx, qy⟩ := hl D i H ⟨hD⟩ z
  by_cases c : i < min xs.length ys.length
  · have c1 : i < xs.length := by omega
    have c2 : i < ys.length := by omega
    refine .inr ⟨⟨xs, ys, _, _, qx, qy, List.getElem?_eq_getElem c1, List.getElem?_eq_getElem c2⟩, Pv D (i + 1),
      fun H' w => ⟨_, by omega, rfl, by omega, w⟩, ?_⟩
    rintro v H' ⟨T, x', y', rfl, hT, rfl, f1, f2⟩
    exact st D i x' y' T H ⟨hD⟩ (f1 xs qx) (f2 ys qy) z ⟨hT⟩
  · have e : i = min xs.length ys.length := by omega
    refine .inl ⟨⟨xs, ys, qx, qy, by omega⟩, hd D H ⟨hD⟩ (by rw [← e]; exact z)⟩
/-- [v] * n -/
theorem i_rep {n : Int} (h : H l = some (.lst [v])) (h0 : 0 ≤ n) (h1 : n ≤ 1000000)
    (q : New H fun p => Q (.ref p) (upd H p (.lst (List.replicate n.toNat v)))) : rRep (.ref l) (.int n) H Q := by
  refine ⟨l, n, [v], rfl, rfl, h, by omega, by omega, ?_, fun p hp => ?_⟩
  · have e : ([v] : List V).length * n.toNat ≤ 1000000 := by
      rw [List.length_singleton]
      omega
    exact Nat.le_trans e (by decide)
  · have e : (List.replicate n.toNat [v]).flatten = List.replicate n.toNat v := by
      induction n.toNat with
      | zero => rfl
      | succ k ih => rw [List.replicate_succ, List.flatten_cons, ih, List.replicate_succ]; rfl
    rw [e]
    exact q p hp
/-- an object's entry -/
theorem Kp.upi {ws : List Addr} {H0 H1 : Hp} (k : Kp ws H0 H1) (h : H1 p = some (.ins C dx fs)) (hp : p ∈ ws) {o : HO} : Kp ws H0 (L2.upd H1 p o) :=
  k.trans (Kp.mut h (fun z => z) hp)
end
/-! ### runs and cells -/
def cells (ps : List (Int × Int)) : List Int := ps.flatMap fun p => List.replicate p.1.toNat p.2
def tag (c : Int) : Int × Int := (1, c)
end G
namespace G
open PySem PySem.Spec PyProof.Rows L2
section
variable {K : PySem.W.Frag} {σ : L2.St} {H H1 : Hp} {Q : VK} {a b p q l m C dx : Addr} {xs ys : List V} {fs : List (Str × V)} {o : HO}
variable {ds : List PyData} {ws : List Addr}
theorem i_addL (hx : H a = some (.lst xs)) (hy : H b = some (.lst ys)) (hz : xs.length + ys.length ≤ 1000000)
    (h : New H fun p => Q (.ref p) (upd H p (.lst (xs ++ ys)))) : uAdd K (.ref a) (.ref b) H Q :=
  .inr (.inr (.inl ⟨a, b, xs, ys, rfl, rfl, hx, hy, Nat.le_trans hz (by decide), h⟩))
theorem ld_ins (h : LD K H l ds) (hi : imms ds = true) (hq : H q = some (.ins C dx fs)) : LD K (upd H q o) l ds := by
  have k : Kp [q] H (L2.upd H q o) := Kp.mut hq (fun z => z) List.mem_cons_self
  refine h.kp k hi (not_one ?_)
  obtain ⟨vs, e, _⟩ := h
  intro z
  rw [z, hq] at e
  cases e
end
end G
namespace G
open L2 PySem
theorem fs_few {fs : List (Str × V)} (h : fs.length.blt 1000 = true) : fs.length < 1000 := by
  rw [Nat.blt_eq] at h
  exact h
end G
namespace G
open L2 PySem
theorem ld_push {K : PySem.W.Frag} {H0 H1 : Hp} {l : Addr} {vs : List V} {y : V} {ds : List PyData} {d : PyData} {ws : List Addr}
    (kp : Kp ws H0 H1) (h : DpAll K H0 vs ds) (hi : imms ds = true) (hv : H1 l = some (.lst (vs ++ [y]))) (hd : Dp K H1 y d) :
    LD K H1 l (ds ++ [d]) := ⟨_, hv, dpa_app (dpa_imm kp _ _ hi h) (dpa_one hd)⟩
end G
namespace G
open PySem PySem.Spec PyProof.Rows L2
/-! slices: read and written -/
section
variable {X : Cx} {o : Expr} {lo hi : Option Expr} {to : TE} {tl th : TO} {pos p2 : Pos}
def CutS (x : V) (i j : Option Int) (v : V) (H : Hp) (P : Hp → Prop) : Prop := ∃ l b xs ys a c, x = .ref l ∧ v = .ref b ∧
  i = some a ∧ j = some c ∧ H l = some (.lst xs) ∧ H b = some (.lst ys) ∧ l ≠ b ∧ 0 ≤ a ∧ a ≤ c ∧ c ≤ xs.length ∧
  xs.length + ys.length ≤ sizeLine ∧ P (upd H l (.lst (xs.take a.toNat ++ ys ++ xs.drop c.toNat)))
def gCut (to : TE) (tl th : TO) : TG := fun v σ H S => to σ H fun x H1 => tl σ H1 fun i H2 => th σ H2 fun j H3 =>
  CutS x i j v H3 fun H4 => S σ H4
theorem pg_cut (ho : PE X o to) (hl : PO X lo tl) (hu : PO X hi th)
    (ha : ∀ v, assign (.Subscript o (.Slice lo hi none p2) pos) X.env v = (do
      let ov ← holding [v] (eval o X.env)
      let iv ← holding [v, ov] (eval (.Slice lo hi none p2) X.env)
      standAt pos
      holding [v, ov, iv] (setItem ov iv v)
      release [iv, v, ov] []) := by intro _; rfl) :
    PG X (.Subscript o (.Slice lo hi none p2) pos) (gCut to tl th) := by
  constructor
  intro pins s σ H v u Q I r h
  rw [ha]
  refine wpAny_bind (wpAny_holding (thn (ho.run pins s σ H _ I h) ?_))
  rintro ov s1 ⟨x, H1, I1, r1, q1⟩
  refine wpAny_bind (wpAny_holding (PySem.wpAny_Slice (thn (hl.run pins s1 σ H1 _ I1 q1) ?_)))
  rintro vl s2 ⟨i, H2, I2, pl, q2⟩
  refine thn (hu.run pins s2 σ H2 _ I2 q2) ?_
  rintro vu s3 ⟨j, H3, I3, pu, q3⟩
  rw [evalPart_none]
  refine wpAny_pure ?_
  have I4 : Inv X pins σ H3 { s3 with heap := s3.heap.push { cls := .type "slice", data := .fields #[vl, vu, .none] } } :=
    I3.kept (t' := s3.toks) fun b ob z => Heap.get?_push_of_some _ z
  obtain ⟨l, b, xs, ys, a, c, rfl, rfl, rfl, rfl, e1, e2, ne, h0, hac, hc, hz, q⟩ := q3
  cases r1
  cases r
  cases pl
  rename_i ta
  cases pu
  rename_i tc
  refine wpAny_bind (wpAny_standAt (wpAny_bind (wpAny_holding ?_)))
  refine set_slice I4 e1 e2 ne (Heap.IsSliceOf.new ..) ⟨ta, rfl⟩ ⟨tc, rfl⟩ h0 hac hc hz ?_
  intro s5 I5
  exact wpAny_release ⟨σ, _, I5, q⟩
end
section
variable {K : PySem.W.Frag} {σ : L2.St} {H : Hp} {Q : VK} {a b l : Addr} {xs ys : List V} {r : V → Option Int → Option Int → Hp → VK → Prop}
variable {te to : TE} {tl th : TO} {P : Hp → Prop} {S : L2.St → Hp → Prop} {v x : V} {lo hi : Option Int} {R : Option Int → Hp → Prop}
theorem i_gCut (h : to σ H fun x H1 => tl σ H1 fun i H2 => th σ H2 fun j H3 => CutS x i j v H3 fun H4 => S σ H4) :
    gCut to tl th v σ H S := h
theorem i_cutS {i j : Int} (h1 : H l = some (.lst xs)) (h2 : H b = some (.lst ys)) (ne : l ≠ b) (h0 : 0 ≤ i ∧ i ≤ j ∧ j ≤ xs.length)
    (hz : xs.length + ys.length ≤ 1000000) (q : P (upd H l (.lst (xs.take i.toNat ++ ys ++ xs.drop j.toNat)))) :
    CutS (.ref l) (some i) (some j) (.ref b) H P :=
  ⟨l, b, xs, ys, i, j, rfl, rfl, rfl, rfl, h1, h2, ne, h0.1, h0.2.1, h0.2.2, Nat.le_trans hz (by decide), q⟩
theorem i_sl (h : te σ H fun x H1 => tl σ H1 fun l H2 => th σ H2 fun u H3 => r x l u H3 Q) : tSl r te tl th σ H Q := h
theorem i_part (h : te σ H fun x H1 => ∃ i, x = .int i ∧ R (some i) H1) : tPart te σ H R := h
theorem i_partI {n : Int} {P : Int → Prop} (h : P n) : ∃ i, V.int n = .int i ∧ P i := ⟨n, rfl, h⟩
theorem i_noPart (h : R none H) : tNoPart σ H R := h
theorem i_slL (h : SqL K H a xs) (q : New H fun p => Q (.ref p) (upd H p (.lst (cutV xs lo hi)))) : rSlL K (.ref a) lo hi H Q :=
  ⟨a, xs, rfl, h, q⟩
end
theorem cutV_mid {xs : List V} {i j : Int} (h : 0 ≤ i ∧ i ≤ j ∧ j ≤ xs.length) :
    cutV xs (some i) (some j) = (xs.drop i.toNat).take (j.toNat - i.toNat) := by
  obtain ⟨a, rfl⟩ := Int.eq_ofNat_of_zero_le h.1
  obtain ⟨c, rfl⟩ := Int.eq_ofNat_of_zero_le (Int.le_trans h.1 h.2.1)
  unfold cutV
  rw [HT.sIx_nat, HT.sIx_nat, Int.toNat_natCast, Int.toNat_natCast, Nat.min_eq_left (by omega), Nat.min_eq_left (by omega)]
theorem cutV_tail (x : V) (xs : List V) : cutV (x :: xs) (some 1) none = xs := by
  have e := HT.sIx_nat (x :: xs).length 0 1
  unfold cutV
  rw [show ((1 : Int)) = ((1 : Nat) : Int) from rfl, e, HT.sIx_none, List.length_cons, Nat.min_eq_left (by omega), List.drop_succ_cons, List.drop_zero]
  exact List.take_of_length_le (by omega)
theorem ix_nat {n j : Nat} (h : j < n) : ixN n (j : Int) = some j := by
  unfold ixN
  rw [if_pos (by omega), if_pos (by omega), Int.toNat_natCast]
theorem ix_int {n : Nat} {j : Int} (h0 : 0 ≤ j) (h : j < n) : ixN n j = some j.toNat := by
  unfold ixN
  rw [if_pos h0, if_pos h]
/-- one of two -/
theorem at_two {f : Nat → V} {r : Int} (h0 : 0 ≤ r) (h1 : r < 2) : atI [f 0, f 1] r = some (f r.toNat) := by
  have e : r = 0 ∨ r = 1 := by omega
  rcases e with rfl | rfl <;> rfl
end G
set_option Elab.async false
set_option linter.all false
set_option maxRecDepth 100000
set_option maxHeartbeats 4000000
namespace My
open PySem L2 G
/-! ### exceptions of the text's own classes, with an __init__ of their own -/
section
open PySem.W PySem.Calls PyProof.Rows
/-- what a class of the library gives to a class of the text over it -/
structure Under (B newId initId : String) (tail : List Value) : Prop where
  F : ExcBaseFacts B newId initId tail
  pass : ∀ self, refuseLoop self "__setattr__" tail = pure ()
  ob : tail.contains (.type "object") = true
  ne : tail.isEmpty = false
/-- classes of the text, then the library's -/
def refsOn (tail : List Value) : List Value → Bool
  | .ref _ :: r => refsOn tail r
  | l => l == tail
theorem refsOn_or {tail l : List Value} (h : refsOn tail l = true) : (∃ c r, l = .ref c :: r ∧ refsOn tail r = true) ∨ l = tail := by
  cases l with
  | nil => exact .inr (beq_iff_eq.mp h)
  | cons a r =>
    cases a with
    | ref c => exact .inl ⟨c, r, rfl, h⟩
    | _ => exact .inr (beq_iff_eq.mp h)
theorem Under.pass_all {B newId initId : String} {tail : List Value} (U : Under B newId initId tail) (self : Value) :
    ∀ l : List Value, refsOn tail l = true → refuseLoop self "__setattr__" l = pure () := by
  intro l
  induction l with
  | nil =>
    intro h
    rcases refsOn_or h with ⟨c, r, e, _⟩ | e
    · cases e
    · rw [e]
      exact U.pass self
  | cons a r ih =>
    intro h
    rcases refsOn_or h with ⟨c, r2, e, h2⟩ | e
    · cases e
      rw [refuseLoop_ref]
      exact ih h2
    · rw [e]
      exact U.pass self
theorem Under.has_all {B newId initId : String} {tail : List Value} (U : Under B newId initId tail) (X : String) :
    ∀ l : List Value, refsOn tail l = true → l.contains (.type X) = tail.contains (.type X) := by
  intro l
  induction l with
  | nil =>
    intro h
    rcases refsOn_or h with ⟨c, r, e, _⟩ | e
    · cases e
    · rw [e]
  | cons a r ih =>
    intro h
    rcases refsOn_or h with ⟨c, r2, e, h2⟩ | e
    · cases e
      rw [List.contains_cons, ih h2]
      rfl
    · rw [e]
theorem under_RuntimeError : Under "RuntimeError" "RuntimeError.__new__" "RuntimeError.__init__" [.type "RuntimeError", .type "Exception", .type "BaseException", .type "object"] :=
  ⟨PySem.F.excBase_RuntimeError, fun _ => by kernel_rfl, by decide +kernel, rfl⟩
theorem under_LookupError : Under "LookupError" "LookupError.__new__" "LookupError.__init__" [.type "LookupError", .type "Exception", .type "BaseException", .type "object"] :=
  ⟨PySem.F.excBase_LookupError, fun _ => by kernel_rfl, by decide +kernel, rfl⟩
section
open Builtin Builtin.ObjectAttr
variable {prog : Program} {w : World} {A : Around} {E : Value → Shared → Prop} {R : Result → Shared → Prop} {hp : Heap} {g : Array GenState} {d : Drawn} {t : Nat} {os : OsState}
/-- the first field that is stored in such an exception -/
theorem first_field {K : PySem.W.Frag} {name : Str} {tk : Tok} {v : Value} {x C : Addr} {fv : Array Value} {cd : ClassData}
    (inn : K.In hp) (hx : hp.get? x = some { cls := .ref C, data := .fields fv }) (cl : clsIn K C = some cd) (pass : ∀ self, refuseLoop self "__setattr__" cd.mro = pure ())
    (ob : cd.mro.contains (.type "object") = true) (ne : cd.mro.isEmpty = false) (dct : cd.hasDict = true) (no : findIn K (.ref C) name = some none)
    (q : ∀ h' tk' dx, (∀ b o, b ≠ x → hp.get? b = some o → h'.get? b = some o) → hp.objs.size ≤ dx → dx ≠ x → h'.get? x = some { cls := .ref C, dict := some dx, data := .fields fv } →
      h'.Ns1 dx (fun y => if y = name then some v else none) → R (.ok (.ret .none)) ⟨h', g, d, tk', os⟩) :
    codeAny (model prog w) A (.call (.builtin "object.__setattr__") ⟨[.ref x, .str name tk, v], []⟩) R ⟨hp, g, d, t, os⟩ := by
  have J : InstAt hp x { cls := .ref C, data := .fields fv } C none := ⟨hx, rfl, rfl, trivial⟩
  have S := PySem.F.store_object
  have nx : x ≠ hp.objs.size := Nat.ne_of_lt (Heap.lt_size hx)
  have isob : Looks (model prog w) hp (isInstance (.ref x) (.type "object")) true := by
    refine J.type.andThen (looks_mroIn inn ?_)
    unfold mroIn
    rw [cl, Option.bind_some, if_neg (by rw [ne]; decide), ob]
  have mro_ : Looks (model prog w) hp (mroOf (.ref C)) cd.mro := (looks_clsIn inn cl).andThen .now
  have taker : Looks (model prog w) hp (storeTaker? none) none := .now
  have data_ : Looks (model prog w) hp (classData C) cd := looks_clsIn inn cl
  refine codeAny_call_builtin S.slot.plain S.entry
    (check_slot (M := model prog w) (s := ⟨hp, g, d, t, os⟩) (owner := "object") (n := "__setattr__") S.kind S.split isob (S.args (.ref x) (.str name tk) v) ?_)
  rw [osa_eq, refuse_eq]
  apply wpAny_bind
  apply wpAny_bind
  refine J.type.at ?_
  apply wpAny_bind
  refine mro_.at ?_
  rw [pass]
  apply wpAny_pure
  apply wpAny_bind
  refine J.type.at ?_
  apply wpAny_bind
  refine (looks_findIn inn no).at ?_
  apply wpAny_bind
  refine taker.at ?_
  show wpAny _ _ (storeInOwnDict (.ref x) (.ref C) (.str name tk) name v false) _ _ _
  cases cd
  dsimp only at dct
  subst dct
  unfold storeInOwnDict ownDictForStores
  repeat (first
    | with_reducible refine HandSPX.store_in_new ?_ ?_
    | with_reducible refine wpAny_loadPart_at hx ?_
    | with_reducible refine data_.at ?_
    | wp_step)
  · have e : ∀ f, ((hp.push { cls := .type "dict", data := .dict #[] }).update x f).get? hp.objs.size = some { cls := .type "dict", data := .dict #[] } := fun f => by
      rw [Heap.get?_update_ne _ _ _ _ (Ne.symm nx)]
      exact Heap.get?_push_at rfl rfl
    exact ⟨_, #[], _, e _, rfl, fun e he => absurd he (by simp), fun _ => rfl⟩
  · intro h' tk' hn same
    have hx1 : (hp.push { cls := .type "dict", data := .dict #[] }).get? x = some { cls := .ref C, data := .fields fv } := Heap.get?_push_of_some _ hx
    refine q h' tk' hp.objs.size ?_ (Nat.le_refl _) (Ne.symm nx) ?_ hn
    · intro b o hb ho
      rw [same.2 b (Nat.ne_of_lt (Heap.lt_size ho)), Heap.get?_update_ne _ _ _ _ hb]
      exact Heap.get?_push_of_some _ ho
    · rw [same.2 x nx]
      exact Heap.get?_update_self _ hx1 rfl
end
end
/-- what the written part tells of such a class -/
structure XC (K : PySem.W.Frag) (C : Addr) (B newId initId : String) (tail : List Value) : Prop where
  U : Under B newId initId tail
  cls : ∃ nm q N bs bm sn sub ab col dd k0 k1 k2 k3 k5, K.lookup C = some (excClassObj nm q C N bs bm true sn sub ab col dd k0 k1 k2 k3 k5 newId) ∧ refsOn tail bm = true
  sa : PySem.W.findIn K (.ref C) "__setattr__" = some (some (.builtin "object.__setattr__"))
  ex : PySem.W.subIn K (.ref C) (.type "BaseException") = some true
  ty : PySem.W.typeIn K (.ref C) = some (.type "type")
  kp : PySem.W.keepIn K (.ref C) = true
section
variable {X : Cx} {pins : List (Addr × Obj)} {σ : L2.St} {H : Hp} {s : Shared} {a C : Addr} {f : Str} {y : V} {u : Value} {A : Around} {B newId initId : String} {tail : List Value}
/-- the base's own __init__: the exception stays as it is told -/
theorem base_init {us : List Value} {Q : Value → Shared → Prop} {E : Value → Shared → Prop} (T : XC X.K C B newId initId tail) (I : Inv X pins σ H s) (ha : H a = some (exo a C none)) (few : us.length ≤ sizeLine)
    (h : ∀ s', Inv X pins σ H s' → Q .none s') : wpAny (model X.prog X.w) A (call (.builtin initId) (.ref a :: us)) Q E s := by
  obtain ⟨nm, q, N, bs, bm, sn, sub, ab, col, dd, k0, k1, k2, k3, k5, hC, on⟩ := T.cls
  obtain ⟨t1, ho⟩ := exo_at I.hok ha
  cases s with
  | mk hp g d t os =>
    refine wpAny_call (PySem.HandSPX.init_base T.U.F (fun Y => T.U.has_all Y bm on) (I.kIn _ _ hC) ho few ?_)
    intro h' t2 keep hx
    have J := I.write (t' := t) (x := a) (e := a) (o := exo a C none) (by rw [ha]; trivial) (.inl rfl) keep ⟨_, hx⟩ (exo_ok hx)
    have same : upd H a (exo a C none) = H := by
      funext b
      by_cases e : b = a
      · rw [e, upd_same]
        exact ha.symm
      · exact upd_ne e
    rw [same] at J
    exact h _ J
/-- its first field -/
theorem field_new {Q : Unit → Shared → Prop} {E : Value → Shared → Prop} (T : XC X.K C B newId initId tail) (I : Inv X pins σ H s) (ha : H a = some (exo a C none))
    (no : PySem.W.findIn X.K (.ref C) f = some none) (ry : RelV y u)
    (h : ∀ dx s', H dx = none → dx ≠ a → Inv X pins σ (upd (upd H dx (exd dx [(f, y)])) a (exo a C (some dx))) s' → Q () s') :
    wpAny (model X.prog X.w) A (setAttr (.ref a) f u) Q E s := by
  obtain ⟨nm, q, N, bs, bm, sn, sub, ab, col, dd, k0, k1, k2, k3, k5, hC, on⟩ := T.cls
  have cl : PySem.W.clsIn X.K C = some { name := nm, bases := bs, mro := .ref C :: bm, ns := N, qualname := q, hasDict := true, slotNames := sn, subclasses := sub, abstract := ab, collection := col, hasDel := false } := by
    unfold PySem.W.clsIn
    rw [hC] <;> rfl
  have on2 : refsOn tail (.ref C :: bm) = true := on
  obtain ⟨t1, ho⟩ := exo_at I.hok ha
  cases s with
  | mk hp g d t os =>
    refine PySem.W.set_plain I.kIn (ox := { cls := .ref C, dict := none, data := .fields #[.ref t1, .none, .none, .none, .bool false, .none] }) (od := none) ⟨ho, rfl, rfl, trivial⟩ T.sa ?_
    refine first_field I.kIn ho cl (fun self => T.U.pass_all self _ on2) ((T.U.has_all "object" _ on2).trans T.U.ob) rfl rfl no ?_
    intro h' tk' dx keep big dne hx hn
    have hdx : H dx = none := I.hok.fresh big
    have old : ∀ {b : Addr} {o : Obj}, hp.get? b = some o → b ≠ dx := fun {b o} e => Nat.ne_of_lt (Nat.lt_of_lt_of_le (Heap.lt_size e) big)
    have off : ∀ {b : Addr}, H b = none → b ≠ a := fun {b} n z => by
      rw [z, ha] at n
      exact nomatch n
    have U1 : Un X.fs [] H (upd (upd H dx (exd dx [(f, y)])) a (exo a C (some dx))) hp h' := by
      refine ⟨fun b o e n _ _ => keep b o (off n) e, fun b o e n _ _ => ⟨o.slots, keep b o (off n) e⟩, ?_, ?_, ?_, ?_, ?_⟩
      · intro b o e n _
        rw [upd_ne (off n), upd_ne (old e)]
        exact n
      · intro b o e _
        by_cases z : b = a
        · exact ⟨_, by rw [z]; exact hx⟩
        · exact ⟨o, keep b o z e⟩
      · intro b xs e
        rw [upd_ne (at_ne ha e exo_tup), upd_ne (ne_of_none e hdx)]
        exact e
      · intro b o v e
        rw [upd_ne (at_ne ha e exo_frz), upd_ne (ne_of_none e hdx)]
        exact e
      · intro b ps e
        refine ⟨#[], ?_⟩
        rw [upd_ne (at_ne ha e exo_tbl), upd_ne (ne_of_none e hdx), e]
        simp
    refine h dx _ hdx dne (I.un (t' := tk') U1 ?_)
    intro b o e
    by_cases z : b = a
    · subst z
      rw [upd_same] at e
      cases e
      exact exo_ok hx
    rw [upd_ne z] at e
    by_cases z2 : b = dx
    · subst z2
      rw [upd_same] at e
      cases e
      exact exd_ok hn (relO_put (fs := []) ry fun g => trivial)
    rw [upd_ne z2] at e
    refine (I.hok b o e).stay ?_ ?_ ?_
    · intro c v hc r
      refine keep c v ?_ r
      rcases hc with hc | hc
      · rw [hc]
        exact z
      · exact at_ne ha hc exo_own
    · intro c hc
      rw [upd_ne (at_ne ha hc exo_own), upd_ne (ne_of_none hc hdx)]
      exact hc
    · intro c xs hc
      rw [upd_ne (at_ne ha hc exo_tup), upd_ne (ne_of_none hc hdx)]
      exact hc
end
/-- B.__init__(self, ..) -/
def tBase (K : PySem.W.Frag) (B newId initId : String) (tail : List Value) (ta : TA) : TE := fun σ H Q => ta σ H fun vs H1 =>
  ∃ (a C : Addr) (ws : List V), vs = .ref a :: ws ∧ ws.length ≤ 1000 ∧ XC K C B newId initId tail ∧ H1 a = some (exo a C none) ∧ Q .non H1
/-- self.f = e, the one field -/
def tPut (K : PySem.W.Frag) (B newId initId : String) (tail : List Value) (f : Str) (to te : TE) : TS := fun D σ H => te σ H fun y H1 => to σ H1 fun x H2 =>
  ∃ a C : Addr, x = .ref a ∧ XC K C B newId initId tail ∧ PySem.W.findIn K (.ref C) f = some none ∧ H2 a = some (exo a C none) ∧
    ∀ dx, H2 dx = none → dx ≠ a → D.nx σ (upd (upd H2 dx (exd dx [(f, y)])) a (exo a C (some dx)))
section
variable {X : Cx} {o e : Expr} {es : List Expr} {to te : TE} {ta : TA} {f : Str} {p p' p1 p2 pos : Pos} {B newId initId : String} {tail : List Value} {nB : Str}
theorem x_base {pl : Sem Bool} (U : Under B newId initId tail) (hg : Gl X nB) (hm : X.mg nB = none) (hv : bootBuiltins nB = some (.type B))
    (ty : typeOf (.type B) = pure (.type "type")) (vV : PySem.W.findCls X.K (.type B) (.type "type") "__init__" = some (.val (.builtin initId)))
    (ha : PA X (e :: es) ta)
    (hn : nB ≠ "__name__" := by decide) (hdb : (nB == ("__debug__" : Str)) = false := by decide)
    (c1 : PySem.W.handedIn (.builtin initId) = true := by decide +kernel) (c2 : Manifest.isStub B = false := by decide +kernel)
    (hc : eval (.Call (.Attribute (.Name nB p1) "__init__" p2) (e :: es) [] pos) X.env = (do
      let ov ← eval (.Name nB p1) X.env
      standAt p2.atName
      let (f, first) ← holding [ov] (getMethod ov "__init__" pl)
      callWith pos f first (backTo pos (starEach (e :: es) X.env)) (backToKw pos (keywordEach [] X.env))) := by rfl)
    (he : starEach (e :: es) X.env = (false, eval e X.env) :: starEach es X.env := by rfl) (hpl : (backTo pos (starEach es X.env)).any (·.1) = false := by rfl) :
    PE X (.Call (.Attribute (.Name nB p1) "__init__" p2) (e :: es) [] pos) (tBase X.K B newId initId tail ta) := by
  constructor
  intro pins s σ H Q I h
  refine PySem.W.methodCall_KW (ld_blt I hg hm hv ?_ hn hdb) hc
  obtain ⟨m, fr⟩ := I.fr
  refine PySem.W.method_type fr I.ok.mod.kin ty c2 vV c1 ?_
  show wpAny _ _ (callWith pos (Value.builtin initId) [] (backTo pos (starEach (e :: es) X.env)) []) _ _ _
  refine PyProof.Rows.callWith_method1 (thn (ha.run pos pins _ σ H _ (I.tok _) h) ?_) he hpl
  rintro us s1 ⟨vs, H1, I1, r1, a, C, ws, rfl, few, T, ea, q⟩
  cases r1 with
  | cons ra rw' =>
    cases ra
    refine base_init T I1 ea ?_ fun s' J => ⟨.non, H1, J, rfl, q⟩
    rw [← Paired.length rw', sizeLine_eq]
    omega
theorem x_put (ho : PE X o to) (he : PE X e te) (hs : swapsWith e (some (.Attribute o f p')) pos.line X.env = pure false := by rfl) :
    PS X (.Assign [.Attribute o f p'] e pos) (tPut X.K B newId initId tail f to te) := by
  constructor
  intro pins s σ H D I h
  refine plainObj_wpAny_Assign_Attribute (thn (he.run pins s σ H _ I h) ?_) hs
  rintro v s1 ⟨y, H1, I1, r1, q1⟩
  refine thn (ho.run pins s1 σ H1 _ I1 q1) ?_
  rintro u s2 ⟨x, H2, I2, r2, a, C, rfl, T, no, ea, q⟩
  cases r2
  exact field_new T I2 ea no r1 fun dx s' n ne J => ⟨σ, _, J, q dx n ne⟩
end
/-- C(e, ..), C's own __init__ keeping sp -/
def tNewX (C : Addr) (sp : Sp) (ta : TA) : L2.St → Hp → XK → Prop := fun σ H Q => ta σ H fun vs H1 => vs.length ≤ 1000 ∧ ∀ a, H1 a = none → sp (.ref a :: vs) (upd H1 a (exo a C none))
  (fun v H2 => v = .non ∧ ∃ (d : Addr) (fs : List (Str × V)), H2 a = some (exo a C (some d)) ∧ H2 d = some (exd d fs) ∧ H1 d = none ∧ Q (.ref C) (some d) (upd (del H2 a) d (.xd fs))) E0
section
variable {X : Cx} {e : Expr} {es : List Expr} {ta : TA} {p pos : Pos} {B newId initId : String} {tail : List Value} {x : Str} {C fI : Addr} {k : Nat} {fd : FuncData} {ps : List Str} {sp : Sp}
theorem x_new (T : XC X.K C B newId initId tail) (iC : PySem.W.findIn X.K (.ref C) "__init__" = some (some (.ref fI))) (tI : PySem.W.typeIn X.K (.ref fI) = some (.type "function"))
    (F1 : Fg X k fI fd ps sp) (z : RoomG (k + 1) X.A) (hb : BindsD X.K fd ps []) (hg : Gl X x) (hm : X.mg x = some (.ref C)) (ha : PA X (e :: es) ta)
    (hdb : (x == ("__debug__" : Str)) = false := by decide) (he : starEach (e :: es) X.env = (false, eval e X.env) :: starEach es X.env := by rfl) (hpl : (backTo pos (starEach es X.env)).any (·.1) = false := by rfl) :
    PMk X (.Call (.Name x p) (e :: es) [] pos) (tNewX C sp ta) := by
  obtain ⟨ds, hd, hb⟩ := hb
  cases hd
  intro pins s σ H Q I h
  obtain ⟨nm, q, N, bs, bm, sn, sub, ab, col, dd, k0, k1, k2, k3, k5, hC, on⟩ := T.cls
  refine wpAny_Call_Name_kw (ld_glob I hg hm ?_ hdb)
  refine PySem.W.callWith_K (h₀ := X.base) I.ok.mod.kin T.kp (thn (ha.run pos pins s σ H _ I h) ?_) he hpl
  rintro us s1 ⟨vs, H1, I1, r1, few, q1⟩
  refine ⟨I1.kIn, ?_⟩
  show wpAny _ _ (call (.ref C) us) _ _ _
  cases s1 with
  | mk hp g dr tk os =>
    have big : hp.objs.size ≤ hp.objs.size + 1 := Nat.le_succ _
    have hq := q1 (hp.objs.size + 1) (I1.hok.fresh big)
    have keep : ∀ b o, hp.get? b = some o → ((hp.push (PySem.W.kdv_tup us)).push (PySem.HandSPX.excO C hp.objs.size)).get? b = some o :=
      fun b o e => Heap.get?_push_of_some _ (Heap.get?_push_of_some _ e)
    have there : ((hp.push (PySem.W.kdv_tup us)).push (PySem.HandSPX.excO C hp.objs.size)).get? (hp.objs.size + 1) = some (PySem.HandSPX.excO C hp.objs.size) := by heap_get
    have I2 : Inv X pins σ (upd H1 (hp.objs.size + 1) (exo (hp.objs.size + 1) C none)) ⟨(hp.push (PySem.W.kdv_tup us)).push (PySem.HandSPX.excO C hp.objs.size), g, dr, tk, os⟩ :=
      I1.laid (t' := tk) (a := hp.objs.size + 1) (o := exo (hp.objs.size + 1) C none) keep big (exo_ok there)
    have r2 : Vals (V.ref (hp.objs.size + 1) :: vs) (Value.ref (hp.objs.size + 1) :: us) := .cons rfl r1
    have hl : (Value.ref (hp.objs.size + 1) :: us ++ []).length = ps.length := by
      rw [List.append_nil, ← r2.length]
      exact F1.len _ _ _ _ hq
    have hus : us.length ≤ sizeLine := by
      rw [← Paired.length r1, sizeLine_eq]
      omega
    have b := hb _ (Value.ref (hp.objs.size + 1) :: us) I2.kIn hl
    rw [List.append_nil] at b
    refine wpAny_call (PySem.HandSPX.call_own T.U.F (fun Y => T.U.has_all Y bm on) (I1.kIn _ _ hC) (PySem.W.looks_findIn I1.kIn iC) (fun self => PySem.W.bind_fn I1.kIn self tI) hus
      (codeAny_mono (F1.run _ X.stack _ _ ⟨Value.ref (hp.objs.size + 1) :: us, []⟩ _ _ _ E0 (z.make C us []) (I2.env0.make C us []) b r2 hq) ?_))
    intro r s' hr
    match r, hr with
    | .error er, hr => exact passL pins σ _ _ er s' I2 hr
    | .ok (.ret u), hr =>
      obtain ⟨v, H2, os2, bare2, un2, hok2, rv, ev, d, fs, ea, ed, hd1, q2⟩ := hr
      subst ev
      cases s' with
      | mk h2 g2 d2 t2 os' => exact ⟨rv, mk_end (raises_own T.ex T.ty) I1 big keep un2 hok2 os2 bare2 ea ed hd1 q2⟩
    | .ok .next, hr => exact False.elim hr
    | .ok .brk, hr => exact False.elim hr
    | .ok .cont, hr => exact False.elim hr
end

/-! ### calls that may raise; what is asked of a caught exception -/
section
variable {X : Cx} {k n : Nat} {f C : Addr} {fd : FuncData} {ps ks : List Str} {sp : Sp} {dvs : List V} {E : L2.St → XK} {x m : Str} {p pos apos : Pos} {e o : Expr} {es : List Expr} {ta : TE} {t : TA}
variable {pins : List (Addr × Obj)} {σ : L2.St} {H : Hp} {s s' : Shared} {Q : VK}
abbrev PsAt (X : Cx) (E : L2.St → XK) : Prop := ∀ σ, PassesAt (L2.CX X.prog X.w) X σ (E σ)
theorem raise_run {us : List Value} {vs : List V} (F : Fg X k f fd ps sp) (z : RoomG k X.A) (hb : BindsD X.K fd ps dvs) (hx : PsAt X E) (I : Inv X pins σ H s) (rv : Vals vs us)
    (h : sp (vs ++ dvs) H Q (E σ)) : wpAny (model X.prog X.w) X.A (call (.ref f) us) (EP X pins σ Q) X.xe s := by
  obtain ⟨ds, hd, hb⟩ := hb
  have r2 : Vals (vs ++ dvs) (us ++ ds) := rv.append hd
  have hl : (us ++ ds).length = ps.length := by
    rw [← r2.length]
    exact F.len _ _ _ _ h
  refine wpAny_call (codeAny_mono (F.run X.A X.stack s H ⟨us, []⟩ _ _ Q (E σ) z I.env0 (hb s us I.kIn hl) r2 h) ?_)
  intro r s' q
  match r, q with
  | .error e, q => exact hx σ pins H s e s' I q
  | .ok (.ret u), q => exact I.after q
  | .ok .next, q => exact False.elim q
  | .ok .brk, q => exact False.elim q
  | .ok .cont, q => exact False.elim q
/-- f(..), that may raise -/
def tCallX (sp : Sp) (dvs : List V) (E : L2.St → XK) (t : TA) : TE := fun σ H Q => t σ H fun vs H1 => sp (vs ++ dvs) H1 Q (E σ)
theorem s1 (F : Fg X k f fd ps sp) (z : RoomG k X.A) (hg : Gl X x) (hm : X.mg x = some (.ref f)) (hk : PySem.W.keepIn X.K (.ref f) = true) (hb : BindsD X.K fd ps dvs)
    (hx : PsAt X E) (ha : PA X (e :: es) t) (hdb : (x == ("__debug__" : Str)) = false := by decide)
    (he : starEach (e :: es) X.env = (false, eval e X.env) :: starEach es X.env := by rfl) (hpl : (backTo pos (starEach es X.env)).any (·.1) = false := by rfl) :
    PE X (.Call (.Name x p) (e :: es) [] pos) (tCallX sp dvs E t) := by
  constructor
  intro pins s σ H Q I h
  refine wpAny_Call_Name_kw (ld_glob I hg hm ?_ hdb)
  refine PySem.W.callWith_K (h₀ := X.base) I.ok.mod.kin hk (thn (ha.run pos pins s σ H _ I h) ?_) he hpl
  rintro us s1 ⟨vs, H1, I1, r, q⟩
  exact ⟨I1.kIn, raise_run F z hb hx I1 r q⟩
/-- o.m(..), that may raise -/
def tMethX (C : Addr) (nm : Str) (sp : Sp) (dvs : List V) (E : L2.St → XK) (ta : TE) (t : TA) : TE := fun σ H Q => ta σ H fun x H1 => ∃ a dx fs, x = .ref a ∧ H1 a = some (.ins C dx fs) ∧ fs.lookup nm = none ∧
  t σ H1 fun vs H2 => sp (x :: vs ++ dvs) H2 Q (E σ)
theorem sm {pl : Sem Bool} (c : Cls X.K C) (hm : Meth X.K C m f) (F : Fg X k f fd ps sp) (z : RoomG k X.A) (hb : BindsD X.K fd ps dvs) (hx : PsAt X E) (he : PE X o ta) (ha : PA X (e :: es) t)
    (hst : starEach (e :: es) X.env = (false, eval e X.env) :: starEach es X.env := by rfl) (hpl : (backTo pos (starEach es X.env)).any (·.1) = false := by rfl)
    (ht : eval (.Call (.Attribute o m apos) (e :: es) [] pos) X.env = (do
      let y ← eval o X.env
      standAt apos.atName
      let (g, a) ← holding [y] (getMethod y m pl)
      callWith pos g a (backTo pos (starEach (e :: es) X.env)) (backToKw pos (keywordEach [] X.env))) := by rfl) :
    PE X (.Call (.Attribute o m apos) (e :: es) [] pos) (tMethX C m sp dvs E ta t) := by
  constructor
  intro pins s σ H Q I h
  refine PySem.W.methodCall_KW (pl := pl) (thn (he.run pins s σ H _ I h) ?_) ht
  rintro u s1 ⟨v, H1, I1, rx, a, dx, fs, rfl, ea, l, q⟩
  cases rx
  refine getmeth_ok I1 ea c hm l ?_
  refine PySem.W.callWith_K (first := [.ref a]) (h₀ := X.base) I.ok.mod.kin hm.kp (thn (ha.run pos pins s1 σ H1 _ I1 q) ?_) hst hpl
  rintro us s2 ⟨vs, H2, I2, r, q2⟩
  exact ⟨I2.kIn, raise_run (us := .ref a :: us) (vs := .ref a :: vs) F z hb hx I2 (.cons rfl r) q2⟩
theorem sm0 {pl : Sem Bool} (c : Cls X.K C) (hm : Meth X.K C m f) (F : Fg X k f fd ps sp) (z : RoomG k X.A) (hb : BindsD X.K fd ps dvs) (hx : PsAt X E) (he : PE X o ta)
    (ht : eval (.Call (.Attribute o m apos) [] [] pos) X.env = (do
      let y ← eval o X.env
      standAt apos.atName
      let (g, a) ← holding [y] (getMethod y m pl)
      callWith pos g a (backTo pos (starEach [] X.env)) (backToKw pos (keywordEach [] X.env))) := by rfl) :
    PE X (.Call (.Attribute o m apos) [] [] pos) (tMethX C m sp dvs E ta tNil) := by
  constructor
  intro pins s σ H Q I h
  refine PySem.W.methodCall_KW (pl := pl) (thn (he.run pins s σ H _ I h) ?_) ht
  rintro u s1 ⟨v, H1, I1, rx, a, dx, fs, rfl, ea, l, q⟩
  cases rx
  refine getmeth_ok I1 ea c hm l ?_
  refine PySem.W.callWith_K0 (first := [.ref a]) I1.kIn hm.kp ?_
  exact raise_run (us := [.ref a]) (vs := [.ref a]) F z hb hx I1 (.cons rfl .nil) q
theorem i_callX {σ : L2.St} {H : Hp} {Q : VK} (h : t σ H fun vs H1 => sp (vs ++ dvs) H1 Q (E σ)) : tCallX sp dvs E t σ H Q := h
theorem i_callX0 {σ : L2.St} {H : Hp} {Q : VK} (h : t σ H fun vs H1 => sp vs H1 Q (E σ)) : tCallX sp [] E t σ H Q := by
  unfold tCallX
  simp only [List.append_nil]
  exact h
end
section
open PySem.W PySem.Calls PyProof.Rows
variable {prog : Program} {w : World} {K : PySem.W.Frag} {x D : Addr} {ox : Obj}
theorem kit_exc (T : L2.ExcC K D) : KitX K (.ref x) (.ref D) (fun h => ∃ od, InstAt h x ox D od) := by
  obtain ⟨cd, hc, _⟩ := any_some T.hd
  have at_ : ∃ o, K.lookup D = some o ∧ ∀ cls dict its n sl, o ≠ ⟨cls, dict, .seq its n, sl⟩ := by
    unfold clsIn at hc
    split at hc
    · rename_i c' d' cd' sl' ho
      exact ⟨_, ho, fun _ _ _ _ _ z => nomatch z⟩
    · cases hc
  have hf : ∀ od, findObj K D od "__class__" = some (.bind (.builtin "getset_descriptor.__get__") (.builtin "object.__class__")) :=
    fun od => findObj_dataE (by rw [hc]; rfl) T.ha T.hn T.ht
  refine ⟨fun _ _ _ ⟨_, I⟩ => I.type, ?_, ?_, ?_⟩
  · intro M h inn _
    unfold clsIn at hc
    split at hc
    · rename_i c' d' cd' sl' ho
      intro A Q E s keep q
      unfold isType loadHead
      exact wpAny_bind (wpAny_loadPart (keep _ _ (inn _ _ ho)) (wpAny_pure q))
    · cases hc
  · intro h tp dd its n sl inn htp
    rw [Bool.eq_false_iff]
    intro q
    have e : D = tp := Value.ref.inj (beq_iff_eq.mp q)
    subst e
    obtain ⟨o, ho, no⟩ := at_
    have z := (inn _ _ ho).symm.trans htp
    exact no _ _ _ _ _ (Option.some.inj z)
  · intro prog w A E Q s inn ⟨od, I⟩ q
    exact kx_classE inn I T.hg T.hk T.hs (hf od) T.hm q
end
/-- isinstance(e, c), e the caught exception at a, of the class cls, its dict d -/
def rIsX (K : PySem.W.Frag) (a : Addr) (cls : Value) (d : Option Addr) : List V → Hp → VK → Prop := fun xs H Q => ∃ (D : Addr) (c : V) (cv : Value) (b : Bool), cls = .ref D ∧ L2.ExcC K D ∧
  (d = none ∨ ∃ dd fs, d = some dd ∧ H dd = some (.xd fs)) ∧ xs = [.ref a, c] ∧ ClsV c cv ∧ PySem.W.kitOne K (.ref D) cv = some b ∧ Q (.bl b) H
/-- isinstance(e, (c1, c2, ..)) -/
def rIsXT (K : PySem.W.Frag) (a : Addr) (cls : Value) (d : Option Addr) : List V → Hp → VK → Prop := fun xs H Q => ∃ (D tp : Addr) (cs : List V) (us : List Value) (b : Bool), cls = .ref D ∧ L2.ExcC K D ∧
  (d = none ∨ ∃ dd fs, d = some dd ∧ H dd = some (.xd fs)) ∧ xs = [.ref a, .ref tp] ∧ H tp = some (.tup cs) ∧ Paired ClsV cs us ∧ PySem.W.kitAny K (.ref D) us = some b ∧ Q (.bl b) H
section
variable {X : Cx} {a : Addr} {oe : Obj} {cls : Value} {d : Option Addr} {pn : List (Addr × Obj)} {K : PySem.W.Frag}
theorem caught_at {D : Addr} {pins : List (Addr × Obj)} {σ : L2.St} {H : Hp} {s : Shared} (I : Inv (X.suite a ((a, oe) :: pn)) pins σ H s) (hz : Zc (.ref D) d oe) (hf : ∃ vs, oe.data = .fields vs)
    (hd : d = none ∨ ∃ dd fs, d = some dd ∧ H dd = some (.xd fs)) : ∃ od, PySem.W.InstAt s.heap a oe D od := by
  obtain ⟨there, _⟩ := I.pin (a, oe) (List.mem_append_left _ List.mem_cons_self)
  obtain ⟨vs, hv⟩ := hf
  obtain ⟨h1, h2⟩ := hz
  have nc : PySem.W.notCls oe = true := by
    unfold PySem.W.notCls
    rw [hv] <;> rfl
  rcases hd with rfl | ⟨dd, fs, rfl, e⟩
  · exact ⟨none, there, h1, nc, by rw [h2]; trivial⟩
  · obtain ⟨mA, hns, _⟩ : ObjOk X.prog X.w H s.heap dd (.xd fs) := I.hok dd _ e
    obtain ⟨od, ho, _⟩ := lookIn_ns hns
    exact ⟨some od, there, h1, nc, by rw [h2]; exact ho⟩
theorem k_isX (h : X.K = K) (hz : Zc cls d oe) (hf : ∃ vs, oe.data = .fields vs) : CallR (X.suite a ((a, oe) :: pn)) (.builtin "isinstance") (rIsX K a cls d) := by
  subst h
  intro pins s σ H xs us Q I r q
  obtain ⟨D, c, cv, b, rfl, T, hd, rfl, hc, kit, q⟩ := q
  obtain ⟨u1, u2, rfl, r1, r2⟩ := vals2 r
  cases r1
  have e := hc.eq r2
  subst e
  exact PySem.W.kia_one (kit_exc (ox := oe) T) I.kIn (caught_at I hz hf hd) kit (fun z => nomatch z) fun tk => ⟨.bl b, H, I.tok tk, rfl, q⟩
theorem k_isXT (h : X.K = K) (hz : Zc cls d oe) (hf : ∃ vs, oe.data = .fields vs) : CallR (X.suite a ((a, oe) :: pn)) (.builtin "isinstance") (rIsXT K a cls d) := by
  subst h
  intro pins s σ H xs us Q I r q
  obtain ⟨D, tp, cs, ws, b, rfl, T, hd, rfl, hT, hc, kit, q⟩ := q
  obtain ⟨u1, u2, rfl, r1, r2⟩ := vals2 r
  cases r1
  cases r2
  obtain ⟨_, its, rv, o, h1, h2, n, h3⟩ := (show ObjOk X.prog X.w H s.heap tp (.tup cs) from I.hok tp _ hT)
  have e3 := ClsV.all hc rv
  subst e3
  cases o
  simp only at h2 h3
  subst h2 h3
  exact PySem.W.kia_tup (kit_exc (ox := oe) T) I.kIn (caught_at I hz hf hd) h1 kit (fun z => nomatch z) fun tk => ⟨.bl b, H, I.tok tk, rfl, q⟩
end

local macro_rules | `(tactic| walk_at "g_tr") => `(tactic| first
  | with_reducible assumption
  | (with_reducible exact tr_of (by with_reducible assumption))
  | with_reducible exact tr_same
  | ((with_reducible refine tr_upd ?_); walk_at "g_tr")
  | (with_reducible exact tr_pot (by with_reducible assumption))
  | (with_reducible exact tr_ld (by with_reducible assumption))
  | ((with_reducible apply tr_kp (by with_reducible assumption) ?h); (case h => walk_at "g_tr")))
local macro_rules | `(tactic| walk_at "g_ne") => `(tactic| first
  | with_reducible assumption
  | (with_reducible exact Ne.symm (by with_reducible assumption))
  | ((with_reducible apply fr_tr ?h (by with_reducible assumption)); (case h => walk_at "g_tr"))
  | ((with_reducible apply Ne.symm (fr_tr ?h (by with_reducible assumption))); (case h => walk_at "g_tr")))
local macro_rules | `(tactic| walk_at "g_hp") => `(tactic| first
  | with_reducible assumption
  | with_reducible apply upd_same
  | ((with_reducible apply upd_nn ?h ?k); (case h => walk_at "g_ne"); (case k => walk_at "g_hp"))
  | ((with_reducible apply kp_at (by with_reducible assumption) ?h ?n); (case n => walk_at "g_ni"); (case h => walk_at "g_hp")))
local macro_rules | `(tactic| walk_at "g_ni") => `(tactic| first
  | exact not_nil
  | with_reducible assumption
  | ((with_reducible refine not_one ?_); walk_at "g_ne")
  | ((with_reducible refine not_two ?_ ?_) <;> walk_at "g_ne"))
local macro_rules | `(tactic| walk_at "g_pot") => `(tactic| first
  | with_reducible assumption
  | ((with_reducible apply pot_upd ?h ?n); (case n => walk_at "g_ne"); (case h => walk_at "g_pot"))
  | ((with_reducible apply PotAt.kp ?h (by with_reducible assumption) ?n); (case n => walk_at "g_ni"); (case h => walk_at "g_pot")))
local macro_rules | `(tactic| walk_at "g_ld") => `(tactic| first
  | with_reducible assumption
  | ((with_reducible apply ld_upd ?h ?i ?n); (case n => walk_at "g_fr"); (case i => walk_at "g_im"); (case h => walk_at "g_ld"))
  | ((with_reducible apply ld_upl ?h ?i ?n ?m); (case n => walk_at "g_hp"); (case m => walk_at "g_ne"); (case i => walk_at "g_im"); (case h => walk_at "g_ld"))
  | ((with_reducible apply ld_ins ?h ?i ?n); (case n => walk_at "g_hp"); (case i => walk_at "g_im"); (case h => walk_at "g_ld"))
  | ((with_reducible apply LD.kp ?h (by with_reducible assumption) ?i ?n); (case n => walk_at "g_ni"); (case i => walk_at "g_im"); (case h => walk_at "g_ld")))
local macro_rules | `(tactic| walk_at "g_im") => `(tactic| first
  | with_reducible assumption
  | exact imms_d2 _
  | rfl)
local macro_rules | `(tactic| walk_at "g_fx") => `(tactic| first
  | with_reducible assumption
  | with_reducible exact fx_refl
  | ((with_reducible apply fx_new ?h ?f); (case f => with_reducible assumption); (case h => walk_at "g_fx"))
  | ((with_reducible apply fx_mut ?h ?f ?g); (case f => walk_at "g_hp"); (case g => exact fun z => z); (case h => walk_at "g_fx"))
  | ((with_reducible apply fx_kp (by with_reducible assumption) ?h); (case h => walk_at "g_fx")))
local macro_rules | `(tactic| walk_at "g_st") => `(tactic| first
  | with_reducible assumption
  | ((with_reducible apply Fx.seqT ?k (by with_reducible assumption)); (case k => walk_at "g_fx"))
  | ((with_reducible apply SqT.of ?h); (case h => walk_at "g_hp")))
local macro_rules | `(tactic| walk_at "g_sq") => `(tactic| first
  | with_reducible assumption
  | ((with_reducible apply SqL.of ?h); (case h => walk_at "g_hp"))
  | ((with_reducible apply sqL_new ?h (by with_reducible assumption)); (case h => walk_at "g_sq"))
  | ((with_reducible apply sqL_kp (by with_reducible assumption) ?h ?n); (case h => walk_at "g_sq"); (case n => walk_at "g_ni")))
local macro_rules | `(tactic| walk_at "g_kp") => `(tactic| first
  | with_reducible assumption
  | with_reducible exact Kp.refl
  | with_reducible exact Kp.wide (by with_reducible assumption)
  | ((with_reducible apply Kp.trans ?k (by with_reducible assumption)); (case k => walk_at "g_kp"))
  | ((with_reducible apply Kp.trans ?k (Kp.wide (by with_reducible assumption))); (case k => walk_at "g_kp"))
  | ((with_reducible apply Kp.trans ?k (Kp.mono (by with_reducible assumption) ?m)); (case m => simp only [List.mem_cons, List.not_mem_nil, or_false, forall_eq, true_or, or_true, List.mem_singleton, implies_true]); (case k => walk_at "g_kp"))
  | ((with_reducible apply Kp.upd ?k ?h); (case h => walk_at "g_fr"); (case k => walk_at "g_kp"))
  | ((with_reducible apply Kp.upi ?k ?h ?m); (case h => walk_at "g_hp"); (case m => simp only [List.mem_cons, true_or, or_true]); (case k => walk_at "g_kp"))
  | ((with_reducible apply Kp.upm ?k ?h ?m); (case h => walk_at "g_hp"); (case m => simp only [List.mem_cons, true_or, or_true]); (case k => walk_at "g_kp")))
local macro_rules | `(tactic| walk_at "g_old") => `(tactic| first
  | with_reducible exact Old.refl
  | ((with_reducible apply old_upd ?k); (case k => walk_at "g_old"))
  | ((with_reducible apply old_kp (by with_reducible assumption) ?k); (case k => walk_at "g_old")))
local macro_rules | `(tactic| walk_at "g_fr") => `(tactic| first
  | with_reducible assumption
  | ((with_reducible apply fr_of (by with_reducible assumption) ?o); (case o => walk_at "g_old")))
local macro_rules | `(tactic| walk_at "g_at") => `(tactic| first
  | assumption
  | exact atI_last _ _
  | exact at_zero
  | rfl)
local macro_rules | `(tactic| walk_at "g_sz") => `(tactic| first
  | assumption
  | ((with_reducible apply small_sz); (try simp only [List.length_append, List.length_cons, List.length_nil]); omega))
local macro_rules | `(tactic| walk_at "g1") => `(tactic| first
  | (with_reducible refine i_seq ?_)
  | (with_reducible refine i_set ?_)
  | ((with_reducible apply i_var ?h ?_); (case h => exact rfl))
  | (with_reducible refine i_c ?_)
  | (with_reducible refine i_ret ?_)
  | (with_reducible refine i_op ?_)
  | (with_reducible refine i_addI ?_)
  | (with_reducible refine i_I0 ?_)
  | (with_reducible refine i_ifS ?_)
  | (with_reducible refine i_test ?_)
  | (with_reducible refine i_bl ?_)
  | (with_reducible refine i_eqI ?_)
  | (with_reducible refine i_neI ?_)
  | (with_reducible refine i_eqS ?_)
  | (with_reducible refine i_neS ?_)
  | (with_reducible refine i_and ?_)
  | (with_reducible refine i_or ?_)
  | (with_reducible refine i_not ?_)
  | (with_reducible refine i_asg ?_)
  | (with_reducible refine i_drop ?_)
  | (with_reducible refine i_cons ?_)
  | (with_reducible refine i_nil ?_)
  | (with_reducible refine i_tup ?_)
  | (with_reducible refine i_lst ?_)
  | (with_reducible refine i_few (by simp only [List.length_cons, List.length_nil]; decide) ?_)
  | (with_reducible refine i_CB ?_)
  | (with_reducible refine i_call0 ?_)
  | (with_reducible refine i_call ?_)
  | (with_reducible refine i_BM ?_)
  | (with_reducible refine i_BM0 ?_)
  | (with_reducible refine i_un ?_)
  | (with_reducible refine i_U ?_)
  | (with_reducible refine i_iteT ?_)
  | (with_reducible refine i_iteF ?_)
  | (with_reducible refine i_ntT ?_)
  | (with_reducible refine i_ntF ?_)
  | (with_reducible refine i_next ?_)
  | (with_reducible refine i_retN ?_)
  | (with_reducible refine i_brk ?_)
  | (with_reducible refine i_cont ?_)
  | ((with_reducible apply i_aug ?h ?_); (case h => exact rfl))
  | (with_reducible refine i_ipI ?_)
  | (with_reducible refine i_par ?_)
  | (with_reducible refine i_two ?_)
  | (with_reducible refine i_B ?_)
  | (with_reducible refine i_andV ?_)
  | (with_reducible refine i_orV ?_)
  | (with_reducible refine i_notV ?_)
  | (with_reducible refine i_ifE ?_)
  | (with_reducible refine i_chain ?_)
  | (with_reducible refine i_forL ?_)
  | (with_reducible refine i_forR ?_)
  | (with_reducible refine i_lcL ?_)
  | (with_reducible refine i_lcR ?_)
  | ((with_reducible refine i_wipe ?e ?_); (case e => rfl))
  | (with_reducible refine i_yes ?_)
  | ((with_reducible apply i_tyL ?h ?_); (case h => walk_at "g_sq"))
  | ((with_reducible apply i_app ?h ?g ?_); (case h => walk_at "g_hp"); (case g => walk_at "g_sz"))
  | ((with_reducible apply i_lenO ?h ?g ?_); (case h => walk_at "g_hp"); (case g => exact rfl))
  | ((with_reducible apply i_lenL ?h ?_); (case h => walk_at "g_sq"))
  | ((with_reducible apply i_lenT ?h ?_); (case h => walk_at "g_st"))
  | ((with_reducible apply i_gTup ?h ?g ?_); (case h => walk_at "g_st"); (case g => rfl))
  | ((with_reducible apply i_setL ?h ?g ?_); (case h => walk_at "g_hp"); (case g => first | (simp only [List.length_append, List.length_cons, List.length_nil]; exact ix_last _) | (simp only [List.length_cons]; exact ix_zero _) | rfl))
  | (with_reducible refine i_gCons ?_)
  | (with_reducible refine i_gNil ?_)
  | (with_reducible refine i_gName ?_)
  | (with_reducible refine i_gSub ?_)
  | (with_reducible refine i_revL ?_)
  | ((with_reducible apply i_revd ?h ?g); (case h => walk_at "g_sq"))
  | ((with_reducible apply i_ins0 ?h ?g ?k); (case h => walk_at "g_hp"); (case g => walk_at "g_sz"))
  | ((with_reducible apply i_ixS (by with_reducible assumption) ?k ?g ?_); (case k => walk_at "g_fx"); (case g => walk_at "g_at"))
  | ((with_reducible apply i_ixO ?h ?g ?_); (case h => walk_at "g_hp"); (case g => walk_at "g_at"))
  | ((with_reducible apply i_ixL ?h ?g ?_); (case h => walk_at "g_sq"); (case g => walk_at "g_at"))
  | (with_reducible refine i_abs ?_)
  | (with_reducible refine i_max2 ?_)
  | (with_reducible refine i_min2 ?_)
  | (with_reducible refine i_pw6 ?_)
  | (with_reducible refine i_pw16 ?_)
  | (with_reducible refine i_pw18 ?_)
  | (with_reducible refine i_pw58 ?_)
  | (with_reducible refine i_pw59 ?_)
  | (with_reducible refine i_pw60 ?_)
  | (with_reducible refine i_pw61 ?_)
  | ((with_reducible refine i_mod ?c ?_); (case c => omega))
  | ((with_reducible refine i_div ?c ?d ?_); (case c => omega); (case d => omega))
  | ((with_reducible refine i_dm ?c ?d ?_); (case c => omega); (case d => omega))
  | ((with_reducible apply i_listL ?h ?g); (case h => walk_at "g_sq"))
  | ((with_reducible apply i_listT ?h ?g); (case h => walk_at "g_st"))
  | (with_reducible refine i_isNn ?_)
  | (with_reducible refine i_isNr ?_)
  | (with_reducible refine i_isNi ?_)
  | (with_reducible refine i_notNn ?_)
  | (with_reducible refine i_notNr ?_)
  | (with_reducible refine i_notNi ?_)
  | (with_reducible refine i_meth ?_)
  | (with_reducible refine i_methD ?_)
  | ((with_reducible apply i_methR ?h ?g ?_); (case h => walk_at "g_hp"); (case g => exact rfl))
  | (walk_at "g_own")
  | (with_reducible refine i_methW ?_)
  | ((with_reducible apply i_methWR ?h ?g ?_); (case h => walk_at "g_hp"); (case g => exact rfl))
  | ((with_reducible apply i_lens ?h ?g ?_); (case h => exact rfl); (case g => exact rfl))
  | (with_reducible refine i_kw ?_)
  | (with_reducible refine i_mk ?_)
  | (with_reducible refine i_mkD ?_)
  | (with_reducible refine i_mkK ?_)
  | (with_reducible refine i_fld ?_)
  | ((with_reducible apply i_fldR ?h ?c ?n ?g ?_); (case h => walk_at "g_hp"); (case c => with_reducible assumption); (case n => with_reducible assumption); (case g => exact rfl))
  | (with_reducible refine i_fldS ?_)
  | ((with_reducible apply i_fldSR ?h ?c ?n ?g ?_); (case h => walk_at "g_hp"); (case c => with_reducible assumption); (case n => with_reducible assumption); (case g => exact fs_few (by rfl)))
  | (with_reducible refine i_gCut ?_)
  | (with_reducible refine i_sl ?_)
  | (with_reducible refine i_part ?_)
  | (with_reducible refine i_partI ?_)
  | (with_reducible refine i_noPart ?_)
  | ((with_reducible apply i_slL ?h ?_); (case h => walk_at "g_sq"))
  | (with_reducible refine i_forZ ?_)
  | (with_reducible refine i_lcZ ?_)
  | ((with_reducible apply i_addL ?h ?g ?z ?_); (case h => walk_at "g_hp"); (case g => walk_at "g_hp"); (case z => (try simp only [List.length_append, List.length_cons, List.length_nil, List.length_map]); omega))
  | ((with_reducible refine i_mulI ?c ?_); (case c => first | exact Or.inl ⟨by omega, by omega⟩ | exact Or.inr ⟨by omega, by omega⟩)))
local macro_rules | `(tactic| walk_at "gr") => `(tactic| first | ((walk_at "g1"); (walk_at "gr")) | skip)
local macro_rules | `(tactic| walk_at "gs") => `(tactic| (walk_at "gr"))

def top (i : Nat) : Stmt := PySem.Challenge.pw_forkthrift_k17_whole_differences.main.body.getD i (.Pass ⟨0, 0, 0, 0⟩)
abbrev s_is_number : Stmt := top 11
abbrev s_is_whole : Stmt := top 12
abbrev s_is_size : Stmt := top 13
abbrev s_is_run : Stmt := top 14
abbrev s_are_runs : Stmt := top 15
abbrev s_joined : Stmt := top 16
abbrev s_cut_out : Stmt := top 17
abbrev s_side_by_side : Stmt := top 19
abbrev s_difference : Stmt := top 20
abbrev s_want_size : Stmt := top 22
abbrev s_want_number : Stmt := top 23
abbrev s_want_cell : Stmt := top 24
abbrev s_want_stretch : Stmt := top 25
abbrev s_Memory_init : Stmt := inClass (top 26) 0
abbrev s_Memory_size : Stmt := inClass (top 26) 1
abbrev s_Memory_at : Stmt := inClass (top 26) 2
abbrev s_Memory_runs : Stmt := inClass (top 26) 3
abbrev s_Memory_lay : Stmt := inClass (top 26) 4
abbrev s_Memory_put : Stmt := inClass (top 26) 5
abbrev s_Memory_fill : Stmt := inClass (top 26) 6
abbrev s_Memory_bring : Stmt := inClass (top 26) 7
abbrev s_Memory_copied : Stmt := inClass (top 26) 8
abbrev s_Memory_eq : Stmt := inClass (top 26) 9
abbrev s_Memory_len : Stmt := inClass (top 26) 10
abbrev s_Memory_repr : Stmt := inClass (top 26) 11
abbrev s_memory_of : Stmt := top 27
abbrev s_law_pot : Stmt := top 29
abbrev s_law_draw : Stmt := top 30
abbrev s_law_size : Stmt := top 31
abbrev s_law_value : Stmt := top 32
abbrev s_law_place : Stmt := top 33
abbrev s_law_stretch : Stmt := top 34
abbrev s_law_deed : Stmt := top 35
abbrev s_law_had : Stmt := top 36
abbrev s_law_points : Stmt := top 37
abbrev s_law_do : Stmt := top 38
abbrev s_law_written : Stmt := top 39
abbrev s_law_one_cell : Stmt := top 40
abbrev s_law_unlike : Stmt := top 41
abbrev s_law : Stmt := top 42
def tyNames : List String := ["NoneType", "int", "bool", "str", "list", "tuple", "dict"]
theorem kit_other {K : PySem.W.Frag} {C : Addr} (hc : PySem.W.isClsIn K C = true) (ht : PySem.W.typeIn K (.ref C) = some (.type "type")) {n : String} (h : PySem.W.subIn K (.type n) (.ref C) = some false) : PySem.W.kitOne K (.type n) (.ref C) = some false := by
  unfold PySem.W.kitOne PySem.W.kitCls
  unfold PySem.W.isClsIn at hc
  rw [if_neg (by simp)]
  simp only [hc, ht, h, beq_self_eq_true, Bool.and_self, if_true]
theorem kit_me {K : PySem.W.Frag} {C : Addr} : PySem.W.kitOne K (.ref C) (.ref C) = some true := by
  unfold PySem.W.kitOne
  rw [if_pos (by simp)]
/-- what the top leaves -/
structure Txt (K : PySem.W.Frag) (mg : Str → Option Value) where
  c_Memory : Addr
  cl_Memory : Cls K c_Memory
  mg_Memory : mg "Memory" = some (.ref c_Memory)
  na_Memory_pairs : NoAttr K c_Memory "pairs"
  na_Memory_wide : NoAttr K c_Memory "wide"
  ic_Memory : C8.InsC K c_Memory
  ot_Memory : ∀ n ∈ tyNames, PySem.W.kitOne K (.type n) (.ref c_Memory) = some false
  ne_Memory : PySem.W.findIn K (.ref c_Memory) "__ne__" = some (some (.builtin "object.__ne__"))
  x_ForkError : Addr
  mx_ForkError : mg "ForkError" = some (.ref x_ForkError)
  ec_ForkError : L2.ExcC K x_ForkError
  et_ForkError : PySem.W.typeIn K (.ref x_ForkError) = some (.type "type")
  x_NoDifference : Addr
  mx_NoDifference : mg "NoDifference" = some (.ref x_NoDifference)
  ec_NoDifference : L2.ExcC K x_NoDifference
  et_NoDifference : PySem.W.typeIn K (.ref x_NoDifference) = some (.type "type")
  x_NoSize : Addr
  mx_NoSize : mg "NoSize" = some (.ref x_NoSize)
  ec_NoSize : L2.ExcC K x_NoSize
  et_NoSize : PySem.W.typeIn K (.ref x_NoSize) = some (.type "type")
  x_Unlike : Addr
  mx_Unlike : mg "Unlike" = some (.ref x_Unlike)
  ec_Unlike : L2.ExcC K x_Unlike
  et_Unlike : PySem.W.typeIn K (.ref x_Unlike) = some (.type "type")
  ek_Unlike : PySem.W.keepIn K (.ref x_Unlike) = true
  en_Unlike : PySem.W.excIn K x_Unlike [.type "ValueError", .type "Exception", .type "BaseException", .type "object"] "ValueError.__new__" = true
  is_Unlike_ForkError : PySem.W.subIn K (.ref x_Unlike) (.ref x_ForkError) = some true
  is_Unlike_NoDifference : PySem.W.subIn K (.ref x_Unlike) (.ref x_NoDifference) = some false
  is_Unlike_NoSize : PySem.W.subIn K (.ref x_Unlike) (.ref x_NoSize) = some false
  is_Unlike_Unlike : PySem.W.subIn K (.ref x_Unlike) (.ref x_Unlike) = some true
  is_Unlike_ValueError : PySem.W.subIn K (.ref x_Unlike) (.type "ValueError") = some true
  a_is_number : Addr
  d_is_number : FuncData
  F_is_number : FunD K "is_number" "is_number" (defArgs s_is_number) (defBody s_is_number) (defScope s_is_number) [] ([] : List (Str × V)) a_is_number d_is_number
  m_is_number : mg "is_number" = some (.ref a_is_number)
  b_is_number : BindsD K d_is_number ["thing"] []
  a_is_whole : Addr
  d_is_whole : FuncData
  F_is_whole : FunD K "is_whole" "is_whole" (defArgs s_is_whole) (defBody s_is_whole) (defScope s_is_whole) [] ([] : List (Str × V)) a_is_whole d_is_whole
  m_is_whole : mg "is_whole" = some (.ref a_is_whole)
  b_is_whole : BindsD K d_is_whole ["thing", "least", "most"] []
  a_is_size : Addr
  d_is_size : FuncData
  F_is_size : FunD K "is_size" "is_size" (defArgs s_is_size) (defBody s_is_size) (defScope s_is_size) [] ([] : List (Str × V)) a_is_size d_is_size
  m_is_size : mg "is_size" = some (.ref a_is_size)
  b_is_size : BindsD K d_is_size ["thing"] []
  a_is_run : Addr
  d_is_run : FuncData
  F_is_run : FunD K "is_run" "is_run" (defArgs s_is_run) (defBody s_is_run) (defScope s_is_run) [] ([] : List (Str × V)) a_is_run d_is_run
  m_is_run : mg "is_run" = some (.ref a_is_run)
  b_is_run : BindsD K d_is_run ["thing"] []
  a_are_runs : Addr
  d_are_runs : FuncData
  F_are_runs : FunD K "are_runs" "are_runs" (defArgs s_are_runs) (defBody s_are_runs) (defScope s_are_runs) [] ([] : List (Str × V)) a_are_runs d_are_runs
  m_are_runs : mg "are_runs" = some (.ref a_are_runs)
  b_are_runs : BindsD K d_are_runs ["thing", "size"] []
  a_joined : Addr
  d_joined : FuncData
  F_joined : FunD K "joined" "joined" (defArgs s_joined) (defBody s_joined) (defScope s_joined) [] ([] : List (Str × V)) a_joined d_joined
  m_joined : mg "joined" = some (.ref a_joined)
  b_joined : BindsD K d_joined ["pairs"] []
  a_cut_out : Addr
  d_cut_out : FuncData
  F_cut_out : FunD K "cut_out" "cut_out" (defArgs s_cut_out) (defBody s_cut_out) (defScope s_cut_out) [] ([] : List (Str × V)) a_cut_out d_cut_out
  m_cut_out : mg "cut_out" = some (.ref a_cut_out)
  b_cut_out : BindsD K d_cut_out ["pairs", "begin", "end"] []
  a_side_by_side : Addr
  d_side_by_side : FuncData
  F_side_by_side : FunD K "side_by_side" "side_by_side" (defArgs s_side_by_side) (defBody s_side_by_side) (defScope s_side_by_side) [] ([] : List (Str × V)) a_side_by_side d_side_by_side
  m_side_by_side : mg "side_by_side" = some (.ref a_side_by_side)
  b_side_by_side : BindsD K d_side_by_side ["some", "others"] []
  a_difference : Addr
  d_difference : FuncData
  F_difference : FunD K "difference" "difference" (defArgs s_difference) (defBody s_difference) (defScope s_difference) [] ([] : List (Str × V)) a_difference d_difference
  m_difference : mg "difference" = some (.ref a_difference)
  b_difference : BindsD K d_difference ["one", "other"] []
  a_want_size : Addr
  d_want_size : FuncData
  F_want_size : FunD K "want_size" "want_size" (defArgs s_want_size) (defBody s_want_size) (defScope s_want_size) [] ([] : List (Str × V)) a_want_size d_want_size
  m_want_size : mg "want_size" = some (.ref a_want_size)
  b_want_size : BindsD K d_want_size ["thing"] []
  a_want_number : Addr
  d_want_number : FuncData
  F_want_number : FunD K "want_number" "want_number" (defArgs s_want_number) (defBody s_want_number) (defScope s_want_number) [] ([] : List (Str × V)) a_want_number d_want_number
  m_want_number : mg "want_number" = some (.ref a_want_number)
  b_want_number : BindsD K d_want_number ["thing"] []
  a_want_cell : Addr
  d_want_cell : FuncData
  F_want_cell : FunD K "want_cell" "want_cell" (defArgs s_want_cell) (defBody s_want_cell) (defScope s_want_cell) [] ([] : List (Str × V)) a_want_cell d_want_cell
  m_want_cell : mg "want_cell" = some (.ref a_want_cell)
  b_want_cell : BindsD K d_want_cell ["thing", "size"] []
  a_want_stretch : Addr
  d_want_stretch : FuncData
  F_want_stretch : FunD K "want_stretch" "want_stretch" (defArgs s_want_stretch) (defBody s_want_stretch) (defScope s_want_stretch) [] ([] : List (Str × V)) a_want_stretch d_want_stretch
  m_want_stretch : mg "want_stretch" = some (.ref a_want_stretch)
  b_want_stretch : BindsD K d_want_stretch ["begin", "end", "size"] []
  a_Memory_init : Addr
  d_Memory_init : FuncData
  F_Memory_init : FunD K "__init__" "Memory.__init__" (defArgs s_Memory_init) (defBody s_Memory_init) (defScope s_Memory_init) [] ([("number", V.int 0)] : List (Str × V)) a_Memory_init d_Memory_init
  mk_Memory : Mk K c_Memory a_Memory_init
  b_Memory_init : BindsD K d_Memory_init ["self", "size", "number"] [V.int 0]
  a_Memory_size : Addr
  d_Memory_size : FuncData
  F_Memory_size : FunD K "size" "Memory.size" (defArgs s_Memory_size) (defBody s_Memory_size) (defScope s_Memory_size) [] ([] : List (Str × V)) a_Memory_size d_Memory_size
  me_Memory_size : Meth K c_Memory "size" a_Memory_size
  b_Memory_size : BindsD K d_Memory_size ["self"] []
  a_Memory_at : Addr
  d_Memory_at : FuncData
  F_Memory_at : FunD K "at" "Memory.at" (defArgs s_Memory_at) (defBody s_Memory_at) (defScope s_Memory_at) [] ([] : List (Str × V)) a_Memory_at d_Memory_at
  me_Memory_at : Meth K c_Memory "at" a_Memory_at
  b_Memory_at : BindsD K d_Memory_at ["self", "cell"] []
  a_Memory_runs : Addr
  d_Memory_runs : FuncData
  F_Memory_runs : FunD K "runs" "Memory.runs" (defArgs s_Memory_runs) (defBody s_Memory_runs) (defScope s_Memory_runs) [] ([] : List (Str × V)) a_Memory_runs d_Memory_runs
  me_Memory_runs : Meth K c_Memory "runs" a_Memory_runs
  b_Memory_runs : BindsD K d_Memory_runs ["self"] []
  a_Memory_lay : Addr
  d_Memory_lay : FuncData
  F_Memory_lay : FunD K "lay" "Memory.lay" (defArgs s_Memory_lay) (defBody s_Memory_lay) (defScope s_Memory_lay) [] ([] : List (Str × V)) a_Memory_lay d_Memory_lay
  me_Memory_lay : Meth K c_Memory "lay" a_Memory_lay
  b_Memory_lay : BindsD K d_Memory_lay ["self", "begin", "pairs", "end"] []
  a_Memory_put : Addr
  d_Memory_put : FuncData
  F_Memory_put : FunD K "put" "Memory.put" (defArgs s_Memory_put) (defBody s_Memory_put) (defScope s_Memory_put) [] ([] : List (Str × V)) a_Memory_put d_Memory_put
  me_Memory_put : Meth K c_Memory "put" a_Memory_put
  b_Memory_put : BindsD K d_Memory_put ["self", "cell", "number"] []
  a_Memory_fill : Addr
  d_Memory_fill : FuncData
  F_Memory_fill : FunD K "fill" "Memory.fill" (defArgs s_Memory_fill) (defBody s_Memory_fill) (defScope s_Memory_fill) [] ([] : List (Str × V)) a_Memory_fill d_Memory_fill
  me_Memory_fill : Meth K c_Memory "fill" a_Memory_fill
  b_Memory_fill : BindsD K d_Memory_fill ["self", "begin", "end", "number"] []
  a_Memory_bring : Addr
  d_Memory_bring : FuncData
  F_Memory_bring : FunD K "bring" "Memory.bring" (defArgs s_Memory_bring) (defBody s_Memory_bring) (defScope s_Memory_bring) [] ([("source", V.non)] : List (Str × V)) a_Memory_bring d_Memory_bring
  me_Memory_bring : Meth K c_Memory "bring" a_Memory_bring
  b_Memory_bring : BindsD K d_Memory_bring ["self", "begin", "end", "to", "source"] [V.non]
  a_Memory_copied : Addr
  d_Memory_copied : FuncData
  F_Memory_copied : FunD K "copied" "Memory.copied" (defArgs s_Memory_copied) (defBody s_Memory_copied) (defScope s_Memory_copied) [] ([] : List (Str × V)) a_Memory_copied d_Memory_copied
  me_Memory_copied : Meth K c_Memory "copied" a_Memory_copied
  b_Memory_copied : BindsD K d_Memory_copied ["self"] []
  a_Memory_eq : Addr
  d_Memory_eq : FuncData
  F_Memory_eq : FunD K "__eq__" "Memory.__eq__" (defArgs s_Memory_eq) (defBody s_Memory_eq) (defScope s_Memory_eq) [] ([] : List (Str × V)) a_Memory_eq d_Memory_eq
  me_Memory_eq : Meth K c_Memory "__eq__" a_Memory_eq
  b_Memory_eq : BindsD K d_Memory_eq ["self", "other"] []
  a_Memory_len : Addr
  d_Memory_len : FuncData
  F_Memory_len : FunD K "__len__" "Memory.__len__" (defArgs s_Memory_len) (defBody s_Memory_len) (defScope s_Memory_len) [] ([] : List (Str × V)) a_Memory_len d_Memory_len
  me_Memory_len : Meth K c_Memory "__len__" a_Memory_len
  b_Memory_len : BindsD K d_Memory_len ["self"] []
  a_Memory_repr : Addr
  d_Memory_repr : FuncData
  F_Memory_repr : FunD K "__repr__" "Memory.__repr__" (defArgs s_Memory_repr) (defBody s_Memory_repr) (defScope s_Memory_repr) [] ([] : List (Str × V)) a_Memory_repr d_Memory_repr
  me_Memory_repr : Meth K c_Memory "__repr__" a_Memory_repr
  b_Memory_repr : BindsD K d_Memory_repr ["self"] []
  a_memory_of : Addr
  d_memory_of : FuncData
  F_memory_of : FunD K "memory_of" "memory_of" (defArgs s_memory_of) (defBody s_memory_of) (defScope s_memory_of) [] ([] : List (Str × V)) a_memory_of d_memory_of
  m_memory_of : mg "memory_of" = some (.ref a_memory_of)
  b_memory_of : BindsD K d_memory_of ["runs"] []
  a_law_pot : Addr
  d_law_pot : FuncData
  F_law_pot : FunD K "_law_pot" "_law_pot" (defArgs s_law_pot) (defBody s_law_pot) (defScope s_law_pot) [] ([] : List (Str × V)) a_law_pot d_law_pot
  m_law_pot : mg "_law_pot" = some (.ref a_law_pot)
  b_law_pot : BindsD K d_law_pot ["_law_script", "_law_k"] []
  a_law_draw : Addr
  d_law_draw : FuncData
  F_law_draw : FunD K "_law_draw" "_law_draw" (defArgs s_law_draw) (defBody s_law_draw) (defScope s_law_draw) [] ([] : List (Str × V)) a_law_draw d_law_draw
  m_law_draw : mg "_law_draw" = some (.ref a_law_draw)
  b_law_draw : BindsD K d_law_draw ["_law_pot_here", "_law_many"] []
  a_law_size : Addr
  d_law_size : FuncData
  F_law_size : FunD K "_law_size" "_law_size" (defArgs s_law_size) (defBody s_law_size) (defScope s_law_size) [] ([] : List (Str × V)) a_law_size d_law_size
  m_law_size : mg "_law_size" = some (.ref a_law_size)
  b_law_size : BindsD K d_law_size ["_law_pot_here"] []
  a_law_value : Addr
  d_law_value : FuncData
  F_law_value : FunD K "_law_value" "_law_value" (defArgs s_law_value) (defBody s_law_value) (defScope s_law_value) [] ([] : List (Str × V)) a_law_value d_law_value
  m_law_value : mg "_law_value" = some (.ref a_law_value)
  b_law_value : BindsD K d_law_value ["_law_pot_here"] []
  a_law_place : Addr
  d_law_place : FuncData
  F_law_place : FunD K "_law_place" "_law_place" (defArgs s_law_place) (defBody s_law_place) (defScope s_law_place) [] ([] : List (Str × V)) a_law_place d_law_place
  m_law_place : mg "_law_place" = some (.ref a_law_place)
  b_law_place : BindsD K d_law_place ["_law_pot_here", "_law_most"] []
  a_law_stretch : Addr
  d_law_stretch : FuncData
  F_law_stretch : FunD K "_law_stretch" "_law_stretch" (defArgs s_law_stretch) (defBody s_law_stretch) (defScope s_law_stretch) [] ([] : List (Str × V)) a_law_stretch d_law_stretch
  m_law_stretch : mg "_law_stretch" = some (.ref a_law_stretch)
  b_law_stretch : BindsD K d_law_stretch ["_law_pot_here", "_law_most"] []
  a_law_deed : Addr
  d_law_deed : FuncData
  F_law_deed : FunD K "_law_deed" "_law_deed" (defArgs s_law_deed) (defBody s_law_deed) (defScope s_law_deed) [] ([] : List (Str × V)) a_law_deed d_law_deed
  m_law_deed : mg "_law_deed" = some (.ref a_law_deed)
  b_law_deed : BindsD K d_law_deed ["_law_pot_here", "_law_wide"] []
  a_law_had : Addr
  d_law_had : FuncData
  F_law_had : FunD K "_law_had" "_law_had" (defArgs s_law_had) (defBody s_law_had) (defScope s_law_had) [] ([] : List (Str × V)) a_law_had d_law_had
  m_law_had : mg "_law_had" = some (.ref a_law_had)
  b_law_had : BindsD K d_law_had ["_law_deeds", "_law_firsts", "_law_which", "_law_cell_at"] []
  a_law_points : Addr
  d_law_points : FuncData
  F_law_points : FunD K "_law_points" "_law_points" (defArgs s_law_points) (defBody s_law_points) (defScope s_law_points) [] ([] : List (Str × V)) a_law_points d_law_points
  m_law_points : mg "_law_points" = some (.ref a_law_points)
  b_law_points : BindsD K d_law_points ["_law_deeds", "_law_wide"] []
  a_law_do : Addr
  d_law_do : FuncData
  F_law_do : FunD K "_law_do" "_law_do" (defArgs s_law_do) (defBody s_law_do) (defScope s_law_do) [] ([] : List (Str × V)) a_law_do d_law_do
  m_law_do : mg "_law_do" = some (.ref a_law_do)
  b_law_do : BindsD K d_law_do ["_law_both", "_law_deed_here"] []
  a_law_written : Addr
  d_law_written : FuncData
  F_law_written : FunD K "_law_written" "_law_written" (defArgs s_law_written) (defBody s_law_written) (defScope s_law_written) [] ([] : List (Str × V)) a_law_written d_law_written
  m_law_written : mg "_law_written" = some (.ref a_law_written)
  b_law_written : BindsD K d_law_written ["_law_deeds", "_law_firsts", "_law_wide", "_law_which", "_law_then_which"] []
  a_law_one_cell : Addr
  d_law_one_cell : FuncData
  F_law_one_cell : FunD K "_law_one_cell" "_law_one_cell" (defArgs s_law_one_cell) (defBody s_law_one_cell) (defScope s_law_one_cell) [] ([] : List (Str × V)) a_law_one_cell d_law_one_cell
  m_law_one_cell : mg "_law_one_cell" = some (.ref a_law_one_cell)
  b_law_one_cell : BindsD K d_law_one_cell ["_law_pot_here", "_law_wide"] []
  a_law_unlike : Addr
  d_law_unlike : FuncData
  F_law_unlike : FunD K "_law_unlike" "_law_unlike" (defArgs s_law_unlike) (defBody s_law_unlike) (defScope s_law_unlike) [] ([] : List (Str × V)) a_law_unlike d_law_unlike
  m_law_unlike : mg "_law_unlike" = some (.ref a_law_unlike)
  b_law_unlike : BindsD K d_law_unlike ["_law_one", "_law_other"] []
  a_law : Addr
  d_law : FuncData
  F_law : FunD K "law" "law" (defArgs s_law) (defBody s_law) (defScope s_law) [] ([] : List (Str × V)) a_law d_law
  m_law : mg "law" = some (.ref a_law)
  b_law : BindsD K d_law ["_law_script"] []
  kb_Memory_bring_4_source : KBnD K d_Memory_bring ["self", "begin", "end", "to", "source"] 4 ["source"] (fun vs zs => gp [0] vs [] zs)
  kb_Memory_init_2_number : KBnD K d_Memory_init ["self", "size", "number"] 2 ["number"] (fun vs zs => gp [0] vs [] zs)
  t_LARGEST : Tok
  g_LARGEST : mg "LARGEST" = some (.int 1000000000000000000 t_LARGEST)
  n_ValueError : mg "ValueError" = none
  n_abs : mg "abs" = none
  n_all : mg "all" = none
  n_any : mg "any" = none
  n_bool : mg "bool" = none
  n_dict : mg "dict" = none
  n_divmod : mg "divmod" = none
  n_int : mg "int" = none
  n_isinstance : mg "isinstance" = none
  n_len : mg "len" = none
  n_list : mg "list" = none
  n_max : mg "max" = none
  n_min : mg "min" = none
  n_range : mg "range" = none
  n_repr : mg "repr" = none
  n_sorted : mg "sorted" = none
  n_sum : mg "sum" = none
  n_tuple : mg "tuple" = none
  n_zip : mg "zip" = none
/-! ### pots and draws -/
def sp_law_pot (K : PySem.W.Frag) : Sp := fun vs H Q _ => ∃ (a : Addr) (ns : List Int) (i : Nat),
  vs = [.ref a, .int i] ∧ SqL K H a (ns.map V.int) ∧ i ≤ 100 ∧
  ∀ p H', Fr H p → Kp [] H H' → PotAt H' p → Q (.ref p) H'
theorem sc_law_pot : FnScope ["_law_script", "_law_k", "_law_cell"] ["_law_script", "_law_k"] (defScope s_law_pot) :=
  ⟨rfl, rfl, rfl, by decide +kernel, rfl, by decide +kernel, by decide +kernel⟩
theorem ok_law_pot {P : Program} {w : World} {K : PySem.W.Frag} {mg : Str → Option Value} {base : Heap} (T : Txt K mg) :
    FnG P w K mg base 1 T.a_law_pot T.d_law_pot ["_law_script", "_law_k"] (sp_law_pot K) := by
  refine okD T.F_law_pot sc_law_pot (fun vs H Q E h => ?_) (fun cdv A outer s H vs Q E hr h => ?_)
  · first
      | (obtain ⟨_, rfl, _⟩ := h; rfl)
      | (obtain ⟨_, _, rfl, _⟩ := h; rfl)
      | (obtain ⟨_, _, _, rfl, _⟩ := h; rfl)
      | (obtain ⟨_, _, _, _, rfl, _⟩ := h; rfl)
      | (obtain ⟨_, _, _, _, _, rfl, _⟩ := h; rfl)
      | (obtain ⟨_, _, _, _, _, _, rfl, _⟩ := h; rfl)
      | (obtain ⟨_, _, _, _, _, _, _, rfl, _⟩ := h; rfl)
      | (obtain ⟨_, _, _, _, _, _, _, _, rfl, _⟩ := h; rfl)
      | (obtain ⟨_, _, _, _, _, _, _, _, _, rfl, _⟩ := h; rfl)
      | (obtain ⟨_, _, _, _, _, _, _, _, _, _, rfl, _⟩ := h; rfl)
      | (obtain ⟨_, _, _, _, _, _, _, _, _, _, _, rfl, _⟩ := h; rfl)
  · obtain ⟨a, ns, i, rfl, hsq, hi, k⟩ := h
    refine ⟨_, (pss_cons (ps_set (i := 2) sc_law_pot.nd rfl (Or.inl rfl) (pe_ifExp (pt_cmpR op_lt (pv 1) (pe_callB (k_len (K := K) rfl) (by rfl) T.n_len (by decide +kernel) (pa_cons (pv 0) pa_nil)) (nomark _)) (pe_ix (k_ix (K := K) rfl) (pv 0) (pv 1) (fun _ _ => rfl)) (pe_op (k_add (K := K) rfl) (pe_op o_mul pe_int (pv 1)) pe_int)))
      (pss_one (ps_ret (pe_lst (pa_cons (pe_callB (c_max2 rfl) (by rfl) T.n_max (by decide +kernel) (pa_cons pe_int (pa_cons (pe_op op_sub (pe_callB c_abs (by rfl) T.n_abs (by decide +kernel) (pa_cons (pv 2) pa_nil)) (pe_op o_pow pe_int pe_int)) pa_nil))) (pa_cons (pe_op (k_add (K := K) rfl) (pe_op (k_add (K := K) rfl) (pe_op o_mod (pe_callB c_abs (by rfl) T.n_abs (by decide +kernel) (pa_cons (pv 2) pa_nil)) pe_int) (pe_op o_mul pe_int (pv 1))) pe_int) pa_nil)))))), ?_⟩
    dsimp only [cxOf, st_1, st_2, st_3, st_4, st_5, st_6, List.length_cons, List.length_nil, List.replicate_succ, List.replicate_zero, Nat.reduceAdd, Nat.reduceSub]
    walk_at "gs"
    refine i_dec (fun h0 => ?_) (fun h0 => ?_)
    · rw [List.length_map] at h0
      have hx : (ns.map V.int)[i]? = some (V.int (ns[i]'(by omega))) := by simp
      have hat := atI_nat hx
      walk_at "gs"
      refine i_new fun p hp => ?_
      refine k p _ hp (Kp.new hp) ⟨_, _, upd_same, ?_, ?_, ?_⟩ <;> omega
    · walk_at "gs"
      refine i_new fun p hp => ?_
      refine k p _ hp (Kp.new hp) ⟨_, _, upd_same, ?_, ?_, ?_⟩ <;> omega
def sp_law_draw : Sp := fun vs H Q _ => ∃ (p : Addr) (n : Int), vs = [.ref p, .int n] ∧ PotAt H p ∧ 0 < n ∧
  n ≤ 10000000000000000000000000000000000000000000000000000000000000000000000 ∧
  ∀ r H', 0 ≤ r → r < n → PotAt H' p → Kp [p] H H' → Q (.int r) H'
theorem sc_law_draw : FnScope ["_law_pot_here", "_law_many", "_law_digit"] ["_law_pot_here", "_law_many"] (defScope s_law_draw) :=
  ⟨rfl, rfl, rfl, by decide +kernel, rfl, by decide +kernel, by decide +kernel⟩
theorem ok_law_draw {P : Program} {w : World} {K : PySem.W.Frag} {mg : Str → Option Value} {base : Heap} (T : Txt K mg) :
    FnG P w K mg base 1 T.a_law_draw T.d_law_draw ["_law_pot_here", "_law_many"] sp_law_draw := by
  refine okD T.F_law_draw sc_law_draw (fun vs H Q E h => ?_) (fun cdv A outer s H vs Q E hr h => ?_)
  · first
      | (obtain ⟨_, rfl, _⟩ := h; rfl)
      | (obtain ⟨_, _, rfl, _⟩ := h; rfl)
      | (obtain ⟨_, _, _, rfl, _⟩ := h; rfl)
      | (obtain ⟨_, _, _, _, rfl, _⟩ := h; rfl)
      | (obtain ⟨_, _, _, _, _, rfl, _⟩ := h; rfl)
      | (obtain ⟨_, _, _, _, _, _, rfl, _⟩ := h; rfl)
      | (obtain ⟨_, _, _, _, _, _, _, rfl, _⟩ := h; rfl)
      | (obtain ⟨_, _, _, _, _, _, _, _, rfl, _⟩ := h; rfl)
      | (obtain ⟨_, _, _, _, _, _, _, _, _, rfl, _⟩ := h; rfl)
      | (obtain ⟨_, _, _, _, _, _, _, _, _, _, rfl, _⟩ := h; rfl)
      | (obtain ⟨_, _, _, _, _, _, _, _, _, _, _, rfl, _⟩ := h; rfl)
  · obtain ⟨p, n, rfl, ⟨x, y, hp, hx, hy, hy2⟩, h0, h1, k⟩ := h
    refine ⟨_, (pss_cons (ps_if (pt_cmpR op_gt (pe_ix (k_ix (K := K) rfl) (pv 0) pe_int (fun _ _ => rfl)) pe_int (nomark _)) (pss_cons (ps_asg (pe_callB c_dm (by rfl) T.n_divmod (by decide +kernel) (pa_cons (pe_ix (k_ix (K := K) rfl) (pv 0) pe_int (fun _ _ => rfl)) (pa_cons (pv 1) pa_nil))) (k_gtup (K := K) 2 rfl rfl (pgs_cons (pg_sub (pv 0) pe_int set_list) (pgs_cons (pg_name (i := 2) sc_law_draw.nd rfl (Or.inl rfl)) pgs_nil))))
      (pss_one (ps_ret (pv 2)))) pss_nil)
      (pss_cons (ps_asg (pe_op o_mod (pe_op (k_add (K := K) rfl) (pe_op o_mul (pe_ix (k_ix (K := K) rfl) (pv 0) pe_int (fun _ _ => rfl)) pe_int) pe_int) pe_int) (pg_sub (pv 0) pe_int set_list))
      (pss_one (ps_ret (pe_op o_mod (pe_op o_div (pe_op o_mod (pe_op o_mul (pe_ix (k_ix (K := K) rfl) (pv 0) pe_int (fun _ _ => rfl)) (pe_ix (k_ix (K := K) rfl) (pv 0) pe_int (fun _ _ => rfl))) pe_int) pe_int) (pv 1)))))), ?_⟩
    dsimp only [cxOf, st_1, st_2, st_3, st_4, st_5, st_6, List.length_cons, List.length_nil, List.replicate_succ, List.replicate_zero, Nat.reduceAdd, Nat.reduceSub]
    walk_at "gs"
    refine i_dec (fun hx0 => ?_) (fun hx0 => ?_)
    · walk_at "gs"
      refine i_new fun q hq => ?_
      walk_at "gs"
      refine k _ _ (Int.emod_nonneg _ (by omega)) (Int.emod_lt_of_pos _ h0) ⟨_, _, upd_same, ?_, hy, hy2⟩ ?_
      · exact Int.ediv_nonneg hx (by omega)
      · walk_at "g_kp"
    · walk_at "gs"
      refine k _ _ (Int.emod_nonneg _ (by omega)) (Int.emod_lt_of_pos _ h0) ⟨_, _, upd_same, hx, ?_, ?_⟩ ?_
      · omega
      · omega
      · walk_at "g_kp"
theorem use_draw {H : Hp} {Q : VK} {E : XK} {p : Addr} {n : Int} (hp : PotAt H p) (h0 : 0 < n)
    (h1 : n ≤ 10000000000000000000000000000000000000000000000000000000000000000000000)
    (k : ∀ r H', 0 ≤ r → r < n → PotAt H' p → Kp [p] H H' → Q (.int r) H') :
    sp_law_draw [.ref p, .int n] H Q E := ⟨p, n, rfl, hp, h0, h1, k⟩

def sp_law_value : Sp := fun vs H Q _ => ∃ (p : Addr), vs = [.ref p] ∧ PotAt H p ∧
  ∀ r H', -1000000000000000000000000000000000000000000000000000000000000 ≤ r →
    r ≤ 1000000000000000000000000000000000000000000000000000000000000 → PotAt H' p → Kp [p] H H' → Q (.int r) H'
theorem sc_law_value : FnScope ["_law_pot_here", "_law_way"] ["_law_pot_here"] (defScope s_law_value) :=
  ⟨rfl, rfl, rfl, by decide +kernel, rfl, by decide +kernel, by decide +kernel⟩
theorem ok_law_value {P : Program} {w : World} {K : PySem.W.Frag} {mg : Str → Option Value} {base : Heap} (T : Txt K mg) :
    FnG P w K mg base 2 T.a_law_value T.d_law_value ["_law_pot_here"] sp_law_value := by
  refine okD T.F_law_value sc_law_value (fun vs H Q E h => ?_) (fun cdv A outer s H vs Q E hr h => ?_)
  · first
      | (obtain ⟨_, rfl, _⟩ := h; rfl)
      | (obtain ⟨_, _, rfl, _⟩ := h; rfl)
      | (obtain ⟨_, _, _, rfl, _⟩ := h; rfl)
      | (obtain ⟨_, _, _, _, rfl, _⟩ := h; rfl)
      | (obtain ⟨_, _, _, _, _, rfl, _⟩ := h; rfl)
      | (obtain ⟨_, _, _, _, _, _, rfl, _⟩ := h; rfl)
      | (obtain ⟨_, _, _, _, _, _, _, rfl, _⟩ := h; rfl)
      | (obtain ⟨_, _, _, _, _, _, _, _, rfl, _⟩ := h; rfl)
      | (obtain ⟨_, _, _, _, _, _, _, _, _, rfl, _⟩ := h; rfl)
      | (obtain ⟨_, _, _, _, _, _, _, _, _, _, rfl, _⟩ := h; rfl)
      | (obtain ⟨_, _, _, _, _, _, _, _, _, _, _, rfl, _⟩ := h; rfl)
  · obtain ⟨p, rfl, hp, k⟩ := h
    refine ⟨_, (pss_cons (ps_set (i := 1) sc_law_value.nd rfl (Or.inl rfl) (d1 (ok_law_draw T) (hr.mono (by decide)) (by rfl) T.m_law_draw T.F_law_draw.kp T.b_law_draw passL (pa_cons (pv 0) (pa_cons pe_int pa_nil))))
      (pss_cons (ps_if (pt_cmpR op_lt (pv 1) pe_int (nomark _)) (pss_one (ps_ret (d1 (ok_law_draw T) (hr.mono (by decide)) (by rfl) T.m_law_draw T.F_law_draw.kp T.b_law_draw passL (pa_cons (pv 0) (pa_cons pe_int pa_nil))))) pss_nil)
      (pss_one (ps_ret (pe_ifExp (pt_cmpR (k_eq (K := K) rfl hr.r.units) (pv 1) pe_int (nomark _)) (pe_op op_sub (d1 (ok_law_draw T) (hr.mono (by decide)) (by rfl) T.m_law_draw T.F_law_draw.kp T.b_law_draw passL (pa_cons (pv 0) (pa_cons pe_int pa_nil))) pe_int) (pe_op op_sub (d1 (ok_law_draw T) (hr.mono (by decide)) (by rfl) T.m_law_draw T.F_law_draw.kp T.b_law_draw passL (pa_cons (pv 0) (pa_cons (pe_op o_pow pe_int pe_int) pa_nil))) (pe_op o_pow pe_int pe_int))))))), ?_⟩
    dsimp only [cxOf, st_1, st_2, st_3, st_4, st_5, st_6, List.length_cons, List.length_nil, List.replicate_succ, List.replicate_zero, Nat.reduceAdd, Nat.reduceSub]
    walk_at "gs"
    refine use_draw hp (by decide) (by decide) (fun r H1 a1 a2 hp1 k1 => ?_)
    walk_at "gs"
    refine i_dec (fun c => ?_) (fun c => ?_)
    · walk_at "gs"
      refine use_draw hp1 (by decide) (by decide) (fun r2 H2 b1 b2 hp2 k2 => ?_)
      exact k _ _ (by omega) (by omega) hp2 (k1.trans k2)
    · walk_at "gs"
      refine i_dec (fun c => ?_) (fun c => ?_)
      · walk_at "gs"
        refine use_draw hp1 (by decide) (by decide) (fun r2 H2 b1 b2 hp2 k2 => ?_)
        walk_at "gs"
        exact k _ _ (by omega) (by omega) hp2 (k1.trans k2)
      · walk_at "gs"
        refine use_draw hp1 (by decide) (by decide) (fun r2 H2 b1 b2 hp2 k2 => ?_)
        walk_at "gs"
        exact k _ _ (by omega) (by omega) hp2 (k1.trans k2)
theorem use_value {H : Hp} {Q : VK} {E : XK} {p : Addr} (hp : PotAt H p)
    (k : ∀ r H', -1000000000000000000000000000000000000000000000000000000000000 ≤ r →
      r ≤ 1000000000000000000000000000000000000000000000000000000000000 → PotAt H' p → Kp [p] H H' → Q (.int r) H') :
    sp_law_value [.ref p] H Q E := ⟨p, rfl, hp, k⟩

/-! ### joined -/
def jst (f : List (Int × Int)) (p : Int × Int) : List (Int × Int) :=
  if 0 < p.1 then
    match f.getLast? with
    | some q => if q.2 = p.2 then f.dropLast ++ [(q.1 + p.1, p.2)] else f ++ [p]
    | none => [p]
  else f
theorem jst_same {f0 : List (Int × Int)} {q0 p : Int × Int} (h0 : 0 < p.1) (h1 : q0.2 = p.2) :
    jst (f0 ++ [q0]) p = f0 ++ [(q0.1 + p.1, p.2)] := by
  unfold jst
  rw [if_pos h0]
  simp [h1]
theorem jst_other {f0 : List (Int × Int)} {q0 p : Int × Int} (h0 : 0 < p.1) (h1 : ¬ q0.2 = p.2) :
    jst (f0 ++ [q0]) p = f0 ++ [q0] ++ [p] := by
  unfold jst
  rw [if_pos h0]
  simp [h1]
theorem jst_nil {p : Int × Int} (h0 : 0 < p.1) : jst [] p = [p] := by
  unfold jst
  rw [if_pos h0]
  rfl
theorem jst_no {f : List (Int × Int)} {p : Int × Int} (h0 : ¬ 0 < p.1) : jst f p = f := by
  unfold jst
  rw [if_neg h0]
def jnd (ps : List (Int × Int)) : List (Int × Int) := ps.foldl jst []
theorem jst_len (f : List (Int × Int)) (p : Int × Int) : (jst f p).length ≤ f.length + 1 := by
  unfold jst
  split
  · split
    · split
      · rename_i q hq _
        simp only [List.length_append, List.length_dropLast, List.length_singleton]
        omega
      · simp
    · simp
  · omega
theorem jnd_take {ps : List (Int × Int)} {i : Nat} {p : Int × Int} (h : ps[i]? = some p) :
    jnd (ps.take (i + 1)) = jst (jnd (ps.take i)) p := by
  unfold jnd
  rw [List.take_add_one, h, List.foldl_append]
  rfl
theorem jnd_len : ∀ (ps : List (Int × Int)) (i : Nat), (jnd (ps.take i)).length ≤ i
  | ps, 0 => by simp [jnd]
  | ps, i + 1 => by
    cases h : ps[i]? with
    | none =>
      have e : ps.take (i + 1) = ps.take i := by
        rw [List.take_add_one, h]
        simp
      rw [e]
      have q := jnd_len ps i
      omega
    | some p =>
      rw [jnd_take h]
      have q := jnd_len ps i
      have q2 := jst_len (jnd (ps.take i)) p
      omega
def sp_joined (K : PySem.W.Frag) : Sp := fun vs H Q _ => ∃ (a : Addr) (ps : List (Int × Int)),
  vs = [.ref a] ∧ Dp K H (.ref a) (.list (ps.map d2)) ∧ ps.length ≤ 100000 ∧
  ∀ l H', Fr H l → Kp [] H H' → LD K H' l ((jnd ps).map d2) → Q (.ref l) H'
theorem sc_joined : FnScope ["pairs", "found", "many", "number"] ["pairs"] (defScope s_joined) :=
  ⟨rfl, rfl, rfl, by decide +kernel, rfl, by decide +kernel, by decide +kernel⟩
theorem ok_joined {P : Program} {w : World} {K : PySem.W.Frag} {mg : Str → Option Value} {base : Heap} (T : Txt K mg) :
    FnG P w K mg base 1 T.a_joined T.d_joined ["pairs"] (sp_joined K) := by
  refine okD T.F_joined sc_joined (fun vs H Q E h => ?_) (fun cdv A outer s H vs Q E hr h => ?_)
  · first
      | (obtain ⟨_, rfl, _⟩ := h; rfl)
      | (obtain ⟨_, _, rfl, _⟩ := h; rfl)
      | (obtain ⟨_, _, _, rfl, _⟩ := h; rfl)
      | (obtain ⟨_, _, _, _, rfl, _⟩ := h; rfl)
      | (obtain ⟨_, _, _, _, _, rfl, _⟩ := h; rfl)
      | (obtain ⟨_, _, _, _, _, _, rfl, _⟩ := h; rfl)
      | (obtain ⟨_, _, _, _, _, _, _, rfl, _⟩ := h; rfl)
      | (obtain ⟨_, _, _, _, _, _, _, _, rfl, _⟩ := h; rfl)
      | (obtain ⟨_, _, _, _, _, _, _, _, _, rfl, _⟩ := h; rfl)
      | (obtain ⟨_, _, _, _, _, _, _, _, _, _, rfl, _⟩ := h; rfl)
      | (obtain ⟨_, _, _, _, _, _, _, _, _, _, _, rfl, _⟩ := h; rfl)
  · obtain ⟨a, ps, rfl, ha, hps, k⟩ := h
    cases ha
    rename_i xs hsq hall
    have hlen := dpa_len hall
    rw [List.length_map] at hlen
    have cl_Memory := T.cl_Memory
    have na_Memory_pairs := T.na_Memory_pairs
    have na_Memory_wide := T.na_Memory_wide
    refine ⟨_, (pss_cons (ps_set (i := 1) sc_joined.nd rfl (Or.inl rfl) (pe_lst pa_nil))
      (pss_cons (ps_for (passes_of rfl) rfl (k_plist (K := K) rfl (pv 0)) (k_gtup (K := K) 2 rfl rfl (pgs_cons (pg_name (i := 2) sc_joined.nd rfl (Or.inl rfl)) (pgs_cons (pg_name (i := 3) sc_joined.nd rfl (Or.inl rfl)) pgs_nil)))
      (pss_one (ps_if (PW.pt (pw_and (pt_cmpR op_gt (pv 2) pe_int (nomark _)) (pw_and (pt_cmpR (k_ne (K := K) rfl hr.r.units) (pv 1) (pe_lst pa_nil) (nomark _)) (pw_and1 (pt_cmpR (k_eq (K := K) rfl hr.r.units) (pe_ix (k_ix (K := K) rfl) (pe_ix (k_ix (K := K) rfl) (pv 1) (pe_un un_neg pe_int) (fun _ _ => rfl)) pe_int (fun _ _ => rfl)) (pv 3) (nomark _)))))) (pss_one (ps_asg (pe_tup (pa_cons (pe_op (k_add (K := K) rfl) (pe_ix (k_ix (K := K) rfl) (pe_ix (k_ix (K := K) rfl) (pv 1) (pe_un un_neg pe_int) (fun _ _ => rfl)) pe_int (fun _ _ => rfl)) (pv 2)) (pa_cons (pv 3) pa_nil))) (pg_sub (pv 1) (pe_un un_neg pe_int) set_list))) (pss_one (ps_if (pt_cmpR op_gt (pv 2) pe_int (nomark _)) (pss_one (ps_expr (pe_bm PySem.F.plainAttrs_list PySem.F.slot_list_append PySem.F.type_list_append mt_append (pv 1) (pa_cons (pe_tup (pa_cons (pv 2) (pa_cons (pv 3) pa_nil))) pa_nil)))) pss_nil)))))
      (pss_one (ps_ret (pv 1))))), ?_⟩
    dsimp only [cxOf, st_1, st_2, st_3, st_4, st_5, st_6, List.length_cons, List.length_nil, List.replicate_succ, List.replicate_zero, Nat.reduceAdd, Nat.reduceSub]
    walk_at "gs"
    refine i_new fun l hl => ?_
    walk_at "gs"
    refine i_each ((Kp.new hl).seqL (ws := []) List.not_mem_nil hsq) (fun i σ H' => ∃ u v, σ = [some (.ref a), some (.ref l), u, v] ∧ Kp [] H H' ∧
      LD K H' l ((jnd (ps.take i)).map d2)) ?_ ?_ ?_ ?_
    · exact ⟨none, none, rfl, Kp.new hl, ⟨[], upd_same, .nil⟩⟩
    · rintro i σ H' _ ⟨u, v, rfl, kp, ld⟩
      exact kp.seqL List.not_mem_nil hsq
    · rintro i x σ H' hx ⟨u, v, rfl, kp, ld⟩
      obtain ⟨d, hd, hdp⟩ := dpa_getV hall hx
      obtain ⟨p, hp, rfl⟩ := map_get hd
      obtain ⟨pa, rfl, hpt⟩ := dp_pair hdp
      replace hpt := kp.seqT hpt
      obtain ⟨vs, hvs, hall2⟩ := id ld
      have hvl := dpa_len hall2
      rw [List.length_map] at hvl
      have hjl := jnd_len ps i
      have hil : i < ps.length := (List.getElem?_eq_some_iff.mp hp).1
      walk_at "gs"
      refine i_dec (fun h0 => ?_) (fun h0 => ?_)
      · walk_at "gs"
        refine i_new fun q hq => ?_
        walk_at "gs"
        refine ne_nil ld (imms_d2 _) (shaped_pairs _) hq ?_
        walk_at "gs"
        refine i_boN (fun e => ?_) (fun e => ?_)
        · obtain ⟨f0, q0, hF⟩ := list_last (l := jnd (ps.take i)) (by
            intro z
            rw [z] at e
            cases e)
          rw [hF, List.map_append] at hall2
          obtain ⟨us, x, rfl, hu, hx2⟩ := dpa_last hall2
          obtain ⟨qa, rfl, hqa⟩ := dp_pair hx2
          rw [List.length_append, List.length_singleton] at hvl
          walk_at "gs"
          refine i_dec (fun h1 => ?_) (fun h1 => ?_)
          · walk_at "gs"
            refine i_new fun t ht => ?_
            walk_at "gs"
            rw [set_last]
            refine ⟨_, _, rfl, ?_, _, upd_same, ?_⟩
            · walk_at "g_kp"
            · have kl : Kp [l] H' (upd (upd (upd H' q (.lst [])) t (.tup [.int (q0.1 + p.1), .int p.2])) l
                  (.lst (us ++ [V.ref t]))) := by walk_at "g_kp"
              rw [jnd_take hp, hF, jst_same h0 h1, List.map_append]
              exact dpa_app (dpa_imm kl _ _ (imms_d2 _) hu) (dpa_one (dp_mk2 (by walk_at "g_st")))
          · walk_at "gs"
            refine i_dec (fun _ => ?_) (fun z => absurd h0 z)
            walk_at "gs"
            refine i_new fun t ht => ?_
            walk_at "gs"
            refine ⟨_, _, rfl, ?_, _, upd_same, ?_⟩
            · walk_at "g_kp"
            · have kl : Kp [l] H' (upd (upd (upd H' q (.lst [])) t (.tup [.int p.1, .int p.2])) l
                  (.lst (us ++ [V.ref qa] ++ [V.ref t]))) := by walk_at "g_kp"
              rw [jnd_take hp, hF, jst_other h0 h1, List.map_append, List.map_append]
              exact dpa_app (dpa_app (dpa_imm kl _ _ (imms_d2 _) hu) (dpa_one (dp_imm kl _ _ rfl hx2))) (dpa_one (dp_mk2 (by walk_at "g_st")))
        · walk_at "gs"
          refine i_dec (fun _ => ?_) (fun z => absurd h0 z)
          walk_at "gs"
          refine i_new fun t ht => ?_
          walk_at "gs"
          have hF : jnd (ps.take i) = [] := by
            cases z : jnd (ps.take i) with
            | nil => rfl
            | cons x y =>
              rw [z] at e
              cases e
          rw [hF] at hall2
          cases hall2
          refine ⟨_, _, rfl, ?_, _, upd_same, ?_⟩
          · walk_at "g_kp"
          · rw [jnd_take hp, hF, jst_nil h0]
            exact dpa_one (dp_mk2 (by walk_at "g_st"))
      · walk_at "gs"
        refine i_dec (fun z => absurd z h0) (fun _ => ?_)
        walk_at "gs"
        refine ⟨_, _, rfl, kp, ?_⟩
        rw [jnd_take hp, jst_no h0]
        exact ld
    · rintro σ H' ⟨u, v, rfl, kp, ld⟩
      walk_at "gs"
      rw [List.take_of_length_le (by omega)] at ld
      exact k l H' hl kp ld

/-! ### counting from the back -/
def wst (f : List (Int × Int)) (p : Int × Int) : List (Int × Int) :=
  match f with
  | [] => [(0 + p.1, p.2)]
  | q :: t => if q.2 = p.2 then (q.1 + p.1, p.2) :: t else (0 + p.1, p.2) :: q :: t
def pos (p : Int × Int) : Bool := decide (0 < p.1)
def wrt (ps : List (Int × Int)) : List (Int × Int) := (ps.reverse.filter pos).foldl wst []
def wr : List (Int × Int) → List (Int × Int)
  | [] => []
  | p :: ps => if 0 < p.1 then wst (wr ps) p else wr ps
theorem wrt_eq (ps : List (Int × Int)) : wrt ps = wr ps := by
  induction ps with
  | nil => rfl
  | cons p ps ih =>
    unfold wrt at *
    rw [List.reverse_cons, List.filter_append, List.foldl_append, ih]
    by_cases h : 0 < p.1
    · simp [wr, h, pos]
    · simp [wr, h, pos]
/-- what is put ahead of the rest -/
def glue (f : List (Int × Int)) : List (Int × Int) → List (Int × Int)
  | [] => f
  | q :: t => jst f q ++ t
theorem wr_pos : ∀ (ps : List (Int × Int)) (q : Int × Int), q ∈ wr ps → 0 < q.1
  | [], _, h => nomatch h
  | p :: ps, q, h => by
    unfold wr at h
    by_cases hp : 0 < p.1
    · rw [if_pos hp] at h
      cases e : wr ps with
      | nil =>
        rw [e] at h
        simp only [wst, List.mem_singleton] at h
        rw [h]
        show 0 < 0 + p.1
        omega
      | cons x t =>
        have hx : 0 < x.1 := wr_pos ps x (by rw [e]; exact List.mem_cons_self)
        rw [e] at h
        unfold wst at h
        simp only at h
        by_cases hq : x.2 = p.2
        · rw [if_pos hq] at h
          rcases List.mem_cons.mp h with z | z
          · rw [z]
            show 0 < x.1 + p.1
            omega
          · exact wr_pos ps q (by rw [e]; exact List.mem_cons_of_mem _ z)
        · rw [if_neg hq] at h
          rcases List.mem_cons.mp h with z | z
          · rw [z]
            show 0 < 0 + p.1
            omega
          · exact wr_pos ps q (by rw [e]; exact z)
    · rw [if_neg hp] at h
      exact wr_pos ps q h
theorem jst_cases (f : List (Int × Int)) (p : Int × Int) (h : 0 < p.1) :
    (∃ f0 q0, f = f0 ++ [q0] ∧ q0.2 = p.2 ∧ jst f p = f0 ++ [(q0.1 + p.1, p.2)]) ∨
    ((∀ f0 q0, f = f0 ++ [q0] → q0.2 ≠ p.2) ∧ jst f p = f ++ [p]) := by
  by_cases e : f = []
  · subst e
    exact .inr ⟨fun f0 q0 z => by simp at z, jst_nil h⟩
  · obtain ⟨f0, q0, rfl⟩ := list_last e
    by_cases c : q0.2 = p.2
    · exact .inl ⟨f0, q0, rfl, c, jst_same h c⟩
    · refine .inr ⟨fun g0 r0 z => ?_, jst_other h c⟩
      have z2 := List.append_inj_right' z rfl
      cases z2
      exact c
theorem jst_two (f : List (Int × Int)) (p q : Int × Int) (hp : 0 < p.1) (hq : 0 < q.1) (e : q.2 = p.2) :
    jst (jst f p) q = jst f (q.1 + p.1, p.2) := by
  have h3 : 0 < ((q.1 + p.1, p.2) : Int × Int).1 := by
    show 0 < q.1 + p.1
    omega
  rcases jst_cases f p hp with ⟨f0, q0, rfl, c, z⟩ | ⟨c, z⟩
  · rw [z, jst_same (q0 := (q0.1 + p.1, p.2)) (p := q) hq e.symm, jst_same h3 c]
    congr 2
    rw [e]
    congr 1
    show q0.1 + p.1 + q.1 = q0.1 + (q.1 + p.1)
    omega
  · rw [z, jst_same hq e.symm]
    rcases jst_cases f (q.1 + p.1, p.2) h3 with ⟨f0, q0, rfl, c2, z2⟩ | ⟨c2, z2⟩
    · exact absurd c2 (c f0 q0 rfl)
    · rw [z2, e]
      congr 3
      omega
theorem fold_glue : ∀ (ps f : List (Int × Int)), ps.foldl jst f = glue f (wr ps)
  | [], f => rfl
  | p :: ps, f => by
    rw [List.foldl_cons, fold_glue ps (jst f p)]
    by_cases hp : 0 < p.1
    · have e : wr (p :: ps) = wst (wr ps) p := by
        show (if 0 < p.1 then wst (wr ps) p else wr ps) = _
        rw [if_pos hp]
      rw [e]
      cases h : wr ps with
      | nil =>
        show jst f p = jst f (0 + p.1, p.2) ++ []
        rw [Int.zero_add, List.append_nil]
      | cons q t =>
        have hq : 0 < q.1 := wr_pos ps q (by rw [h]; exact List.mem_cons_self)
        unfold wst
        simp only
        by_cases c : q.2 = p.2
        · rw [if_pos c]
          show jst (jst f p) q ++ t = jst f (q.1 + p.1, p.2) ++ t
          rw [jst_two f p q hp hq c]
        · rw [if_neg c]
          show jst (jst f p) q ++ t = jst f (0 + p.1, p.2) ++ (q :: t)
          rw [Int.zero_add]
          have z : jst (jst f p) q = jst f p ++ [q] := by
            rcases jst_cases f p hp with ⟨f0, q0, rfl, d, z⟩ | ⟨d, z⟩
            · rw [z, jst_other (q0 := (q0.1 + p.1, p.2)) (p := q) hq (fun k => c k.symm)]
            · rw [z, jst_other hq (fun k => c k.symm)]
          rw [z, List.append_assoc]
          rfl
    · have e : wr (p :: ps) = wr ps := by
        show (if 0 < p.1 then wst (wr ps) p else wr ps) = _
        rw [if_neg hp]
      rw [e, jst_no hp]
theorem jnd_wr (ps : List (Int × Int)) : jnd ps = wr ps := by
  unfold jnd
  rw [fold_glue]
  cases h : wr ps with
  | nil => rfl
  | cons q t =>
    have hq : 0 < q.1 := wr_pos ps q (by rw [h]; exact List.mem_cons_self)
    show jst [] q ++ t = q :: t
    rw [jst_nil hq]
    rfl
theorem wr_len : ∀ ps : List (Int × Int), (wr ps).length ≤ ps.length
  | [] => Nat.le_refl _
  | p :: ps => by
    have q := wr_len ps
    unfold wr
    split
    · cases h : wr ps with
      | nil => simp [wst]
      | cons x t =>
        rw [h] at q
        simp only [wst, List.length_cons] at *
        split <;> simp only [List.length_cons] <;> omega
    · rw [List.length_cons]
      omega
/-- told again of what was told it is the same -/
theorem wst_wr (f : List (Int × Int)) (p : Int × Int) (hp : 0 < p.1) (hf : wr f = f)
    (hpos : ∀ q ∈ f, 0 < q.1) : wr (wst f p) = wst f p := by
  cases f with
  | nil =>
    show (if 0 < 0 + p.1 then wst [] (0 + p.1, p.2) else []) = [(0 + p.1, p.2)]
    rw [Int.zero_add, if_pos hp]
    simp [wst]
  | cons q t =>
    have hq := hpos q List.mem_cons_self
    have ht : wst (wr t) q = q :: t := by
      have z : (if 0 < q.1 then wst (wr t) q else wr t) = q :: t := hf
      rwa [if_pos hq] at z
    unfold wst
    simp only
    by_cases c : q.2 = p.2
    · rw [if_pos c]
      show (if 0 < q.1 + p.1 then wst (wr t) (q.1 + p.1, p.2) else wr t) = _
      rw [if_pos (by omega)]
      cases e : wr t with
      | nil =>
        rw [e] at ht
        simp only [wst, List.cons.injEq] at ht
        simp [wst, ← ht.2]
      | cons x u =>
        rw [e] at ht
        unfold wst at ht ⊢
        simp only at ht ⊢
        by_cases d : x.2 = q.2
        · rw [if_pos d] at ht
          have hu : wr t = t := by
            have l1 := wr_len t
            rw [e] at l1
            have l2 := congrArg List.length ht
            simp only [List.length_cons] at l1 l2
            omega
          rw [hu] at e
          subst e
          have l2 := congrArg List.length ht
          simp only [List.length_cons] at l2
          omega
        · rw [if_neg d] at ht
          rw [if_neg (by rw [← c]; exact d)]
          rw [Int.zero_add]
          have z := (List.cons.inj ht).2
          rw [z]
    · rw [if_neg c]
      show (if 0 < 0 + p.1 then wst (wr (q :: t)) (0 + p.1, p.2) else wr (q :: t)) = _
      rw [Int.zero_add, if_pos hp, hf]
      unfold wst
      simp only
      rw [if_neg c, Int.zero_add]
theorem wr_wr : ∀ ps : List (Int × Int), wr (wr ps) = wr ps
  | [] => rfl
  | p :: ps => by
    have e : wr (p :: ps) = if 0 < p.1 then wst (wr ps) p else wr ps := rfl
    rw [e]
    split
    · exact wst_wr _ _ (by assumption) (wr_wr ps) (wr_pos ps)
    · exact wr_wr ps

/-! ### runs and cells -/
def rle (cs : List Int) : List (Int × Int) := wr (cs.map tag)
theorem cells_nil : cells [] = [] := rfl
theorem cells_cons (p : Int × Int) (ps : List (Int × Int)) : cells (p :: ps) = List.replicate p.1.toNat p.2 ++ cells ps := rfl
theorem cells_app (ps qs : List (Int × Int)) : cells (ps ++ qs) = cells ps ++ cells qs := List.flatMap_append
theorem cells_tag : ∀ cs : List Int, cells (cs.map tag) = cs
  | [] => rfl
  | c :: cs => by
    rw [List.map_cons, cells_cons, cells_tag cs]
    rfl
theorem cells_wst (f : List (Int × Int)) (p : Int × Int) (hp : 0 < p.1) (hf : ∀ q ∈ f, 0 < q.1) :
    cells (wst f p) = List.replicate p.1.toNat p.2 ++ cells f := by
  cases f with
  | nil => simp [wst, cells_cons]
  | cons q t =>
    have hq := hf q List.mem_cons_self
    unfold wst
    simp only
    by_cases c : q.2 = p.2
    · rw [if_pos c, cells_cons, cells_cons]
      show List.replicate (q.1 + p.1).toNat p.2 ++ cells t = _
      have e : (q.1 + p.1).toNat = p.1.toNat + q.1.toNat := by omega
      rw [e, ← List.replicate_append_replicate, List.append_assoc, c]
    · rw [if_neg c, cells_cons]
      show List.replicate (0 + p.1).toNat p.2 ++ _ = _
      rw [Int.zero_add]
theorem cells_wr : ∀ ps : List (Int × Int), cells (wr ps) = cells ps
  | [] => rfl
  | p :: ps => by
    rw [cells_cons]
    unfold wr
    by_cases hp : 0 < p.1
    · rw [if_pos hp, cells_wst _ _ hp (wr_pos ps), cells_wr ps]
    · rw [if_neg hp, cells_wr ps]
      have e : p.1.toNat = 0 := by omega
      rw [e]
      rfl
theorem wst_more (f : List (Int × Int)) (n v : Int) (hn : 0 < n) : wst (wst f (n, v)) (1, v) = wst f (n + 1, v) := by
  cases f with
  | nil =>
    show wst [(0 + n, v)] (1, v) = [(0 + (n + 1), v)]
    unfold wst
    simp only [if_true]
    congr 2
    omega
  | cons q t =>
    by_cases c : q.2 = v
    · have e1 : wst (q :: t) (n, v) = (q.1 + n, v) :: t := by simp [wst, c]
      have e2 : wst (q :: t) (n + 1, v) = (q.1 + (n + 1), v) :: t := by simp [wst, c]
      have e3 : wst ((q.1 + n, v) :: t) (1, v) = (q.1 + n + 1, v) :: t := by simp [wst]
      rw [e1, e2, e3]
      congr 2
      omega
    · have e1 : wst (q :: t) (n, v) = (0 + n, v) :: q :: t := by simp [wst, c]
      have e2 : wst (q :: t) (n + 1, v) = (0 + (n + 1), v) :: q :: t := by simp [wst, c]
      have e3 : wst ((0 + n, v) :: q :: t) (1, v) = (0 + n + 1, v) :: q :: t := by simp [wst]
      rw [e1, e2, e3]
      congr 2
      omega
theorem wst_one (f : List (Int × Int)) (c : Int) : wr (tag c :: f) = wst (wr f) (1, c) := by
  show (if (0 : Int) < 1 then wst (wr f) (1, c) else wr f) = _
  rw [if_pos (by decide)]
theorem rle_rep (v : Int) (cs : List Int) : ∀ n : Nat, rle (List.replicate (n + 1) v ++ cs) = wst (rle cs) ((n : Int) + 1, v)
  | 0 => by
    show wr (tag v :: cs.map tag) = _
    rw [wst_one]
    rfl
  | n + 1 => by
    have ih := rle_rep v cs n
    have e : rle (List.replicate (n + 1 + 1) v ++ cs) = wst (rle (List.replicate (n + 1) v ++ cs)) (1, v) := by
      show wr (tag v :: (List.replicate (n + 1) v ++ cs).map tag) = _
      rw [wst_one]
      rfl
    rw [e, ih, wst_more _ _ _ (by omega)]
    congr 2
theorem wr_rle : ∀ ps : List (Int × Int), wr ps = rle (cells ps)
  | [] => rfl
  | p :: ps => by
    have ih := wr_rle ps
    rw [cells_cons]
    unfold wr
    by_cases hp : 0 < p.1
    · obtain ⟨n, hn⟩ : ∃ n : Nat, p.1.toNat = n + 1 := ⟨p.1.toNat - 1, by omega⟩
      rw [if_pos hp, hn, rle_rep, ih]
      congr 1
      have e : ((n : Int) + 1) = p.1 := by omega
      rw [e]
    · rw [if_neg hp]
      have e : p.1.toNat = 0 := by omega
      rw [e]
      exact ih
theorem cells_rle (cs : List Int) : cells (rle cs) = cs := by
  unfold rle
  rw [cells_wr, cells_tag]
theorem rle_len (cs : List Int) : (rle cs).length ≤ cs.length := by
  have h := wr_len (cs.map tag)
  rw [List.length_map] at h
  exact h
theorem rle_pos (cs : List Int) : ∀ q ∈ rle cs, 0 < q.1 := wr_pos _
theorem jnd_rle (ps : List (Int × Int)) : jnd ps = rle (cells ps) := by rw [jnd_wr, wr_rle]
theorem rle_inj {cs ds : List Int} (h : rle cs = rle ds) : cs = ds := by
  rw [← cells_rle cs, h, cells_rle]
theorem rle_ne {cs : List Int} (h : cs ≠ []) : rle cs ≠ [] := fun z => h (by rw [← cells_rle cs, z]; rfl)
/-- what of the pairs, that begin at a, lies between b and e -/
def cutF (b e : Int) : Int → List (Int × Int) → List (Int × Int)
  | _, [] => []
  | a, p :: t => (if max b a < min e (a + p.1) then [(min e (a + p.1) - max b a, p.2)] else []) ++ cutF b e (a + p.1) t
def cut (b e : Int) (ps : List (Int × Int)) : List (Int × Int) := cutF b e 0 ps
theorem cutF_len (b e : Int) : ∀ (a : Int) (ps : List (Int × Int)), (cutF b e a ps).length ≤ ps.length
  | _, [] => Nat.le_refl _
  | a, p :: t => by
    have h := cutF_len b e (a + p.1) t
    unfold cutF
    rw [List.length_append, List.length_cons]
    split <;> simp <;> omega
theorem cut_len (b e : Int) (ps : List (Int × Int)) : (cut b e ps).length ≤ ps.length := cutF_len b e 0 ps
theorem cutF_pos (b e : Int) : ∀ (a : Int) (ps : List (Int × Int)) (q : Int × Int), q ∈ cutF b e a ps → 0 < q.1
  | _, [], _, h => nomatch h
  | a, p :: t, q, h => by
    unfold cutF at h
    rcases List.mem_append.mp h with h | h
    · split at h
      · rw [List.mem_singleton.mp h]
        show 0 < min e (a + p.1) - max b a
        omega
      · exact nomatch h
    · exact cutF_pos b e (a + p.1) t q h
def wide (ps : List (Int × Int)) : Int := (ps.map (·.1)).sum
theorem cutF_app (b e : Int) : ∀ (a : Int) (ps : List (Int × Int)) (p : Int × Int), cutF b e a (ps ++ [p]) =
    cutF b e a ps ++ (if max b (a + wide ps) < min e (a + wide ps + p.1) then [(min e (a + wide ps + p.1) - max b (a + wide ps), p.2)] else [])
  | a, [], p => by
    have e0 : a + wide [] = a := Int.add_zero a
    rw [e0]
    show (if max b a < min e (a + p.1) then [(min e (a + p.1) - max b a, p.2)] else []) ++ [] = [] ++ _
    rw [List.append_nil, List.nil_append]
  | a, q :: t, p => by
    have ih := cutF_app b e (a + q.1) t p
    have e0 : a + wide (q :: t) = a + q.1 + wide t := by
      show a + (q.1 + wide t) = _
      omega
    rw [List.cons_append, e0]
    conv => lhs; unfold cutF
    rw [ih]
    conv => rhs; unfold cutF
    rw [List.append_assoc]
theorem cut_take {b e : Int} {ps : List (Int × Int)} {i : Nat} {p : Int × Int} (h : ps[i]? = some p) :
    cut b e (ps.take (i + 1)) = cut b e (ps.take i) ++ (if max b (wide (ps.take i)) < min e (wide (ps.take i) + p.1)
      then [(min e (wide (ps.take i) + p.1) - max b (wide (ps.take i)), p.2)] else []) := by
  unfold cut
  rw [List.take_add_one, h]
  have k := cutF_app b e 0 (ps.take i) p
  rw [Int.zero_add] at k
  exact k
theorem wide_take {ps : List (Int × Int)} {i : Nat} {p : Int × Int} (h : ps[i]? = some p) :
    wide (ps.take (i + 1)) = wide (ps.take i) + p.1 := by
  unfold wide
  rw [List.take_add_one, h, List.map_append, List.sum_append]
  simp
theorem cells_cutF (b e : Int) : ∀ (a : Int) (ps : List (Int × Int)), (∀ q ∈ ps, 0 ≤ q.1) →
    cells (cutF b e a ps) = ((cells ps).drop (b - a).toNat).take ((e - a).toNat - (b - a).toNat)
  | a, [], _ => by simp [cutF, cells]
  | a, p :: t, h => by
    have hp := h p List.mem_cons_self
    have ih := cells_cutF b e (a + p.1) t fun q hq => h q (List.mem_cons_of_mem _ hq)
    unfold cutF
    rw [cells_app, ih, cells_cons, List.drop_append, List.take_append, List.drop_replicate, List.take_replicate, List.length_replicate, List.length_replicate]
    congr 1
    · split
      · rw [cells_cons, cells_nil, List.append_nil]
        show List.replicate (min e (a + p.1) - max b a).toNat p.2 = _
        congr 1
        omega
      · have e0 : min ((e - a).toNat - (b - a).toNat) (p.1.toNat - (b - a).toNat) = 0 := by omega
        rw [e0]
        rfl
    · have e1 : (b - (a + p.1)).toNat = (b - a).toNat - p.1.toNat := by omega
      have e2 : (e - (a + p.1)).toNat - (b - (a + p.1)).toNat = (e - a).toNat - (b - a).toNat - (p.1.toNat - (b - a).toNat) := by omega
      rw [e2, e1]
theorem cells_cut {b e : Int} {ps : List (Int × Int)} (h : ∀ q ∈ ps, 0 ≤ q.1) :
    cells (cut b e ps) = ((cells ps).drop b.toNat).take (e.toNat - b.toNat) := by
  have k := cells_cutF b e 0 ps h
  rw [Int.sub_zero, Int.sub_zero] at k
  exact k
theorem cut_rle {b e : Int} {cs : List Int} : cells (cut b e (rle cs)) = (cs.drop b.toNat).take (e.toNat - b.toNat) := by
  rw [cells_cut fun q hq => Int.le_of_lt (rle_pos cs q hq), cells_rle]
theorem one_cell {ps : List (Int × Int)} {v : Int} (hp : ∀ q ∈ ps, 0 < q.1) (h : cells ps = [v]) : ps = [(1, v)] := by
  cases ps with
  | nil => cases h
  | cons p t =>
    have h0 := hp p List.mem_cons_self
    rw [cells_cons] at h
    have hl := congrArg List.length h
    rw [List.length_append, List.length_replicate, List.length_singleton] at hl
    have e1 : p.1.toNat = 1 := by omega
    have e2 : t = [] := by
      cases t with
      | nil => rfl
      | cons q u =>
        have h1 := hp q (List.mem_cons_of_mem _ List.mem_cons_self)
        rw [cells_cons, List.length_append, List.length_replicate] at hl
        omega
    rw [e1, e2, cells_nil, List.append_nil] at h
    cases h
    rw [e2]
    congr 1
    have e3 : p.1 = 1 := by omega
    rw [← e3]
theorem cut_at {cs : List Int} {c : Nat} {v : Int} (h : cs[c]? = some v) : cut c (c + 1) (rle cs) = [(1, v)] := by
  refine one_cell (cutF_pos _ _ _ _) ?_
  rw [cut_rle]
  obtain ⟨hc, e⟩ := List.getElem?_eq_some_iff.mp h
  have e1 : ((c : Int)).toNat = c := by omega
  have e2 : ((c : Int) + 1).toNat - c = 1 := by omega
  rw [e1, e2, List.drop_eq_getElem_cons hc, e]
  rfl
/-- laid over -/
def laid (cs : List Int) (b : Nat) (xs : List Int) (e : Nat) : List Int := cs.take b ++ xs ++ cs.drop e
theorem laid_rle {cs : List Int} {b e : Int} {ps : List (Int × Int)} :
    jnd (cut 0 b (rle cs) ++ ps ++ cut e cs.length (rle cs)) = rle (laid cs b.toNat (cells ps) e.toNat) := by
  rw [jnd_rle, cells_app, cells_app, cut_rle, cut_rle]
  unfold laid
  rw [List.take_of_length_le (l := cs.drop e.toNat) (by rw [List.length_drop]; omega)]
  rfl
theorem laid_len {cs xs : List Int} {b e : Nat} (h : b ≤ e) (he : e ≤ cs.length) (hx : xs.length = e - b) :
    (laid cs b xs e).length = cs.length := by
  unfold laid
  rw [List.length_append, List.length_append, List.length_take, List.length_drop, hx]
  omega
theorem cells_len : ∀ ps : List (Int × Int), (∀ q ∈ ps, 0 < q.1) → ((cells ps).length : Int) = wide ps
  | [], _ => rfl
  | p :: ps, h => by
    have ih := cells_len ps fun q hq => h q (List.mem_cons_of_mem _ hq)
    have hp := h p List.mem_cons_self
    rw [cells_cons, List.length_append, List.length_replicate]
    show ((p.1.toNat + (cells ps).length : Nat) : Int) = p.1 + wide ps
    omega

/-! ### numbers -/
def sp_is_number : Sp := fun vs H Q _ => ∃ n : Int, vs = [.int n] ∧ Q (.bl true) H
theorem sc_is_number : FnScope ["thing"] ["thing"] (defScope s_is_number) :=
  ⟨rfl, rfl, rfl, by decide +kernel, rfl, by decide +kernel, by decide +kernel⟩
theorem ok_is_number {P : Program} {w : World} {K : PySem.W.Frag} {mg : Str → Option Value} {base : Heap} (T : Txt K mg) :
    FnG P w K mg base 1 T.a_is_number T.d_is_number ["thing"] sp_is_number := by
  refine okD T.F_is_number sc_is_number (fun vs H Q E h => ?_) (fun cdv A outer s H vs Q E hr h => ?_)
  · first
      | (obtain ⟨_, rfl, _⟩ := h; rfl)
      | (obtain ⟨_, _, rfl, _⟩ := h; rfl)
      | (obtain ⟨_, _, _, rfl, _⟩ := h; rfl)
      | (obtain ⟨_, _, _, _, rfl, _⟩ := h; rfl)
      | (obtain ⟨_, _, _, _, _, rfl, _⟩ := h; rfl)
      | (obtain ⟨_, _, _, _, _, _, rfl, _⟩ := h; rfl)
      | (obtain ⟨_, _, _, _, _, _, _, rfl, _⟩ := h; rfl)
      | (obtain ⟨_, _, _, _, _, _, _, _, rfl, _⟩ := h; rfl)
      | (obtain ⟨_, _, _, _, _, _, _, _, _, rfl, _⟩ := h; rfl)
      | (obtain ⟨_, _, _, _, _, _, _, _, _, _, rfl, _⟩ := h; rfl)
      | (obtain ⟨_, _, _, _, _, _, _, _, _, _, _, rfl, _⟩ := h; rfl)
  · obtain ⟨n, rfl, k⟩ := h
    refine ⟨_, (pss_one (ps_ret (pe_and (pe_callB (k_isi (K := K) rfl) (by rfl) T.n_isinstance (by decide +kernel) (pa_cons (pv 0) (pa_cons (pe_bltn (v := .ty "int") (by rfl) T.n_int (by decide +kernel) rfl) pa_nil))) (pe_one (pe_not (pe_callB (k_isi (K := K) rfl) (by rfl) T.n_isinstance (by decide +kernel) (pa_cons (pv 0) (pa_cons (pe_bltn (v := .ty "bool") (by rfl) T.n_bool (by decide +kernel) rfl) pa_nil)))))))), ?_⟩
    dsimp only [cxOf, st_1, st_2, st_3, st_4, st_5, st_6, List.length_cons, List.length_nil, List.replicate_succ, List.replicate_zero, Nat.reduceAdd, Nat.reduceSub]
    walk_at "gs"
    refine i_isD (.int n) (show kitB "int" "int" = some true by decide +kernel) ?_
    walk_at "gs"
    refine i_isD (.int n) (show kitB "int" "bool" = some false by decide +kernel) ?_
    walk_at "gs"
    exact k
def sp_is_whole : Sp := fun vs H Q _ => ∃ n a b : Int, vs = [.int n, .int a, .int b] ∧ Q (.bl (decide (a ≤ n ∧ n ≤ b))) H
theorem sc_is_whole : FnScope ["thing", "least", "most"] ["thing", "least", "most"] (defScope s_is_whole) :=
  ⟨rfl, rfl, rfl, by decide +kernel, rfl, by decide +kernel, by decide +kernel⟩
theorem ok_is_whole {P : Program} {w : World} {K : PySem.W.Frag} {mg : Str → Option Value} {base : Heap} (T : Txt K mg) :
    FnG P w K mg base 2 T.a_is_whole T.d_is_whole ["thing", "least", "most"] sp_is_whole := by
  refine okD T.F_is_whole sc_is_whole (fun vs H Q E h => ?_) (fun cdv A outer s H vs Q E hr h => ?_)
  · first
      | (obtain ⟨_, rfl, _⟩ := h; rfl)
      | (obtain ⟨_, _, rfl, _⟩ := h; rfl)
      | (obtain ⟨_, _, _, rfl, _⟩ := h; rfl)
      | (obtain ⟨_, _, _, _, rfl, _⟩ := h; rfl)
      | (obtain ⟨_, _, _, _, _, rfl, _⟩ := h; rfl)
      | (obtain ⟨_, _, _, _, _, _, rfl, _⟩ := h; rfl)
      | (obtain ⟨_, _, _, _, _, _, _, rfl, _⟩ := h; rfl)
      | (obtain ⟨_, _, _, _, _, _, _, _, rfl, _⟩ := h; rfl)
      | (obtain ⟨_, _, _, _, _, _, _, _, _, rfl, _⟩ := h; rfl)
      | (obtain ⟨_, _, _, _, _, _, _, _, _, _, rfl, _⟩ := h; rfl)
      | (obtain ⟨_, _, _, _, _, _, _, _, _, _, _, rfl, _⟩ := h; rfl)
  · obtain ⟨n, a, b, rfl, k⟩ := h
    refine ⟨_, (pss_one (ps_ret (pe_and (d1 (ok_is_number T) (hr.mono (by decide)) (by rfl) T.m_is_number T.F_is_number.kp T.b_is_number passL (pa_cons (pv 0) pa_nil)) (pe_one (pe_chain op_le op_le (pv 1) (pv 0) (pv 2)))))), ?_⟩
    dsimp only [cxOf, st_1, st_2, st_3, st_4, st_5, st_6, List.length_cons, List.length_nil, List.replicate_succ, List.replicate_zero, Nat.reduceAdd, Nat.reduceSub]
    walk_at "gs"
    refine ⟨n, rfl, ?_⟩
    walk_at "gs"
    refine i_dec (fun c => ?_) (fun c => ?_)
    · walk_at "gs"
      have e : decide (n ≤ b) = decide (a ≤ n ∧ n ≤ b) := by simp only [c, true_and]
      rw [e]
      exact k
    · have e : false = decide (a ≤ n ∧ n ≤ b) := by simp only [c, false_and, decide_false]
      rw [e]
      exact k
def sp_is_size : Sp := fun vs H Q _ => ∃ n : Int, vs = [.int n] ∧ Q (.bl (decide (1 ≤ n ∧ n ≤ 1000000000000000000))) H
theorem sc_is_size : FnScope ["thing"] ["thing"] (defScope s_is_size) :=
  ⟨rfl, rfl, rfl, by decide +kernel, rfl, by decide +kernel, by decide +kernel⟩
theorem ok_is_size {P : Program} {w : World} {K : PySem.W.Frag} {mg : Str → Option Value} {base : Heap} (T : Txt K mg) :
    FnG P w K mg base 3 T.a_is_size T.d_is_size ["thing"] sp_is_size := by
  refine okD T.F_is_size sc_is_size (fun vs H Q E h => ?_) (fun cdv A outer s H vs Q E hr h => ?_)
  · first
      | (obtain ⟨_, rfl, _⟩ := h; rfl)
      | (obtain ⟨_, _, rfl, _⟩ := h; rfl)
      | (obtain ⟨_, _, _, rfl, _⟩ := h; rfl)
      | (obtain ⟨_, _, _, _, rfl, _⟩ := h; rfl)
      | (obtain ⟨_, _, _, _, _, rfl, _⟩ := h; rfl)
      | (obtain ⟨_, _, _, _, _, _, rfl, _⟩ := h; rfl)
      | (obtain ⟨_, _, _, _, _, _, _, rfl, _⟩ := h; rfl)
      | (obtain ⟨_, _, _, _, _, _, _, _, rfl, _⟩ := h; rfl)
      | (obtain ⟨_, _, _, _, _, _, _, _, _, rfl, _⟩ := h; rfl)
      | (obtain ⟨_, _, _, _, _, _, _, _, _, _, rfl, _⟩ := h; rfl)
      | (obtain ⟨_, _, _, _, _, _, _, _, _, _, _, rfl, _⟩ := h; rfl)
  · obtain ⟨n, rfl, k⟩ := h
    refine ⟨_, (pss_one (ps_ret (d1 (ok_is_whole T) (hr.mono (by decide)) (by rfl) T.m_is_whole T.F_is_whole.kp T.b_is_whole passL (pa_cons (pv 0) (pa_cons pe_int (pa_cons (pe_glob (v := V.int 1000000000000000000) rfl T.g_LARGEST ⟨_, rfl⟩) pa_nil)))))), ?_⟩
    dsimp only [cxOf, st_1, st_2, st_3, st_4, st_5, st_6, List.length_cons, List.length_nil, List.replicate_succ, List.replicate_zero, Nat.reduceAdd, Nat.reduceSub]
    walk_at "gs"
    exact ⟨n, 1, _, rfl, k⟩
def sp_want_size : Sp := fun vs H Q _ => ∃ n : Int, vs = [.int n] ∧ (1 ≤ n ∧ n ≤ 1000000000000000000) ∧ Q .non H
theorem sc_want_size : FnScope ["thing"] ["thing"] (defScope s_want_size) :=
  ⟨rfl, rfl, rfl, by decide +kernel, rfl, by decide +kernel, by decide +kernel⟩
theorem ok_want_size {P : Program} {w : World} {K : PySem.W.Frag} {mg : Str → Option Value} {base : Heap} (T : Txt K mg) :
    FnG P w K mg base 4 T.a_want_size T.d_want_size ["thing"] sp_want_size := by
  refine okD T.F_want_size sc_want_size (fun vs H Q E h => ?_) (fun cdv A outer s H vs Q E hr h => ?_)
  · first
      | (obtain ⟨_, rfl, _⟩ := h; rfl)
      | (obtain ⟨_, _, rfl, _⟩ := h; rfl)
      | (obtain ⟨_, _, _, rfl, _⟩ := h; rfl)
      | (obtain ⟨_, _, _, _, rfl, _⟩ := h; rfl)
      | (obtain ⟨_, _, _, _, _, rfl, _⟩ := h; rfl)
      | (obtain ⟨_, _, _, _, _, _, rfl, _⟩ := h; rfl)
      | (obtain ⟨_, _, _, _, _, _, _, rfl, _⟩ := h; rfl)
      | (obtain ⟨_, _, _, _, _, _, _, _, rfl, _⟩ := h; rfl)
      | (obtain ⟨_, _, _, _, _, _, _, _, _, rfl, _⟩ := h; rfl)
      | (obtain ⟨_, _, _, _, _, _, _, _, _, _, rfl, _⟩ := h; rfl)
      | (obtain ⟨_, _, _, _, _, _, _, _, _, _, _, rfl, _⟩ := h; rfl)
  · obtain ⟨n, rfl, z, k⟩ := h
    refine ⟨_, (pss_one (ps_if (pt_not (pt_val (d1 (ok_is_size T) (hr.mono (by decide)) (by rfl) T.m_is_size T.F_is_size.kp T.b_is_size passL (pa_cons (pv 0) pa_nil)))) (pss_one ps_never) pss_nil)), ?_⟩
    dsimp only [cxOf, st_1, st_2, st_3, st_4, st_5, st_6, List.length_cons, List.length_nil, List.replicate_succ, List.replicate_zero, Nat.reduceAdd, Nat.reduceSub]
    walk_at "gs"
    refine ⟨n, rfl, ?_⟩
    walk_at "gs"
    refine i_decN (fun c => absurd z c) (fun _ => ?_)
    walk_at "gs"
    exact k
def sp_want_number : Sp := fun vs H Q _ => ∃ n : Int, vs = [.int n] ∧ Q .non H
theorem sc_want_number : FnScope ["thing"] ["thing"] (defScope s_want_number) :=
  ⟨rfl, rfl, rfl, by decide +kernel, rfl, by decide +kernel, by decide +kernel⟩
theorem ok_want_number {P : Program} {w : World} {K : PySem.W.Frag} {mg : Str → Option Value} {base : Heap} (T : Txt K mg) :
    FnG P w K mg base 2 T.a_want_number T.d_want_number ["thing"] sp_want_number := by
  refine okD T.F_want_number sc_want_number (fun vs H Q E h => ?_) (fun cdv A outer s H vs Q E hr h => ?_)
  · first
      | (obtain ⟨_, rfl, _⟩ := h; rfl)
      | (obtain ⟨_, _, rfl, _⟩ := h; rfl)
      | (obtain ⟨_, _, _, rfl, _⟩ := h; rfl)
      | (obtain ⟨_, _, _, _, rfl, _⟩ := h; rfl)
      | (obtain ⟨_, _, _, _, _, rfl, _⟩ := h; rfl)
      | (obtain ⟨_, _, _, _, _, _, rfl, _⟩ := h; rfl)
      | (obtain ⟨_, _, _, _, _, _, _, rfl, _⟩ := h; rfl)
      | (obtain ⟨_, _, _, _, _, _, _, _, rfl, _⟩ := h; rfl)
      | (obtain ⟨_, _, _, _, _, _, _, _, _, rfl, _⟩ := h; rfl)
      | (obtain ⟨_, _, _, _, _, _, _, _, _, _, rfl, _⟩ := h; rfl)
      | (obtain ⟨_, _, _, _, _, _, _, _, _, _, _, rfl, _⟩ := h; rfl)
  · obtain ⟨n, rfl, k⟩ := h
    refine ⟨_, (pss_one (ps_if (pt_not (pt_val (d1 (ok_is_number T) (hr.mono (by decide)) (by rfl) T.m_is_number T.F_is_number.kp T.b_is_number passL (pa_cons (pv 0) pa_nil)))) (pss_one ps_never) pss_nil)), ?_⟩
    dsimp only [cxOf, st_1, st_2, st_3, st_4, st_5, st_6, List.length_cons, List.length_nil, List.replicate_succ, List.replicate_zero, Nat.reduceAdd, Nat.reduceSub]
    walk_at "gs"
    refine ⟨n, rfl, ?_⟩
    walk_at "gs"
    exact k
def sp_want_cell : Sp := fun vs H Q _ => ∃ c n : Int, vs = [.int c, .int n] ∧ (0 ≤ c ∧ c < n) ∧ Q .non H
theorem sc_want_cell : FnScope ["thing", "size"] ["thing", "size"] (defScope s_want_cell) :=
  ⟨rfl, rfl, rfl, by decide +kernel, rfl, by decide +kernel, by decide +kernel⟩
theorem ok_want_cell {P : Program} {w : World} {K : PySem.W.Frag} {mg : Str → Option Value} {base : Heap} (T : Txt K mg) :
    FnG P w K mg base 3 T.a_want_cell T.d_want_cell ["thing", "size"] sp_want_cell := by
  refine okD T.F_want_cell sc_want_cell (fun vs H Q E h => ?_) (fun cdv A outer s H vs Q E hr h => ?_)
  · first
      | (obtain ⟨_, rfl, _⟩ := h; rfl)
      | (obtain ⟨_, _, rfl, _⟩ := h; rfl)
      | (obtain ⟨_, _, _, rfl, _⟩ := h; rfl)
      | (obtain ⟨_, _, _, _, rfl, _⟩ := h; rfl)
      | (obtain ⟨_, _, _, _, _, rfl, _⟩ := h; rfl)
      | (obtain ⟨_, _, _, _, _, _, rfl, _⟩ := h; rfl)
      | (obtain ⟨_, _, _, _, _, _, _, rfl, _⟩ := h; rfl)
      | (obtain ⟨_, _, _, _, _, _, _, _, rfl, _⟩ := h; rfl)
      | (obtain ⟨_, _, _, _, _, _, _, _, _, rfl, _⟩ := h; rfl)
      | (obtain ⟨_, _, _, _, _, _, _, _, _, _, rfl, _⟩ := h; rfl)
      | (obtain ⟨_, _, _, _, _, _, _, _, _, _, _, rfl, _⟩ := h; rfl)
  · obtain ⟨c, n, rfl, z, k⟩ := h
    refine ⟨_, (pss_one (ps_if (pt_not (pt_val (d1 (ok_is_whole T) (hr.mono (by decide)) (by rfl) T.m_is_whole T.F_is_whole.kp T.b_is_whole passL (pa_cons (pv 0) (pa_cons pe_int (pa_cons (pe_op op_sub (pv 1) pe_int) pa_nil)))))) (pss_one ps_never) pss_nil)), ?_⟩
    dsimp only [cxOf, st_1, st_2, st_3, st_4, st_5, st_6, List.length_cons, List.length_nil, List.replicate_succ, List.replicate_zero, Nat.reduceAdd, Nat.reduceSub]
    walk_at "gs"
    refine ⟨c, 0, n - 1, rfl, ?_⟩
    walk_at "gs"
    refine i_decN (fun d => absurd (by omega) d) (fun _ => ?_)
    walk_at "gs"
    exact k
def sp_want_stretch : Sp := fun vs H Q _ => ∃ b e n : Int, vs = [.int b, .int e, .int n] ∧ (0 ≤ b ∧ b ≤ e ∧ e ≤ n) ∧ Q .non H
theorem sc_want_stretch : FnScope ["begin", "end", "size"] ["begin", "end", "size"] (defScope s_want_stretch) :=
  ⟨rfl, rfl, rfl, by decide +kernel, rfl, by decide +kernel, by decide +kernel⟩
theorem ok_want_stretch {P : Program} {w : World} {K : PySem.W.Frag} {mg : Str → Option Value} {base : Heap} (T : Txt K mg) :
    FnG P w K mg base 3 T.a_want_stretch T.d_want_stretch ["begin", "end", "size"] sp_want_stretch := by
  refine okD T.F_want_stretch sc_want_stretch (fun vs H Q E h => ?_) (fun cdv A outer s H vs Q E hr h => ?_)
  · first
      | (obtain ⟨_, rfl, _⟩ := h; rfl)
      | (obtain ⟨_, _, rfl, _⟩ := h; rfl)
      | (obtain ⟨_, _, _, rfl, _⟩ := h; rfl)
      | (obtain ⟨_, _, _, _, rfl, _⟩ := h; rfl)
      | (obtain ⟨_, _, _, _, _, rfl, _⟩ := h; rfl)
      | (obtain ⟨_, _, _, _, _, _, rfl, _⟩ := h; rfl)
      | (obtain ⟨_, _, _, _, _, _, _, rfl, _⟩ := h; rfl)
      | (obtain ⟨_, _, _, _, _, _, _, _, rfl, _⟩ := h; rfl)
      | (obtain ⟨_, _, _, _, _, _, _, _, _, rfl, _⟩ := h; rfl)
      | (obtain ⟨_, _, _, _, _, _, _, _, _, _, rfl, _⟩ := h; rfl)
      | (obtain ⟨_, _, _, _, _, _, _, _, _, _, _, rfl, _⟩ := h; rfl)
  · obtain ⟨b, e, n, rfl, z, k⟩ := h
    refine ⟨_, (pss_one (ps_if (PW.pt (pw_or (pt_not (pt_val (d1 (ok_is_whole T) (hr.mono (by decide)) (by rfl) T.m_is_whole T.F_is_whole.kp T.b_is_whole passL (pa_cons (pv 0) (pa_cons pe_int (pa_cons (pv 2) pa_nil)))))) (pw_or1 (pt_not (pt_val (d1 (ok_is_whole T) (hr.mono (by decide)) (by rfl) T.m_is_whole T.F_is_whole.kp T.b_is_whole passL (pa_cons (pv 1) (pa_cons (pv 0) (pa_cons (pv 2) pa_nil))))))))) (pss_one ps_never) pss_nil)), ?_⟩
    dsimp only [cxOf, st_1, st_2, st_3, st_4, st_5, st_6, List.length_cons, List.length_nil, List.replicate_succ, List.replicate_zero, Nat.reduceAdd, Nat.reduceSub]
    walk_at "gs"
    refine ⟨b, 0, n, rfl, ?_⟩
    walk_at "gs"
    refine i_decN (fun d => absurd (by omega) d) (fun _ => ?_)
    walk_at "gs"
    refine ⟨e, b, n, rfl, ?_⟩
    walk_at "gs"
    refine i_decN (fun d => absurd (by omega) d) (fun _ => ?_)
    walk_at "gs"
    exact k

/-! ### cutting out -/
def sp_cut_out (K : PySem.W.Frag) : Sp := fun vs H Q _ => ∃ (a : Addr) (b e : Int) (ps : List (Int × Int)),
  vs = [.ref a, .int b, .int e] ∧ Dp K H (.ref a) (.list (ps.map d2)) ∧ ps.length ≤ 100000 ∧
  ∀ l H', Fr H l → Kp [] H H' → LD K H' l ((cut b e ps).map d2) → Q (.ref l) H'
theorem sc_cut_out : FnScope ["pairs", "begin", "end", "found", "at", "many", "number", "low", "high"] ["pairs", "begin", "end"] (defScope s_cut_out) :=
  ⟨rfl, rfl, rfl, by decide +kernel, rfl, by decide +kernel, by decide +kernel⟩
theorem ok_cut_out {P : Program} {w : World} {K : PySem.W.Frag} {mg : Str → Option Value} {base : Heap} (T : Txt K mg) :
    FnG P w K mg base 1 T.a_cut_out T.d_cut_out ["pairs", "begin", "end"] (sp_cut_out K) := by
  refine okD T.F_cut_out sc_cut_out (fun vs H Q E h => ?_) (fun cdv A outer s H vs Q E hr h => ?_)
  · first
      | (obtain ⟨_, rfl, _⟩ := h; rfl)
      | (obtain ⟨_, _, rfl, _⟩ := h; rfl)
      | (obtain ⟨_, _, _, rfl, _⟩ := h; rfl)
      | (obtain ⟨_, _, _, _, rfl, _⟩ := h; rfl)
      | (obtain ⟨_, _, _, _, _, rfl, _⟩ := h; rfl)
      | (obtain ⟨_, _, _, _, _, _, rfl, _⟩ := h; rfl)
      | (obtain ⟨_, _, _, _, _, _, _, rfl, _⟩ := h; rfl)
      | (obtain ⟨_, _, _, _, _, _, _, _, rfl, _⟩ := h; rfl)
      | (obtain ⟨_, _, _, _, _, _, _, _, _, rfl, _⟩ := h; rfl)
      | (obtain ⟨_, _, _, _, _, _, _, _, _, _, rfl, _⟩ := h; rfl)
      | (obtain ⟨_, _, _, _, _, _, _, _, _, _, _, rfl, _⟩ := h; rfl)
  · obtain ⟨a, b, e, ps, rfl, ha, hps, k⟩ := h
    cases ha
    rename_i xs hsq hall
    have hlen := dpa_len hall
    rw [List.length_map] at hlen
    have cl_Memory := T.cl_Memory
    have na_Memory_pairs := T.na_Memory_pairs
    have na_Memory_wide := T.na_Memory_wide
    refine ⟨_, (pss_cons (ps_set (i := 3) sc_cut_out.nd rfl (Or.inl rfl) (pe_lst pa_nil))
      (pss_cons (ps_set (i := 4) sc_cut_out.nd rfl (Or.inl rfl) pe_int)
      (pss_cons (ps_for (passes_of rfl) rfl (k_plist (K := K) rfl (pv 0)) (k_gtup (K := K) 2 rfl rfl (pgs_cons (pg_name (i := 5) sc_cut_out.nd rfl (Or.inl rfl)) (pgs_cons (pg_name (i := 6) sc_cut_out.nd rfl (Or.inl rfl)) pgs_nil)))
      (pss_cons (ps_par (i := 7) (j := 8) (by rfl) sc_cut_out.nd rfl rfl (by decide) rfl rfl (pa_cons (pe_callB (c_max2 rfl) (by rfl) T.n_max (by decide +kernel) (pa_cons (pv 1) (pa_cons (pv 4) pa_nil))) (pa_cons (pe_callB (c_min2 rfl) (by rfl) T.n_min (by decide +kernel) (pa_cons (pv 2) (pa_cons (pe_op (k_add (K := K) rfl) (pv 4) (pv 5)) pa_nil))) pa_nil)) (by rfl))
      (pss_cons (ps_if (pt_cmpR op_lt (pv 7) (pv 8) (nomark _)) (pss_one (ps_expr (pe_bm PySem.F.plainAttrs_list PySem.F.slot_list_append PySem.F.type_list_append mt_append (pv 3) (pa_cons (pe_tup (pa_cons (pe_op op_sub (pv 8) (pv 7)) (pa_cons (pv 6) pa_nil))) pa_nil)))) pss_nil)
      (pss_one (ps_aug (i := 4) sc_cut_out.nd rfl (Or.inl rfl) (pv 5) ip_add)))))
      (pss_one (ps_ret (pv 3)))))), ?_⟩
    dsimp only [cxOf, st_1, st_2, st_3, st_4, st_5, st_6, List.length_cons, List.length_nil, List.replicate_succ, List.replicate_zero, Nat.reduceAdd, Nat.reduceSub]
    walk_at "gs"
    refine i_new fun l hl => ?_
    walk_at "gs"
    refine i_each ((Kp.new hl).seqL (ws := []) List.not_mem_nil hsq) (fun i σ H' => ∃ u v w x, σ = [some (.ref a), some (.int b), some (.int e), some (.ref l), some (.int (wide (ps.take i))), u, v, w, x] ∧ Kp [] H H' ∧
      LD K H' l ((cut b e (ps.take i)).map d2)) ?_ ?_ ?_ ?_
    · exact ⟨none, none, none, none, rfl, Kp.new hl, ⟨[], upd_same, .nil⟩⟩
    · rintro i σ H' _ ⟨u, v, w, x, rfl, kp, ld⟩
      exact kp.seqL List.not_mem_nil hsq
    · rintro i x σ H' hx ⟨u, v, w, y, rfl, kp, ld⟩
      obtain ⟨d, hd, hdp⟩ := dpa_getV hall hx
      obtain ⟨p, hp, rfl⟩ := map_get hd
      obtain ⟨pa, rfl, hpt⟩ := dp_pair hdp
      replace hpt := kp.seqT hpt
      obtain ⟨vs, hvs, hall2⟩ := id ld
      have hvl := dpa_len hall2
      rw [List.length_map] at hvl
      have hcl := cut_len b e (ps.take i)
      rw [List.length_take] at hcl
      have hil : i < ps.length := (List.getElem?_eq_some_iff.mp hp).1
      walk_at "gs"
      refine i_dec (fun c => ?_) (fun c => ?_)
      · walk_at "gs"
        refine i_new fun t ht => ?_
        walk_at "gs"
        rw [wide_take hp, cut_take hp, if_pos c, List.map_append]
        refine ⟨_, _, _, _, rfl, by walk_at "g_kp", ?_⟩
        exact ld_push (ws := [l]) (H0 := H') (by walk_at "g_kp") hall2 (imms_d2 _) upd_same (dp_mk2 (m := min e (wide (ps.take i) + p.1) - max b (wide (ps.take i))) (n := p.2) (by walk_at "g_st"))
      · walk_at "gs"
        rw [wide_take hp, cut_take hp, if_neg c, List.append_nil]
        exact ⟨_, _, _, _, rfl, kp, ld⟩
    · rintro σ H' ⟨u, v, w, x, rfl, kp, ld⟩
      walk_at "gs"
      rw [List.take_of_length_le (by omega)] at ld
      exact k l H' hl kp ld

/-! ### comprehensions that change nothing -/
theorem dpa_tail {K : PySem.W.Frag} {H : Hp} : ∀ {ds : List PyData} {vs : List V}, DpAll K H vs ds → DpAll K H vs.tail ds.tail
  | [], _, h => by cases h; exact .nil
  | _ :: _, _, h => by
    cases h with
    | cons _ h2 => exact h2
section
variable {K : PySem.W.Frag} {σ : L2.St} {H : Hp} {Q : VK} {a b : Addr} {xs ys us : List V} {g : TG} {te : TE} {vs : List Nat} {ds : List PyData}
theorem i_mapL (hs : SqL K H a xs) (ys : List V) (hl : ys.length = xs.length) (hz : xs.length ≤ 1000000)
    (st : ∀ (D : Addr) (i : Nat) (x y : V) (H' : Hp) (Q' : VK), Fr H D → xs[i]? = some x → ys[i]? = some y → Kp [] H H' → (∀ H4, Kp [] H' H4 → Q' y H4) →
      g x (wipe σ vs) H' fun σ2 H2 => wipe σ2 vs = wipe σ vs ∧ te σ2 H2 Q')
    (hd : ∀ D H', Fr H D → Kp [] H H' → H' D = some (.lst ys) → Q (.ref D) H') : LcL K (.ref a) g tYes te vs σ H Q := by
  refine i_elts hs (fun D i H' => Kp [] H H' ∧ H' D = some (.lst (ys.take i))) (fun D fD => ⟨Kp.new fD, by rw [List.take_zero]; exact upd_same⟩)
    (fun D i H' _ _ z => z.1.seqL not_nil hs) ?_ ?_
  · rintro D i x H' fD hx ⟨k, e⟩
    have hi := (List.getElem?_eq_some_iff.mp hx).1
    obtain ⟨y, hy⟩ : ∃ y, ys[i]? = some y := ⟨_, List.getElem?_eq_getElem (by omega)⟩
    have q := st D i x y H' (fun y' H4 => ∃ acc, H4 D = some (.lst acc) ∧ acc.length < sizeLine ∧
      (Kp [] H (upd H4 D (.lst (acc ++ [y']))) ∧ upd H4 D (.lst (acc ++ [y'])) D = some (.lst (ys.take (i + 1))))) fD hx hy k (fun H4 k4 => by
        refine ⟨_, k4.at_ _ _ e not_nil, small_sz (by rw [List.length_take]; omega), Kp.upd (Kp.trans k k4) fD, ?_⟩
        rw [List.take_add_one, hy]
        exact upd_same)
    exact q
  · rintro D H' fD ⟨k, e⟩
    rw [List.take_of_length_le (by omega)] at e
    exact hd D H' fD k e
theorem i_mapD (hs : SqL K H a xs) (ds : List PyData) (hi : imms ds = true) (hl : ds.length = xs.length) (hz : xs.length ≤ 1000000)
    (st : ∀ (D : Addr) (i : Nat) (x : V) (d : PyData) (H' : Hp) (Q' : VK), Fr H D → xs[i]? = some x → ds[i]? = some d → Kp [] H H' → (∀ y H4, Kp [] H' H4 → Dp K H4 y d → Q' y H4) →
      g x (wipe σ vs) H' fun σ2 H2 => wipe σ2 vs = wipe σ vs ∧ te σ2 H2 Q')
    (hd : ∀ D H', Fr H D → Kp [] H H' → LD K H' D ds → Q (.ref D) H') : LcL K (.ref a) g tYes te vs σ H Q := by
  have imt : ∀ (l : List PyData) i, imms l = true → imms (l.take i) = true := by
    intro l
    induction l with
    | nil => intro i h; rw [List.take_nil]; rfl
    | cons d l ih =>
      intro i h
      simp only [imms, Bool.and_eq_true] at h
      cases i with
      | zero => rfl
      | succ i =>
        rw [List.take_succ_cons]
        simp only [imms, Bool.and_eq_true]
        exact ⟨h.1, ih i h.2⟩
  have img : ∀ (l : List PyData) (i : Nat) (d : PyData), imms l = true → l[i]? = some d → imm d = true := by
    intro l
    induction l with
    | nil => intro i d _ e; cases e
    | cons d0 l ih =>
      intro i d h e
      simp only [imms, Bool.and_eq_true] at h
      cases i with
      | zero => cases e; exact h.1
      | succ i => exact ih i d h.2 e
  refine i_elts hs (fun D i H' => Kp [] H H' ∧ LD K H' D (ds.take i)) (fun D fD => ⟨Kp.new fD, [], upd_same, by rw [List.take_zero]; exact .nil⟩)
    (fun D i H' _ _ z => z.1.seqL not_nil hs) ?_ ?_
  · rintro D i x H' fD hx ⟨k, ld⟩
    have hi2 := (List.getElem?_eq_some_iff.mp hx).1
    obtain ⟨d, hd2⟩ : ∃ d, ds[i]? = some d := ⟨_, List.getElem?_eq_getElem (by omega)⟩
    have q := st D i x d H' (fun y' H4 => ∃ acc, H4 D = some (.lst acc) ∧ acc.length < sizeLine ∧
      (Kp [] H (upd H4 D (.lst (acc ++ [y']))) ∧ LD K (upd H4 D (.lst (acc ++ [y']))) D (ds.take (i + 1)))) fD hx hd2 k (fun y H4 k4 hy => by
        obtain ⟨acc, e, ha⟩ := ld.kp k4 (imt _ _ hi) not_nil
        have hl2 := dpa_len ha
        rw [List.length_take] at hl2
        refine ⟨acc, e, small_sz (by omega), Kp.upd (Kp.trans k k4) fD, ?_⟩
        rw [List.take_add_one, hd2]
        exact ld_app ha e (imt _ _ hi) hy (img _ _ _ hi hd2))
    exact q
  · rintro D H' fD ⟨k, ld⟩
    rw [List.take_of_length_le (by omega)] at ld
    exact hd D H' fD k ld
theorem i_mapZ (hx : SqL K H a xs) (hy : SqL K H b us) (ys : List V) (hl : ys.length = min xs.length us.length) (hz : ys.length ≤ 1000000)
    (st : ∀ (D : Addr) (i : Nat) (x u y : V) (T : Addr) (H' : Hp) (Q' : VK), Fr H D → xs[i]? = some x → us[i]? = some u → ys[i]? = some y → Kp [] H H' → Fr H' T → (∀ H4, Kp [] H' H4 → Q' y H4) →
      g (.ref T) (wipe σ vs) (upd H' T (.tup [x, u])) fun σ2 H2 => wipe σ2 vs = wipe σ vs ∧ te σ2 H2 Q')
    (hd : ∀ D H', Fr H D → Kp [] H H' → H' D = some (.lst ys) → Q (.ref D) H') : LcZ K [.ref a, .ref b] g tYes te vs σ H Q := by
  refine i_eltz hx hy (fun D i H' => Kp [] H H' ∧ H' D = some (.lst (ys.take i))) (fun D fD => ⟨Kp.new fD, by rw [List.take_zero]; exact upd_same⟩)
    (fun D i H' _ z => ⟨z.1.seqL not_nil hx, z.1.seqL not_nil hy⟩) ?_ ?_
  · rintro D i x u T H' fD hx2 hu ⟨k, e⟩ fT
    have h1 := (List.getElem?_eq_some_iff.mp hx2).1
    have h2 := (List.getElem?_eq_some_iff.mp hu).1
    obtain ⟨y, hy⟩ : ∃ y, ys[i]? = some y := ⟨_, List.getElem?_eq_getElem (by omega)⟩
    have q := st D i x u y T H' (fun y' H4 => ∃ acc, H4 D = some (.lst acc) ∧ acc.length < sizeLine ∧
      (Kp [] H (upd H4 D (.lst (acc ++ [y']))) ∧ upd H4 D (.lst (acc ++ [y'])) D = some (.lst (ys.take (i + 1))))) fD hx2 hu hy k fT (fun H4 k4 => by
        refine ⟨_, k4.at_ _ _ e not_nil, small_sz (by rw [List.length_take]; omega), Kp.upd (Kp.trans k k4) fD, ?_⟩
        rw [List.take_add_one, hy]
        exact upd_same)
    exact q
  · rintro D H' fD ⟨k, e⟩
    rw [List.take_of_length_le (by omega)] at e
    exact hd D H' fD k e
end

def sp_is_run (K : PySem.W.Frag) : Sp := fun vs H Q _ => ∃ (t : Addr) (n v : Int), vs = [.ref t] ∧ SqT K H t [.int n, .int v] ∧ 0 < n ∧ Q (.bl true) H
theorem sc_is_run : FnScope ["thing", "many", "number"] ["thing"] (defScope s_is_run) :=
  ⟨rfl, rfl, rfl, by decide +kernel, rfl, by decide +kernel, by decide +kernel⟩
theorem ok_is_run {P : Program} {w : World} {K : PySem.W.Frag} {mg : Str → Option Value} {base : Heap} (T : Txt K mg) :
    FnG P w K mg base 2 T.a_is_run T.d_is_run ["thing"] (sp_is_run K) := by
  refine okD T.F_is_run sc_is_run (fun vs H Q E h => ?_) (fun cdv A outer s H vs Q E hr h => ?_)
  · first
      | (obtain ⟨_, rfl, _⟩ := h; rfl)
      | (obtain ⟨_, _, rfl, _⟩ := h; rfl)
      | (obtain ⟨_, _, _, rfl, _⟩ := h; rfl)
      | (obtain ⟨_, _, _, _, rfl, _⟩ := h; rfl)
      | (obtain ⟨_, _, _, _, _, rfl, _⟩ := h; rfl)
      | (obtain ⟨_, _, _, _, _, _, rfl, _⟩ := h; rfl)
      | (obtain ⟨_, _, _, _, _, _, _, rfl, _⟩ := h; rfl)
      | (obtain ⟨_, _, _, _, _, _, _, _, rfl, _⟩ := h; rfl)
      | (obtain ⟨_, _, _, _, _, _, _, _, _, rfl, _⟩ := h; rfl)
      | (obtain ⟨_, _, _, _, _, _, _, _, _, _, rfl, _⟩ := h; rfl)
      | (obtain ⟨_, _, _, _, _, _, _, _, _, _, _, rfl, _⟩ := h; rfl)
  · obtain ⟨t, n, v, rfl, hT, hn, k⟩ := h
    refine ⟨_, (pss_cons (ps_if (PW.pt (pw_or (pt_not (pt_val (pe_callB (k_isi (K := K) rfl) (by rfl) T.n_isinstance (by decide +kernel) (pa_cons (pv 0) (pa_cons (pe_bltn (v := .ty "tuple") (by rfl) T.n_tuple (by decide +kernel) rfl) pa_nil))))) (pw_or1 (pt_cmpR (k_ne (K := K) rfl hr.r.units) (pe_callB (k_len (K := K) rfl) (by rfl) T.n_len (by decide +kernel) (pa_cons (pv 0) pa_nil)) pe_int (nomark _))))) (pss_one (ps_ret pe_bl)) pss_nil)
      (pss_cons (ps_asg (pv 0) (k_gtup (K := K) 2 rfl rfl (pgs_cons (pg_name (i := 1) sc_is_run.nd rfl (Or.inl rfl)) (pgs_cons (pg_name (i := 2) sc_is_run.nd rfl (Or.inl rfl)) pgs_nil))))
      (pss_one (ps_ret (pe_and (d1 (ok_is_number T) (hr.mono (by decide)) (by rfl) T.m_is_number T.F_is_number.kp T.b_is_number passL (pa_cons (pv 1) pa_nil)) (pe_and (pe_cmpR op_gt (pv 1) pe_int (nomark _)) (pe_one (d1 (ok_is_number T) (hr.mono (by decide)) (by rfl) T.m_is_number T.F_is_number.kp T.b_is_number passL (pa_cons (pv 2) pa_nil))))))))), ?_⟩
    dsimp only [cxOf, st_1, st_2, st_3, st_4, st_5, st_6, List.length_cons, List.length_nil, List.replicate_succ, List.replicate_zero, Nat.reduceAdd, Nat.reduceSub]
    walk_at "gs"
    refine i_isD (dp_mk2 hT) (show kitB "tuple" "tuple" = some true by decide +kernel) ?_
    walk_at "gs"
    refine i_decN (fun z => absurd rfl z) (fun _ => ?_)
    walk_at "gs"
    refine ⟨n, rfl, ?_⟩
    walk_at "gs"
    refine i_dec (fun _ => ?_) (fun z => absurd hn z)
    walk_at "gs"
    exact ⟨v, rfl, k⟩
/-- no two neighbours of one number -/
def apart : List (Int × Int) → Prop
  | [] => True
  | [_] => True
  | p :: q :: t => p.2 ≠ q.2 ∧ apart (q :: t)
theorem apart_wst (f : List (Int × Int)) (p : Int × Int) (h : apart f) : apart (wst f p) := by
  cases f with
  | nil => trivial
  | cons q t =>
    unfold wst
    simp only
    split
    · rename_i c
      cases t with
      | nil => trivial
      | cons r u => exact ⟨by rw [← c]; exact h.1, h.2⟩
    · rename_i c
      exact ⟨fun z => c z.symm, h⟩
theorem apart_wr : ∀ ps : List (Int × Int), apart (wr ps)
  | [] => trivial
  | p :: ps => by
    unfold wr
    split
    · exact apart_wst _ _ (apart_wr ps)
    · exact apart_wr ps
theorem apart_get : ∀ (ps : List (Int × Int)) (i : Nat) (p q : Int × Int), apart ps → ps[i]? = some p → ps.tail[i]? = some q → p.2 ≠ q.2
  | [], _, _, _, _, e, _ => by cases e
  | [_], i, _, _, _, _, e => by simp at e
  | a :: b :: t, 0, p, q, h, e1, e2 => by
    cases e1
    cases e2
    exact h.1
  | a :: b :: t, i + 1, p, q, h, e1, e2 => apart_get (b :: t) i p q h.2 e1 e2
def sp_are_runs (K : PySem.W.Frag) : Sp := fun vs H Q _ => ∃ (l : Addr) (ps : List (Int × Int)) (n : Int), vs = [.ref l, .int n] ∧ Dp K H (.ref l) (.list (ps.map d2)) ∧
  (∀ q ∈ ps, 0 < q.1) ∧ apart ps ∧ ps.length ≤ 100000 ∧ wide ps = n ∧ ∀ H', Kp [] H H' → Q (.bl true) H'
theorem all_true (n : Nat) : ((List.replicate n true).all id) = true := by
  rw [List.all_eq_true]
  intro b hb
  rw [(List.mem_replicate.mp hb).2]
  rfl
theorem any_false (n : Nat) : ((List.replicate n false).any id) = false := by
  rw [List.any_eq_false]
  intro b hb
  rw [(List.mem_replicate.mp hb).2]
  simp
theorem rep_get {n i : Nat} {v y : V} (h : (List.replicate n v)[i]? = some y) : y = v := by
  rw [List.getElem?_replicate] at h
  split at h
  · exact (Option.some.inj h).symm
  · cases h
theorem sc_are_runs : FnScope ["thing", "size", "one", "other", "many", "number"] ["thing", "size"] (defScope s_are_runs) :=
  ⟨rfl, rfl, rfl, by decide +kernel, rfl, by decide +kernel, by decide +kernel⟩
theorem ok_are_runs {P : Program} {w : World} {K : PySem.W.Frag} {mg : Str → Option Value} {base : Heap} (T : Txt K mg) :
    FnG P w K mg base 3 T.a_are_runs T.d_are_runs ["thing", "size"] (sp_are_runs K) := by
  refine okD T.F_are_runs sc_are_runs (fun vs H Q E h => ?_) (fun cdv A outer s H vs Q E hr h => ?_)
  · first
      | (obtain ⟨_, rfl, _⟩ := h; rfl)
      | (obtain ⟨_, _, rfl, _⟩ := h; rfl)
      | (obtain ⟨_, _, _, rfl, _⟩ := h; rfl)
      | (obtain ⟨_, _, _, _, rfl, _⟩ := h; rfl)
      | (obtain ⟨_, _, _, _, _, rfl, _⟩ := h; rfl)
      | (obtain ⟨_, _, _, _, _, _, rfl, _⟩ := h; rfl)
      | (obtain ⟨_, _, _, _, _, _, _, rfl, _⟩ := h; rfl)
      | (obtain ⟨_, _, _, _, _, _, _, _, rfl, _⟩ := h; rfl)
      | (obtain ⟨_, _, _, _, _, _, _, _, _, rfl, _⟩ := h; rfl)
      | (obtain ⟨_, _, _, _, _, _, _, _, _, _, rfl, _⟩ := h; rfl)
      | (obtain ⟨_, _, _, _, _, _, _, _, _, _, _, rfl, _⟩ := h; rfl)
  · obtain ⟨l, ps, n, rfl, hl, hpos, hap, hps, hw, k⟩ := h
    have hD := hl
    cases hl
    rename_i xs hsq hall
    have hxl := dpa_len hall
    rw [List.length_map] at hxl
    refine ⟨_, (pss_cons (ps_if (PW.pt (pw_or (pt_not (pt_val (pe_callB (k_isi (K := K) rfl) (by rfl) T.n_isinstance (by decide +kernel) (pa_cons (pv 0) (pa_cons (pe_bltn (v := .ty "list") (by rfl) T.n_list (by decide +kernel) rfl) pa_nil))))) (pw_or1 (pt_not (pt_val (pe_callB (k_all (K := K) rfl rfl) (by rfl) T.n_all (by decide +kernel) (pa_cons (pe_lc (own := [("one", 2)]) (g := (gName 2)) (tt := tYes) rfl sc_are_runs.nd (k_plist (K := K) rfl (pv 0)) (blkOk_by (own := [("one", 2)]) (N := ["thing", "size", "one", "other", "many", "number"]) (sc := defScope s_are_runs) (by decide +kernel)) (fun _ _ _ _ _ => (pg_name (i := 2) sc_are_runs.nd rfl (Or.inl rfl))) (fun _ _ _ _ _ => pts_nil) (fun _ _ _ _ _ => (d1 (ok_is_run T) (hr.mono (by decide)) (by rfl) T.m_is_run T.F_is_run.kp T.b_is_run passL (pa_cons (pv 2) pa_nil)))) pa_nil))))))) (pss_one (ps_ret pe_bl)) pss_nil)
      (pss_cons (ps_if (pt_val (pe_callB (k_any (K := K) rfl rfl) (by rfl) T.n_any (by decide +kernel) (pa_cons (pe_lc (own := [("one", 2), ("other", 3)]) (g := (gTup K 2 (gCons (gName 2) (gCons (gName 3) gNil)))) (tt := tYes) rfl sc_are_runs.nd (k_pzip (K := K) rfl (by rfl) T.n_zip (pa_cons (pv 0) (pa_cons (pe_slice (k_sl (K := K) rfl) (pv 0) (po_some pe_int) po_none) pa_nil))) (blkOk_by (own := [("one", 2), ("other", 3)]) (N := ["thing", "size", "one", "other", "many", "number"]) (sc := defScope s_are_runs) (by decide +kernel)) (fun _ _ _ _ _ => (k_gtup (K := K) 2 rfl rfl (pgs_cons (pg_name (i := 2) sc_are_runs.nd rfl (Or.inl rfl)) (pgs_cons (pg_name (i := 3) sc_are_runs.nd rfl (Or.inl rfl)) pgs_nil)))) (fun _ _ _ _ _ => pts_nil) (fun _ _ _ _ _ => (pe_cmpR (k_eq (K := K) rfl hr.r.units) (pe_ix (k_ix (K := K) rfl) (pv 2) pe_int (fun _ _ => rfl)) (pe_ix (k_ix (K := K) rfl) (pv 3) pe_int (fun _ _ => rfl)) (nomark _)))) pa_nil))) (pss_one (ps_ret pe_bl)) pss_nil)
      (pss_one (ps_ret (pe_cmpR (k_eq (K := K) rfl hr.r.units) (pe_callB (k_sum (K := K) rfl rfl) (by rfl) T.n_sum (by decide +kernel) (pa_cons (pe_lc (own := [("many", 4), ("number", 5)]) (g := (gTup K 2 (gCons (gName 4) (gCons (gName 5) gNil)))) (tt := tYes) rfl sc_are_runs.nd (k_plist (K := K) rfl (pv 0)) (blkOk_by (own := [("many", 4), ("number", 5)]) (N := ["thing", "size", "one", "other", "many", "number"]) (sc := defScope s_are_runs) (by decide +kernel)) (fun _ _ _ _ _ => (k_gtup (K := K) 2 rfl rfl (pgs_cons (pg_name (i := 4) sc_are_runs.nd rfl (Or.inl rfl)) (pgs_cons (pg_name (i := 5) sc_are_runs.nd rfl (Or.inl rfl)) pgs_nil)))) (fun _ _ _ _ _ => pts_nil) (fun _ _ _ _ _ => (pv 4))) pa_nil)) (pv 1) (nomark _)))))), ?_⟩
    dsimp only [cxOf, st_1, st_2, st_3, st_4, st_5, st_6, List.length_cons, List.length_nil, List.replicate_succ, List.replicate_zero, Nat.reduceAdd, Nat.reduceSub]
    walk_at "gs"
    refine i_isD hD (show kitB "list" "list" = some true by decide +kernel) ?_
    walk_at "gs"
    refine i_mapL hsq (List.replicate xs.length (.bl true)) (by rw [List.length_replicate]) (by omega) ?_ ?_
    · intro D i x y H' Q' fD hx hy k1 q
      obtain ⟨d, hd, hdp⟩ := dpa_getV hall hx
      obtain ⟨p, hp, rfl⟩ := map_get hd
      obtain ⟨t, rfl, hT⟩ := dp_pair (dp_imm k1 _ _ rfl hdp)
      have hy2 := rep_get hy
      subst hy2
      walk_at "gs"
      exact ⟨t, p.1, p.2, rfl, hT, hpos p (List.mem_of_getElem? hp), q H' Kp.refl⟩
    intro D1 H1 fD1 k1 e1
    walk_at "gs"
    have eb : List.replicate xs.length (V.bl true) = (List.replicate xs.length true).map V.bl := by rw [List.map_replicate]
    rw [eb] at e1
    refine i_all (SqL.of e1) ?_
    rw [all_true]
    walk_at "gs"
    have hsq1 := k1.seqL not_nil hsq
    walk_at "gs"
    refine i_new fun z hz => ?_
    have ec : cutV xs (some 1) none = xs.tail := by
      cases xs with
      | nil => rfl
      | cons x t => exact cutV_tail x t
    rw [ec]
    have kz : Kp [] H1 (upd H1 z (.lst xs.tail)) := Kp.new hz
    walk_at "gs"
    refine i_mapZ (kz.seqL not_nil hsq1) (SqL.of upd_same) (List.replicate (min xs.length xs.tail.length) (.bl false)) (by rw [List.length_replicate]) (by rw [List.length_replicate]; omega) ?_ ?_
    · intro D i x u y T H' Q' fD hx hu hy k2 fT q
      obtain ⟨d, hd, hdp⟩ := dpa_getV hall hx
      obtain ⟨p, hp, rfl⟩ := map_get hd
      have hall2 : DpAll K H xs.tail (ps.tail.map d2) := by
        rw [List.map_tail]
        exact dpa_tail hall
      obtain ⟨d, hd, hdq⟩ := dpa_getV hall2 hu
      obtain ⟨p2, hp2, rfl⟩ := map_get hd
      have ne := apart_get _ _ _ _ hap hp hp2
      have kk : Kp [] H (upd H' T (.tup [x, u])) := Kp.trans (Kp.trans k1 kz) (Kp.trans k2 (Kp.new fT))
      obtain ⟨t, rfl, hT⟩ := dp_pair (dp_imm kk _ _ rfl hdp)
      obtain ⟨t2, rfl, hT2⟩ := dp_pair (dp_imm kk _ _ rfl hdq)
      have hy2 := rep_get hy
      subst hy2
      walk_at "gs"
      rw [decide_eq_false ne]
      exact q _ (Kp.new fT)
    intro D2 H2 fD2 k2 e2
    walk_at "gs"
    have eb2 : List.replicate (min xs.length xs.tail.length) (V.bl false) = (List.replicate (min xs.length xs.tail.length) false).map V.bl := by rw [List.map_replicate]
    rw [eb2] at e2
    refine i_any (SqL.of e2) ?_
    rw [any_false]
    walk_at "gs"
    have k02 : Kp [] H H2 := Kp.trans (Kp.trans k1 kz) k2
    refine i_mapL (k02.seqL not_nil hsq) ((ps.map (·.1)).map V.int) (by rw [List.length_map, List.length_map]; omega) (by omega) ?_ ?_
    · intro D i x y H' Q' fD hx hy k3 q
      obtain ⟨d, hd, hdp⟩ := dpa_getV hall hx
      obtain ⟨p, hp, rfl⟩ := map_get hd
      obtain ⟨t, rfl, hT⟩ := dp_pair (dp_imm (Kp.trans k02 k3) _ _ rfl hdp)
      rw [List.getElem?_map, List.getElem?_map, hp] at hy
      cases hy
      walk_at "gs"
      exact q H' Kp.refl
    intro D3 H3 fD3 k3 e3
    walk_at "gs"
    refine i_sum (SqL.of e3) ?_
    walk_at "gs"
    have es : (ps.map (·.1)).sum = n := hw
    rw [decide_eq_true es]
    exact k H3 (Kp.trans k02 k3)

/-! ### a memory -/
def mfs (n : Int) (l : Addr) : List (Str × V) := [("wide", .int n), ("pairs", .ref l)]
def MemAt (K : PySem.W.Frag) (C : Addr) (H : Hp) (m : Addr) (cs : List Int) : Prop :=
  ∃ dx l, H m = some (.ins C dx (mfs cs.length l)) ∧ LD K H l ((rle cs).map d2)
/-- b is not the list that m holds its runs in -/
def Off (H : Hp) (m b : Addr) : Prop := ∀ C dx n l, H m = some (.ins C dx (mfs n l)) → l ≠ b
theorem off_mk {H : Hp} {m b l C dx : Addr} {n : Int} (e : H m = some (.ins C dx (mfs n l))) (h : l ≠ b) : Off H m b := by
  intro C2 dx2 n2 l2 e2
  rw [e] at e2
  injection e2 with e2
  injection e2 with _ _ e3
  unfold mfs at e3
  injection e3 with _ e4
  injection e4 with e5 _
  injection e5 with _ e6
  injection e6 with e7
  rw [← e7]
  exact h
theorem off_kp {ws : List Addr} {H H' : Hp} {m b : Addr} (k : Kp ws H H') (t : Tr H m) (n : m ∉ ws) (h : Off H m b) : Off H' m b := by
  obtain ⟨o, e⟩ := t.ex
  intro C dx n2 l e2
  rw [k.at_ _ _ e n] at e2
  cases e2
  exact h _ _ _ _ e
/-- another thing that is written -/
def Oth (H : Hp) (m p : Addr) : Prop := (∃ i xs, H p = some (.lst (.int i :: xs))) ∨ (p ≠ m ∧ ∃ C dx fs, H p = some (.ins C dx fs)) ∨
  ((∃ xs, H p = some (.lst xs)) ∧ Off H m p)
section
variable {K : PySem.W.Frag} {C : Addr} {H H' : Hp} {m p l : Addr} {cs ds : List Int} {ws : List Addr} {o : HO}
theorem ld_ne_int {i : Int} {xs : List V} (h : LD K H l ((rle cs).map d2)) (e : H p = some (.lst (.int i :: xs))) : l ≠ p := by
  intro z
  obtain ⟨vs, q, a⟩ := h
  rw [z, e] at q
  cases q
  cases w : rle cs with
  | nil =>
    rw [w] at a
    cases a
  | cons x t =>
    rw [w] at a
    cases a
    rename_i a b
    cases a
theorem MemAt.kp (h : MemAt K C H m cs) (k : Kp ws H H') (n : ∀ p ∈ ws, Oth H m p) : MemAt K C H' m cs := by
  obtain ⟨dx, l, hm, ld⟩ := h
  refine ⟨dx, l, k.at_ _ _ hm ?_, LD.kp ld k (imms_d2 _) ?_⟩
  · intro z
    rcases n m z with ⟨i, xs, e⟩ | ⟨q, _⟩ | ⟨⟨xs, e⟩, _⟩
    · rw [hm] at e
      cases e
    · exact q rfl
    · rw [hm] at e
      cases e
  · intro z
    rcases n l z with ⟨i, xs, e⟩ | ⟨q, D, dy, fs, e⟩ | ⟨_, e⟩
    · exact ld_ne_int ld e rfl
    · obtain ⟨vs, e2, _⟩ := ld
      rw [e] at e2
      cases e2
    · exact e _ _ _ _ hm rfl
theorem mem_kp0 (h : MemAt K C H m cs) (k : Kp [] H H') : MemAt K C H' m cs := h.kp k fun p hp => nomatch hp
theorem mem_kp1 (h : MemAt K C H m cs) (k : Kp [p] H H') (n : Oth H m p) : MemAt K C H' m cs :=
  h.kp k fun q hq => by
    rw [List.mem_singleton.mp hq]
    exact n
theorem mem_upd (h : MemAt K C H m cs) (f : Fr H p) : MemAt K C (upd H p o) m cs := mem_kp0 h (Kp.new f)
theorem oth_pot (h : PotAt H p) : Oth H m p := by
  obtain ⟨x, y, e, _⟩ := h
  exact .inl ⟨_, _, e⟩
theorem oth_mem (h : MemAt K C H p ds) (n : p ≠ m) : Oth H m p := by
  obtain ⟨dx, l, e, _⟩ := h
  exact .inr (.inl ⟨n, _, _, _, e⟩)
theorem oth_lst {xs : List V} (h : H p = some (.lst xs)) (n : Off H m p) : Oth H m p := .inr (.inr ⟨⟨xs, h⟩, n⟩)
theorem tr_mem (h : MemAt K C H m cs) : Tr H m := by
  obtain ⟨dx, l, e, _⟩ := h
  exact ⟨_, e⟩
theorem pot_ne_mem (h : PotAt H p) (g : MemAt K C H m cs) : p ≠ m := by
  obtain ⟨x, y, e, _⟩ := h
  obtain ⟨dx, l, e2, _⟩ := g
  intro z
  rw [z, e2] at e
  cases e
theorem pot_kp_mem (h : PotAt H p) (g : MemAt K C H m cs) (k : Kp [m] H H') : PotAt H' p := h.kp k (not_one (pot_ne_mem h g))
end
theorem two_ne {H : Hp} {a b : Addr} {u v : HO} (h1 : H a = some u) (h2 : H b = some v) (n : u ≠ v) : a ≠ b := by
  intro z
  rw [z, h2] at h1
  cases h1
  exact n rfl
theorem one_few {p : Int × Int} : [p].length ≤ 10000 := by
  rw [List.length_singleton]
  decide
def sp_init (K : PySem.W.Frag) (C : Addr) : Sp := fun vs H Q _ => ∃ (m dx : Addr) (n v : Int), vs = [.ref m, .int n, .int v] ∧
  H m = some (.ins C dx []) ∧ (1 ≤ n ∧ n ≤ 1000000000000000000) ∧
  ∀ H', Kp [m] H H' → MemAt K C H' m (List.replicate n.toNat v) → (∀ b, Tr H b → Off H' m b) → Q .non H'
theorem rle_one {n v : Int} (h : 1 ≤ n) : rle (List.replicate n.toNat v) = [(n, v)] := by
  have e := rle_rep v [] (n.toNat - 1)
  have e2 : n.toNat - 1 + 1 = n.toNat := by omega
  rw [e2, List.append_nil] at e
  rw [e]
  show [(0 + (((n.toNat - 1 : Nat) : Int) + 1), v)] = _
  congr 2
  omega
theorem sc_Memory_init : FnScope ["self", "size", "number"] ["self", "size", "number"] (defScope s_Memory_init) :=
  ⟨rfl, rfl, rfl, by decide +kernel, rfl, by decide +kernel, by decide +kernel⟩
theorem ok_Memory_init {P : Program} {w : World} {K : PySem.W.Frag} {mg : Str → Option Value} {base : Heap} (T : Txt K mg) :
    FnG P w K mg base 5 T.a_Memory_init T.d_Memory_init ["self", "size", "number"] (sp_init K T.c_Memory) := by
  refine okD T.F_Memory_init sc_Memory_init (fun vs H Q E h => ?_) (fun cdv A outer s H vs Q E hr h => ?_)
  · first
      | (obtain ⟨_, rfl, _⟩ := h; rfl)
      | (obtain ⟨_, _, rfl, _⟩ := h; rfl)
      | (obtain ⟨_, _, _, rfl, _⟩ := h; rfl)
      | (obtain ⟨_, _, _, _, rfl, _⟩ := h; rfl)
      | (obtain ⟨_, _, _, _, _, rfl, _⟩ := h; rfl)
      | (obtain ⟨_, _, _, _, _, _, rfl, _⟩ := h; rfl)
      | (obtain ⟨_, _, _, _, _, _, _, rfl, _⟩ := h; rfl)
      | (obtain ⟨_, _, _, _, _, _, _, _, rfl, _⟩ := h; rfl)
      | (obtain ⟨_, _, _, _, _, _, _, _, _, rfl, _⟩ := h; rfl)
      | (obtain ⟨_, _, _, _, _, _, _, _, _, _, rfl, _⟩ := h; rfl)
      | (obtain ⟨_, _, _, _, _, _, _, _, _, _, _, rfl, _⟩ := h; rfl)
  · obtain ⟨m, dx, n, v, rfl, hm, z, k⟩ := h
    have cl_Memory := T.cl_Memory
    have na_Memory_pairs := T.na_Memory_pairs
    have na_Memory_wide := T.na_Memory_wide
    refine ⟨_, (pss_cons (ps_expr (d1 (ok_want_size T) (hr.mono (by decide)) (by rfl) T.m_want_size T.F_want_size.kp T.b_want_size passL (pa_cons (pv 1) pa_nil)))
      (pss_cons (ps_expr (d1 (ok_want_number T) (hr.mono (by decide)) (by rfl) T.m_want_number T.F_want_number.kp T.b_want_number passL (pa_cons (pv 2) pa_nil)))
      (pss_cons (k_sfld (K := K) rfl (pv 0) (pv 1) rfl)
      (pss_one (k_sfld (K := K) rfl (pv 0) (pe_lst (pa_cons (pe_tup (pa_cons (pv 1) (pa_cons (pv 2) pa_nil))) pa_nil)) rfl))))), ?_⟩
    dsimp only [cxOf, st_1, st_2, st_3, st_4, st_5, st_6, List.length_cons, List.length_nil, List.replicate_succ, List.replicate_zero, Nat.reduceAdd, Nat.reduceSub]
    walk_at "gs"
    refine ⟨n, rfl, z, ?_⟩
    walk_at "gs"
    refine ⟨v, rfl, ?_⟩
    walk_at "gs"
    refine i_new fun t ht => ?_
    walk_at "gs"
    refine i_new fun l hl => ?_
    have ntm : t ≠ m := by walk_at "g_ne"
    have nlm : l ≠ m := by walk_at "g_ne"
    have nlt : t ≠ l := by walk_at "g_ne"
    walk_at "gs"
    refine k _ (by walk_at "g_kp") ⟨dx, l, ?_, ?_⟩ (fun b hb => off_mk upd_same (Ne.symm (fr_tr (tr_upd (tr_upd hb)) hl)))
    · rw [List.length_replicate]
      have e : ((n.toNat : Nat) : Int) = n := by omega
      rw [e]
      exact upd_same
    · rw [rle_one z.1]
      have e1 := ntm
      refine ⟨_, ?_, dpa_one (dp_mk2 (a := t) (m := n) (n := v) (SqT.of ?_))⟩
      · refine upd_nn ?_ ?_
        · exact nlm
        · exact upd_same
      · refine upd_nn ?_ ?_
        · exact ntm
        · refine upd_nn ?_ ?_
          · exact nlt
          · exact upd_same
def sp_msize (K : PySem.W.Frag) (C : Addr) : Sp := fun vs H Q _ => ∃ (m : Addr) (cs : List Int), vs = [.ref m] ∧ MemAt K C H m cs ∧
  Q (.int cs.length) H
theorem sc_Memory_size : FnScope ["self"] ["self"] (defScope s_Memory_size) :=
  ⟨rfl, rfl, rfl, by decide +kernel, rfl, by decide +kernel, by decide +kernel⟩
theorem ok_Memory_size {P : Program} {w : World} {K : PySem.W.Frag} {mg : Str → Option Value} {base : Heap} (T : Txt K mg) :
    FnG P w K mg base 1 T.a_Memory_size T.d_Memory_size ["self"] (sp_msize K T.c_Memory) := by
  refine okD T.F_Memory_size sc_Memory_size (fun vs H Q E h => ?_) (fun cdv A outer s H vs Q E hr h => ?_)
  · first
      | (obtain ⟨_, rfl, _⟩ := h; rfl)
      | (obtain ⟨_, _, rfl, _⟩ := h; rfl)
      | (obtain ⟨_, _, _, rfl, _⟩ := h; rfl)
      | (obtain ⟨_, _, _, _, rfl, _⟩ := h; rfl)
      | (obtain ⟨_, _, _, _, _, rfl, _⟩ := h; rfl)
      | (obtain ⟨_, _, _, _, _, _, rfl, _⟩ := h; rfl)
      | (obtain ⟨_, _, _, _, _, _, _, rfl, _⟩ := h; rfl)
      | (obtain ⟨_, _, _, _, _, _, _, _, rfl, _⟩ := h; rfl)
      | (obtain ⟨_, _, _, _, _, _, _, _, _, rfl, _⟩ := h; rfl)
      | (obtain ⟨_, _, _, _, _, _, _, _, _, _, rfl, _⟩ := h; rfl)
      | (obtain ⟨_, _, _, _, _, _, _, _, _, _, _, rfl, _⟩ := h; rfl)
  · obtain ⟨m, cs, rfl, ⟨dx, l, hm, ld⟩, k⟩ := h
    have cl_Memory := T.cl_Memory
    have na_Memory_pairs := T.na_Memory_pairs
    have na_Memory_wide := T.na_Memory_wide
    refine ⟨_, (pss_one (ps_ret (k_fld (K := K) rfl (pv 0) rfl))), ?_⟩
    dsimp only [cxOf, st_1, st_2, st_3, st_4, st_5, st_6, List.length_cons, List.length_nil, List.replicate_succ, List.replicate_zero, Nat.reduceAdd, Nat.reduceSub]
    walk_at "gs"
    exact k
def sp_runs (K : PySem.W.Frag) (C : Addr) : Sp := fun vs H Q _ => ∃ (m : Addr) (cs : List Int), vs = [.ref m] ∧ MemAt K C H m cs ∧
  ∀ l H', Fr H l → Kp [] H H' → LD K H' l ((rle cs).map d2) → Q (.ref l) H'
theorem sc_Memory_runs : FnScope ["self"] ["self"] (defScope s_Memory_runs) :=
  ⟨rfl, rfl, rfl, by decide +kernel, rfl, by decide +kernel, by decide +kernel⟩
theorem ok_Memory_runs {P : Program} {w : World} {K : PySem.W.Frag} {mg : Str → Option Value} {base : Heap} (T : Txt K mg) :
    FnG P w K mg base 1 T.a_Memory_runs T.d_Memory_runs ["self"] (sp_runs K T.c_Memory) := by
  refine okD T.F_Memory_runs sc_Memory_runs (fun vs H Q E h => ?_) (fun cdv A outer s H vs Q E hr h => ?_)
  · first
      | (obtain ⟨_, rfl, _⟩ := h; rfl)
      | (obtain ⟨_, _, rfl, _⟩ := h; rfl)
      | (obtain ⟨_, _, _, rfl, _⟩ := h; rfl)
      | (obtain ⟨_, _, _, _, rfl, _⟩ := h; rfl)
      | (obtain ⟨_, _, _, _, _, rfl, _⟩ := h; rfl)
      | (obtain ⟨_, _, _, _, _, _, rfl, _⟩ := h; rfl)
      | (obtain ⟨_, _, _, _, _, _, _, rfl, _⟩ := h; rfl)
      | (obtain ⟨_, _, _, _, _, _, _, _, rfl, _⟩ := h; rfl)
      | (obtain ⟨_, _, _, _, _, _, _, _, _, rfl, _⟩ := h; rfl)
      | (obtain ⟨_, _, _, _, _, _, _, _, _, _, rfl, _⟩ := h; rfl)
      | (obtain ⟨_, _, _, _, _, _, _, _, _, _, _, rfl, _⟩ := h; rfl)
  · obtain ⟨m, cs, rfl, ⟨dx, l, hm, ld⟩, k⟩ := h
    obtain ⟨vs, hv, hall⟩ := id ld
    have cl_Memory := T.cl_Memory
    have na_Memory_pairs := T.na_Memory_pairs
    have na_Memory_wide := T.na_Memory_wide
    refine ⟨_, (pss_one (ps_ret (pe_callTy (k_list (K := K) rfl) (by rfl) T.n_list (by decide +kernel) (pa_cons (k_fld (K := K) rfl (pv 0) rfl) pa_nil)))), ?_⟩
    dsimp only [cxOf, st_1, st_2, st_3, st_4, st_5, st_6, List.length_cons, List.length_nil, List.replicate_succ, List.replicate_zero, Nat.reduceAdd, Nat.reduceSub]
    walk_at "gs"
    refine i_new fun q hq => ?_
    walk_at "gs"
    exact k q _ hq (Kp.new hq) ⟨_, upd_same, dpa_imm (Kp.new (ws := []) hq) _ _ (imms_d2 _) hall⟩
def sp_mat (K : PySem.W.Frag) (C : Addr) : Sp := fun vs H Q _ => ∃ (m : Addr) (c : Nat) (cs : List Int) (v : Int), vs = [.ref m, .int c] ∧
  MemAt K C H m cs ∧ (rle cs).length ≤ 10000 ∧ cs[c]? = some v ∧ ∀ H', Kp [] H H' → Q (.int v) H'
theorem sc_Memory_at : FnScope ["self", "cell"] ["self", "cell"] (defScope s_Memory_at) :=
  ⟨rfl, rfl, rfl, by decide +kernel, rfl, by decide +kernel, by decide +kernel⟩
theorem ok_Memory_at {P : Program} {w : World} {K : PySem.W.Frag} {mg : Str → Option Value} {base : Heap} (T : Txt K mg) :
    FnG P w K mg base 4 T.a_Memory_at T.d_Memory_at ["self", "cell"] (sp_mat K T.c_Memory) := by
  refine okD T.F_Memory_at sc_Memory_at (fun vs H Q E h => ?_) (fun cdv A outer s H vs Q E hr h => ?_)
  · first
      | (obtain ⟨_, rfl, _⟩ := h; rfl)
      | (obtain ⟨_, _, rfl, _⟩ := h; rfl)
      | (obtain ⟨_, _, _, rfl, _⟩ := h; rfl)
      | (obtain ⟨_, _, _, _, rfl, _⟩ := h; rfl)
      | (obtain ⟨_, _, _, _, _, rfl, _⟩ := h; rfl)
      | (obtain ⟨_, _, _, _, _, _, rfl, _⟩ := h; rfl)
      | (obtain ⟨_, _, _, _, _, _, _, rfl, _⟩ := h; rfl)
      | (obtain ⟨_, _, _, _, _, _, _, _, rfl, _⟩ := h; rfl)
      | (obtain ⟨_, _, _, _, _, _, _, _, _, rfl, _⟩ := h; rfl)
      | (obtain ⟨_, _, _, _, _, _, _, _, _, _, rfl, _⟩ := h; rfl)
      | (obtain ⟨_, _, _, _, _, _, _, _, _, _, _, rfl, _⟩ := h; rfl)
  · obtain ⟨m, c, cs, v, rfl, ⟨dx, l, hm, ld⟩, hn, hv, k⟩ := h
    have hc : c < cs.length := (List.getElem?_eq_some_iff.mp hv).1
    have cl_Memory := T.cl_Memory
    have na_Memory_pairs := T.na_Memory_pairs
    have na_Memory_wide := T.na_Memory_wide
    refine ⟨_, (pss_cons (ps_expr (d1 (ok_want_cell T) (hr.mono (by decide)) (by rfl) T.m_want_cell T.F_want_cell.kp T.b_want_cell passL (pa_cons (pv 1) (pa_cons (k_fld (K := K) rfl (pv 0) rfl) pa_nil))))
      (pss_one (ps_ret (pe_ix (k_ix (K := K) rfl) (pe_ix (k_ix (K := K) rfl) (d1 (ok_cut_out T) (hr.mono (by decide)) (by rfl) T.m_cut_out T.F_cut_out.kp T.b_cut_out passL (pa_cons (k_fld (K := K) rfl (pv 0) rfl) (pa_cons (pv 1) (pa_cons (pe_op (k_add (K := K) rfl) (pv 1) pe_int) pa_nil)))) pe_int (fun _ _ => rfl)) pe_int (fun _ _ => rfl))))), ?_⟩
    dsimp only [cxOf, st_1, st_2, st_3, st_4, st_5, st_6, List.length_cons, List.length_nil, List.replicate_succ, List.replicate_zero, Nat.reduceAdd, Nat.reduceSub]
    walk_at "gs"
    refine ⟨c, cs.length, rfl, by omega, ?_⟩
    walk_at "gs"
    refine ⟨l, c, c + 1, rle cs, rfl, ld.dp, by omega, fun f H1 hf k1 lf => ?_⟩
    rw [cut_at hv] at lf
    obtain ⟨us, hu, ha⟩ := lf
    cases ha
    rename_i x us hx hus
    cases hus
    obtain ⟨t, rfl, ht⟩ := dp_pair hx
    walk_at "gs"
    exact k H1 k1
def sp_lay (K : PySem.W.Frag) (C : Addr) : Sp := fun vs H Q _ => ∃ (m x : Addr) (b e : Int) (cs : List Int) (ps : List (Int × Int)),
  vs = [.ref m, .int b, .ref x, .int e] ∧ MemAt K C H m cs ∧ LD K H x (ps.map d2) ∧ (rle cs).length ≤ 10000 ∧ ps.length ≤ 10000 ∧
  (0 ≤ b ∧ b ≤ e ∧ e ≤ cs.length) ∧ (cells ps).length = (e - b).toNat ∧
  ∀ H', Kp [m] H H' → MemAt K C H' m (laid cs b.toNat (cells ps) e.toNat) → (∀ b, Tr H b → Off H' m b) → Q .non H'
theorem sc_Memory_lay : FnScope ["self", "begin", "pairs", "end", "ahead", "behind"] ["self", "begin", "pairs", "end"] (defScope s_Memory_lay) :=
  ⟨rfl, rfl, rfl, by decide +kernel, rfl, by decide +kernel, by decide +kernel⟩
theorem ok_Memory_lay {P : Program} {w : World} {K : PySem.W.Frag} {mg : Str → Option Value} {base : Heap} (T : Txt K mg) :
    FnG P w K mg base 2 T.a_Memory_lay T.d_Memory_lay ["self", "begin", "pairs", "end"] (sp_lay K T.c_Memory) := by
  refine okD T.F_Memory_lay sc_Memory_lay (fun vs H Q E h => ?_) (fun cdv A outer s H vs Q E hr h => ?_)
  · first
      | (obtain ⟨_, rfl, _⟩ := h; rfl)
      | (obtain ⟨_, _, rfl, _⟩ := h; rfl)
      | (obtain ⟨_, _, _, rfl, _⟩ := h; rfl)
      | (obtain ⟨_, _, _, _, rfl, _⟩ := h; rfl)
      | (obtain ⟨_, _, _, _, _, rfl, _⟩ := h; rfl)
      | (obtain ⟨_, _, _, _, _, _, rfl, _⟩ := h; rfl)
      | (obtain ⟨_, _, _, _, _, _, _, rfl, _⟩ := h; rfl)
      | (obtain ⟨_, _, _, _, _, _, _, _, rfl, _⟩ := h; rfl)
      | (obtain ⟨_, _, _, _, _, _, _, _, _, rfl, _⟩ := h; rfl)
      | (obtain ⟨_, _, _, _, _, _, _, _, _, _, rfl, _⟩ := h; rfl)
      | (obtain ⟨_, _, _, _, _, _, _, _, _, _, _, rfl, _⟩ := h; rfl)
  · obtain ⟨m, x, b, e, cs, ps, rfl, ⟨dx, l, hm, ld⟩, lx, hn, hp, hb, hlen, k⟩ := h
    have n1 := cut_len 0 b (rle cs)
    have n2 := cut_len e cs.length (rle cs)
    have cl_Memory := T.cl_Memory
    have na_Memory_pairs := T.na_Memory_pairs
    have na_Memory_wide := T.na_Memory_wide
    refine ⟨_, (pss_cons (ps_set (i := 4) sc_Memory_lay.nd rfl (Or.inl rfl) (d1 (ok_cut_out T) (hr.mono (by decide)) (by rfl) T.m_cut_out T.F_cut_out.kp T.b_cut_out passL (pa_cons (k_fld (K := K) rfl (pv 0) rfl) (pa_cons pe_int (pa_cons (pv 1) pa_nil)))))
      (pss_cons (ps_set (i := 5) sc_Memory_lay.nd rfl (Or.inl rfl) (d1 (ok_cut_out T) (hr.mono (by decide)) (by rfl) T.m_cut_out T.F_cut_out.kp T.b_cut_out passL (pa_cons (k_fld (K := K) rfl (pv 0) rfl) (pa_cons (pv 3) (pa_cons (k_fld (K := K) rfl (pv 0) rfl) pa_nil)))))
      (pss_one (k_sfld (K := K) rfl (pv 0) (d1 (ok_joined T) (hr.mono (by decide)) (by rfl) T.m_joined T.F_joined.kp T.b_joined passL (pa_cons (pe_op (k_add (K := K) rfl) (pe_op (k_add (K := K) rfl) (pv 4) (pv 2)) (pv 5)) pa_nil)) rfl)))), ?_⟩
    dsimp only [cxOf, st_1, st_2, st_3, st_4, st_5, st_6, List.length_cons, List.length_nil, List.replicate_succ, List.replicate_zero, Nat.reduceAdd, Nat.reduceSub]
    walk_at "gs"
    refine ⟨l, 0, b, rle cs, rfl, ld.dp, by omega, fun f H1 hf k1 lf => ?_⟩
    have ld1 : LD K H1 l ((rle cs).map d2) := by walk_at "g_ld"
    have lx1 : LD K H1 x (ps.map d2) := by walk_at "g_ld"
    walk_at "gs"
    refine ⟨l, e, cs.length, rle cs, rfl, ld1.dp, by omega, fun g H2 hg k2 lg => ?_⟩
    have lx2 : LD K H2 x (ps.map d2) := by walk_at "g_ld"
    have lf2 : LD K H2 f ((cut 0 b (rle cs)).map d2) := by walk_at "g_ld"
    obtain ⟨xv, hx, ax⟩ := lx2
    obtain ⟨fv, hfv, af⟩ := lf2
    obtain ⟨gv, hgv, ag⟩ := lg
    have lx3 := dpa_len ax
    have lf3 := dpa_len af
    have lg3 := dpa_len ag
    rw [List.length_map] at lx3 lf3 lg3
    walk_at "gs"
    refine i_new fun s hs => ?_
    walk_at "gs"
    refine i_new fun u hu => ?_
    walk_at "gs"
    have kk : Kp [] H2 (upd (upd H2 s (.lst (fv ++ xv))) u (.lst (fv ++ xv ++ gv))) := by walk_at "g_kp"
    refine ⟨u, cut 0 b (rle cs) ++ ps ++ cut e cs.length (rle cs), rfl, ?_, ?_, fun j H3 hj k3 lj => ?_⟩
    · refine LD.dp ⟨_, upd_same, ?_⟩
      rw [List.map_append, List.map_append]
      exact dpa_imm kk _ _ (by rw [← List.map_append, ← List.map_append]; exact imms_d2 _) (dpa_app (dpa_app af ax) ag)
    · rw [List.length_append, List.length_append]
      omega
    · rw [laid_rle] at lj
      walk_at "gs"
      refine k _ (by walk_at "g_kp") ⟨dx, j, ?_, ?_⟩ (fun b hb => off_mk upd_same (Ne.symm (fr_tr (tr_kp kk (tr_kp k2 (tr_kp k1 hb))) hj)))
      · rw [laid_len (by omega) (by omega) (by omega)]
        exact upd_same
      · walk_at "g_ld"

theorem i_made {C : Addr} {sp : Sp} {E : XK} {H : Hp} {Q : VK} {vs : Addr → List V}
    (h : ∀ x dx, Fr H x → Fr H dx → dx ≠ x → sp (vs x) (upd (upd H dx (.own x)) x (.ins C dx [])) (fun v H2 => v = .non ∧ Q (.ref x) H2) E) :
    Made C sp E H Q vs := fun x dx hx hd n => h x dx ⟨hx⟩ ⟨hd⟩ n
theorem kp_made {H H3 : Hp} {x dx : Addr} {o1 o2 : HO} (hx : Fr H x) (hd : Fr H dx) (k : Kp [x] (upd (upd H dx o1) x o2) H3) : Kp [] H H3 :=
  Kp.drop (Kp.trans (Kp.wide (Kp.upd (Kp.upd Kp.refl hd) hx)) k) hx
theorem wide_rle (cs : List Int) : wide (rle cs) = cs.length := by
  rw [← cells_len _ (rle_pos cs), cells_rle]
/-- a new memory -/
def NewMem (K : PySem.W.Frag) (C : Addr) (cs : List Int) (H : Hp) (Q : VK) : Prop :=
  ∀ m H', Fr H m → Kp [] H H' → MemAt K C H' m cs → (∀ b, Tr H b → Off H' m b) → Q (.ref m) H'
def sp_memory_of (K : PySem.W.Frag) (C : Addr) : Sp := fun vs H Q _ => ∃ (l : Addr) (cs : List Int), vs = [.ref l] ∧ Dp K H (.ref l) (.list ((rle cs).map d2)) ∧
  (1 ≤ cs.length ∧ cs.length ≤ 1000000000000000000) ∧ (rle cs).length ≤ 10000 ∧ NewMem K C cs H Q
theorem sc_memory_of : FnScope ["runs", "size", "found", "one", "many", "number"] ["runs"] (defScope s_memory_of) :=
  ⟨rfl, rfl, rfl, by decide +kernel, rfl, by decide +kernel, by decide +kernel⟩
theorem ok_memory_of {P : Program} {w : World} {K : PySem.W.Frag} {mg : Str → Option Value} {base : Heap} (T : Txt K mg) :
    FnG P w K mg base 7 T.a_memory_of T.d_memory_of ["runs"] (sp_memory_of K T.c_Memory) := by
  refine okD T.F_memory_of sc_memory_of (fun vs H Q E h => ?_) (fun cdv A outer s H vs Q E hr h => ?_)
  · first
      | (obtain ⟨_, rfl, _⟩ := h; rfl)
      | (obtain ⟨_, _, rfl, _⟩ := h; rfl)
      | (obtain ⟨_, _, _, rfl, _⟩ := h; rfl)
      | (obtain ⟨_, _, _, _, rfl, _⟩ := h; rfl)
      | (obtain ⟨_, _, _, _, _, rfl, _⟩ := h; rfl)
      | (obtain ⟨_, _, _, _, _, _, rfl, _⟩ := h; rfl)
      | (obtain ⟨_, _, _, _, _, _, _, rfl, _⟩ := h; rfl)
      | (obtain ⟨_, _, _, _, _, _, _, _, rfl, _⟩ := h; rfl)
      | (obtain ⟨_, _, _, _, _, _, _, _, _, rfl, _⟩ := h; rfl)
      | (obtain ⟨_, _, _, _, _, _, _, _, _, _, rfl, _⟩ := h; rfl)
      | (obtain ⟨_, _, _, _, _, _, _, _, _, _, _, rfl, _⟩ := h; rfl)
  · obtain ⟨l, cs, rfl, hD, hw, hn, k⟩ := h
    have hl := hD
    cases hl
    rename_i xs hsq hall
    have hxl := dpa_len hall
    rw [List.length_map] at hxl
    have cl_Memory := T.cl_Memory
    have na_Memory_pairs := T.na_Memory_pairs
    have na_Memory_wide := T.na_Memory_wide
    refine ⟨_, (pss_cons (ps_if (PW.pt (pw_or (pt_not (pt_val (pe_callB (k_isi (K := K) rfl) (by rfl) T.n_isinstance (by decide +kernel) (pa_cons (pv 0) (pa_cons (pe_bltn (v := .ty "list") (by rfl) T.n_list (by decide +kernel) rfl) pa_nil))))) (pw_or1 (pt_not (pt_val (pe_callB (k_all (K := K) rfl rfl) (by rfl) T.n_all (by decide +kernel) (pa_cons (pe_lc (own := [("one", 3)]) (g := (gName 3)) (tt := tYes) rfl sc_memory_of.nd (k_plist (K := K) rfl (pv 0)) (blkOk_by (own := [("one", 3)]) (N := ["runs", "size", "found", "one", "many", "number"]) (sc := defScope s_memory_of) (by decide +kernel)) (fun _ _ _ _ _ => (pg_name (i := 3) sc_memory_of.nd rfl (Or.inl rfl))) (fun _ _ _ _ _ => pts_nil) (fun _ _ _ _ _ => (d1 (ok_is_run T) (hr.mono (by decide)) (by rfl) T.m_is_run T.F_is_run.kp T.b_is_run passL (pa_cons (pv 3) pa_nil)))) pa_nil))))))) (pss_one ps_never) pss_nil)
      (pss_cons (ps_set (i := 1) sc_memory_of.nd rfl (Or.inl rfl) (pe_callB (k_sum (K := K) rfl rfl) (by rfl) T.n_sum (by decide +kernel) (pa_cons (pe_lc (own := [("many", 4), ("number", 5)]) (g := (gTup K 2 (gCons (gName 4) (gCons (gName 5) gNil)))) (tt := tYes) rfl sc_memory_of.nd (k_plist (K := K) rfl (pv 0)) (blkOk_by (own := [("many", 4), ("number", 5)]) (N := ["runs", "size", "found", "one", "many", "number"]) (sc := defScope s_memory_of) (by decide +kernel)) (fun _ _ _ _ _ => (k_gtup (K := K) 2 rfl rfl (pgs_cons (pg_name (i := 4) sc_memory_of.nd rfl (Or.inl rfl)) (pgs_cons (pg_name (i := 5) sc_memory_of.nd rfl (Or.inl rfl)) pgs_nil)))) (fun _ _ _ _ _ => pts_nil) (fun _ _ _ _ _ => (pv 4))) pa_nil)))
      (pss_cons (ps_if (PW.pt (pw_or (pt_not (pt_val (d1 (ok_is_size T) (hr.mono (by decide)) (by rfl) T.m_is_size T.F_is_size.kp T.b_is_size passL (pa_cons (pv 1) pa_nil)))) (pw_or1 (pt_not (pt_val (d1 (ok_are_runs T) (hr.mono (by decide)) (by rfl) T.m_are_runs T.F_are_runs.kp T.b_are_runs passL (pa_cons (pv 0) (pa_cons (pv 1) pa_nil)))))))) (pss_one ps_never) pss_nil)
      (pss_cons (ps_set (i := 2) sc_memory_of.nd rfl (Or.inl rfl) (mk1 T.mk_Memory (ok_Memory_init T) (hr.mono (by decide)) (by rfl) T.mg_Memory T.b_Memory_init passL (pa_cons (pv 1) pa_nil)))
      (pss_cons (ps_expr (dm T.cl_Memory T.me_Memory_lay (ok_Memory_lay T) (hr.mono (by decide)) T.b_Memory_lay passL (pv 2) (pa_cons pe_int (pa_cons (pe_callTy (k_list (K := K) rfl) (by rfl) T.n_list (by decide +kernel) (pa_cons (pv 0) pa_nil)) (pa_cons (pv 1) pa_nil)))))
      (pss_one (ps_ret (pv 2)))))))), ?_⟩
    dsimp only [cxOf, st_1, st_2, st_3, st_4, st_5, st_6, List.length_cons, List.length_nil, List.replicate_succ, List.replicate_zero, Nat.reduceAdd, Nat.reduceSub]
    walk_at "gs"
    refine i_isD hD (show kitB "list" "list" = some true by decide +kernel) ?_
    walk_at "gs"
    refine i_mapL hsq (List.replicate xs.length (.bl true)) (by rw [List.length_replicate]) (by omega) ?_ ?_
    · intro D i x y H' Q' fD hx hy k1 q
      obtain ⟨d, hd, hdp⟩ := dpa_getV hall hx
      obtain ⟨p, hp, rfl⟩ := map_get hd
      obtain ⟨t, rfl, hT⟩ := dp_pair (dp_imm k1 _ _ rfl hdp)
      have hy2 := rep_get hy
      subst hy2
      walk_at "gs"
      exact ⟨t, p.1, p.2, rfl, hT, rle_pos cs p (List.mem_of_getElem? hp), q H' Kp.refl⟩
    intro D1 H1 fD1 k1 e1
    walk_at "gs"
    have eb : List.replicate xs.length (V.bl true) = (List.replicate xs.length true).map V.bl := by rw [List.map_replicate]
    rw [eb] at e1
    refine i_all (SqL.of e1) ?_
    rw [all_true]
    walk_at "gs"
    refine i_mapL (k1.seqL not_nil hsq) (((rle cs).map (·.1)).map V.int) (by rw [List.length_map, List.length_map]; omega) (by omega) ?_ ?_
    · intro D i x y H' Q' fD hx hy k3 q
      obtain ⟨d, hd, hdp⟩ := dpa_getV hall hx
      obtain ⟨p, hp, rfl⟩ := map_get hd
      obtain ⟨t, rfl, hT⟩ := dp_pair (dp_imm (Kp.trans k1 k3) _ _ rfl hdp)
      rw [List.getElem?_map, List.getElem?_map, hp] at hy
      cases hy
      walk_at "gs"
      exact q H' Kp.refl
    intro D2 H2 fD2 k2 e2
    walk_at "gs"
    refine i_sum (SqL.of e2) ?_
    have es : ((rle cs).map (·.1)).sum = cs.length := wide_rle cs
    rw [es]
    have k02 := Kp.trans k1 k2
    have hD2 : Dp K H2 (.ref l) (.list ((rle cs).map d2)) := .lst (k02.seqL not_nil hsq) (dpa_imm k02 _ _ (imms_d2 _) hall)
    walk_at "gs"
    refine ⟨_, rfl, ?_⟩
    walk_at "gs"
    refine i_decN (fun z => absurd (by omega) z) (fun _ => ?_)
    walk_at "gs"
    refine ⟨l, rle cs, cs.length, rfl, hD2, rle_pos cs, apart_wr _, by omega, wide_rle cs, fun H3 k3 => ?_⟩
    walk_at "gs"
    refine i_made fun m d hm hd nd => ?_
    refine ⟨m, d, cs.length, 0, rfl, upd_same, by omega, fun H4 k4 M4 _ => ⟨rfl, ?_⟩⟩
    have k34 := kp_made hm hd k4
    have k04 : Kp [] H H4 := Kp.trans k02 (Kp.trans k3 k34)
    have hsq4 := k04.seqL not_nil hsq
    obtain ⟨dx, lm, hmi, ldm⟩ := id M4
    walk_at "gs"
    refine i_new fun x hx => ?_
    walk_at "gs"
    have kx : Kp [] H4 (upd H4 x (.lst xs)) := Kp.new hx
    have lx : LD K (upd H4 x (.lst xs)) x ((rle cs).map d2) := ⟨xs, upd_same, dpa_imm (Kp.trans k04 kx) _ _ (imms_d2 _) hall⟩
    rw [Int.toNat_natCast] at M4
    refine ⟨m, x, 0, cs.length, List.replicate cs.length 0, rle cs, rfl, mem_upd M4 hx, lx, ?_, hn, ?_, ?_, fun H5 k5 M5 of5 => ?_⟩
    · have e := rle_one (n := cs.length) (v := 0) (by omega)
      rw [Int.toNat_natCast] at e
      rw [e]
      exact one_few
    · rw [List.length_replicate]
      omega
    · rw [cells_rle]
      omega
    · have el : laid (List.replicate cs.length 0) 0 cs cs.length = cs := by
        unfold laid
        rw [List.take_zero, List.nil_append, List.drop_eq_nil_of_le (by rw [List.length_replicate]; omega), List.append_nil]
      rw [cells_rle, Int.toNat_natCast] at M5
      have el2 : laid (List.replicate cs.length 0) (0 : Int).toNat cs cs.length = cs := el
      rw [el2] at M5
      walk_at "gs"
      have hm0 : Fr H m := (Kp.trans k02 k3).free hm
      exact k m H5 hm0 (Kp.drop (Kp.trans (Kp.wide (Kp.trans k04 kx)) k5) hm0) M5 (fun b hb => of5 b (tr_kp (Kp.trans k04 kx) hb))
def sp_copied (K : PySem.W.Frag) (C : Addr) : Sp := fun vs H Q _ => ∃ (m0 : Addr) (cs : List Int), vs = [.ref m0] ∧ MemAt K C H m0 cs ∧
  (1 ≤ cs.length ∧ cs.length ≤ 1000000000000000000) ∧ (rle cs).length ≤ 10000 ∧ NewMem K C cs H Q
theorem sc_Memory_copied : FnScope ["self"] ["self"] (defScope s_Memory_copied) :=
  ⟨rfl, rfl, rfl, by decide +kernel, rfl, by decide +kernel, by decide +kernel⟩
theorem ok_Memory_copied {P : Program} {w : World} {K : PySem.W.Frag} {mg : Str → Option Value} {base : Heap} (T : Txt K mg) :
    FnG P w K mg base 8 T.a_Memory_copied T.d_Memory_copied ["self"] (sp_copied K T.c_Memory) := by
  refine okD T.F_Memory_copied sc_Memory_copied (fun vs H Q E h => ?_) (fun cdv A outer s H vs Q E hr h => ?_)
  · first
      | (obtain ⟨_, rfl, _⟩ := h; rfl)
      | (obtain ⟨_, _, rfl, _⟩ := h; rfl)
      | (obtain ⟨_, _, _, rfl, _⟩ := h; rfl)
      | (obtain ⟨_, _, _, _, rfl, _⟩ := h; rfl)
      | (obtain ⟨_, _, _, _, _, rfl, _⟩ := h; rfl)
      | (obtain ⟨_, _, _, _, _, _, rfl, _⟩ := h; rfl)
      | (obtain ⟨_, _, _, _, _, _, _, rfl, _⟩ := h; rfl)
      | (obtain ⟨_, _, _, _, _, _, _, _, rfl, _⟩ := h; rfl)
      | (obtain ⟨_, _, _, _, _, _, _, _, _, rfl, _⟩ := h; rfl)
      | (obtain ⟨_, _, _, _, _, _, _, _, _, _, rfl, _⟩ := h; rfl)
      | (obtain ⟨_, _, _, _, _, _, _, _, _, _, _, rfl, _⟩ := h; rfl)
  · obtain ⟨m0, cs, rfl, ⟨dx, l, hm, ld⟩, hw, hn, k⟩ := h
    have cl_Memory := T.cl_Memory
    have na_Memory_pairs := T.na_Memory_pairs
    have na_Memory_wide := T.na_Memory_wide
    refine ⟨_, (pss_one (ps_ret (d1 (ok_memory_of T) (hr.mono (by decide)) (by rfl) T.m_memory_of T.F_memory_of.kp T.b_memory_of passL (pa_cons (k_fld (K := K) rfl (pv 0) rfl) pa_nil)))), ?_⟩
    dsimp only [cxOf, st_1, st_2, st_3, st_4, st_5, st_6, List.length_cons, List.length_nil, List.replicate_succ, List.replicate_zero, Nat.reduceAdd, Nat.reduceSub]
    walk_at "gs"
    exact ⟨l, cs, rfl, ld.dp, hw, hn, k⟩

/-! ### dicts of numbers, each True; sorted -/
theorem u1 {n : Nat} (h : n + 64 < cLine) : n + 1 < cLine := Nat.lt_of_le_of_lt (Nat.add_le_add_left (by decide) n) h
theorem k_sorted {X : Cx} {K : PySem.W.Frag} (h : X.K = K) : CallR X (.builtin "sorted") (rSortedI K) := h ▸ cr_sortedI
def rListD : List V → Hp → VK → Prop := fun xs H Q => ∃ (a : Addr) (kvs : List (Key × V)), xs = [.ref a] ∧ Rd H a (.dK kvs) ∧
  ∀ p, H p = none → Q (.ref p) (upd H p (.lst (kvs.map fun kv => kV kv.1)))
theorem k_listD {X : Cx} (h : X.calm = true) : CallR X (.type "list") rListD := call_listD h
def kT (n : Int) : Key × V := (.inl n, .bl true)
def addK (ns : List Int) (n : Int) : List Int := if n ∈ ns then ns else ns ++ [n]
theorem put_kT (ns : List Int) (n : Int) : putK (ns.map kT) (.inl n) (.bl true) = (addK ns n).map kT := by
  unfold putK addK
  have e1 : ((ns.map kT).any fun kv => decide (kv.1 = Sum.inl n)) = decide (n ∈ ns) := by
    induction ns with
    | nil => rfl
    | cons m ns ih =>
      rw [List.map_cons, List.any_cons, ih]
      by_cases c : m = n
      · subst c
        simp [kT]
      · have c2 : ¬ n = m := fun z => c z.symm
        simp [kT, c, c2]
  rw [e1]
  by_cases c : n ∈ ns
  · rw [if_pos (decide_eq_true c), if_pos c, List.map_map]
    refine List.map_congr_left fun m _ => ?_
    show (if (kT m).1 = Sum.inl n then ((kT m).1, V.bl true) else kT m) = kT m
    split <;> rfl
  · rw [if_neg (by simp [c]), if_neg c, List.map_append]
    rfl
theorem addK_len (ns : List Int) (n : Int) : (addK ns n).length ≤ ns.length + 1 := by
  unfold addK
  split
  · omega
  · simp
theorem foldK_len : ∀ (ms ns : List Int), (ms.foldl addK ns).length ≤ ns.length + ms.length
  | [], ns => Nat.le_refl _
  | m :: ms, ns => by
    have h := foldK_len ms (addK ns m)
    have h2 := addK_len ns m
    rw [List.foldl_cons, List.length_cons]
    omega
theorem mem_addK {ns : List Int} {n x : Int} : x ∈ addK ns n ↔ x ∈ ns ∨ x = n := by
  unfold addK
  by_cases c : n ∈ ns
  · rw [if_pos c]
    refine ⟨.inl, fun h => h.elim id fun e => by rw [e]; exact c⟩
  · rw [if_neg c, List.mem_append, List.mem_singleton]
theorem mem_foldK {x : Int} : ∀ (ms ns : List Int), x ∈ ms.foldl addK ns ↔ x ∈ ns ∨ x ∈ ms
  | [], ns => by simp
  | m :: ms, ns => by
    rw [List.foldl_cons, mem_foldK ms, mem_addK, List.mem_cons]
    constructor
    · rintro ((h | h) | h)
      · exact .inl h
      · exact .inr (.inl h)
      · exact .inr (.inr h)
    · rintro (h | h | h)
      · exact .inl (.inl h)
      · exact .inl (.inr h)
      · exact .inr h
theorem addK_nd {ns : List Int} {n : Int} (h : ns.Nodup) : (addK ns n).Nodup := by
  unfold addK
  by_cases c : n ∈ ns
  · rw [if_pos c]
    exact h
  · rw [if_neg c]
    refine List.nodup_append.mpr ⟨h, by simp, fun a ha b hb e => ?_⟩
    rw [List.mem_singleton.mp hb] at e
    rw [e] at ha
    exact c ha
theorem foldK_nd : ∀ (ms ns : List Int), ns.Nodup → (ms.foldl addK ns).Nodup
  | [], _, h => h
  | m :: ms, ns, h => foldK_nd ms _ (addK_nd h)
section
variable {K : PySem.W.Frag} {H : Hp} {Q : VK} {a l b : Addr} {ns : List Int} {n : Int} {σ : L2.St} {xs ys : List V} {P : Hp → Prop}
theorem i_sorted (h : SqL K H a (ns.map V.int)) (q : ∀ (ns' : List Int) (p : Addr), ns'.Perm ns → ns'.Pairwise (· ≤ ·) → Fr H p → Q (.ref p) (upd H p (.lst (ns'.map V.int)))) :
    rSortedI K [.ref a] H Q := ⟨a, ns, rfl, h, fun ns' p h1 h2 h3 => q ns' p h1 h2 ⟨h3⟩⟩
theorem i_listD (h : H a = some (.dK (ns.map kT))) (q : New H fun p => Q (.ref p) (upd H p (.lst (ns.map V.int)))) : rListD [.ref a] H Q := by
  refine ⟨a, _, rfl, Rd.of h, fun p hp => ?_⟩
  have e : ((ns.map kT).map fun kv => kV kv.1) = ns.map V.int := by
    rw [List.map_map]
    rfl
  rw [e]
  exact q p hp
theorem i_setD (h : H a = some (.dK (ns.map kT))) (hl : ns.length ≤ 1000000) (q : P (upd H a (.dK ((addK ns n).map kT)))) :
    rSetD (.ref a) (.int n) (.bl true) H P := by
  refine ⟨a, _, rfl, DPut.k (k := .inl n) h (by rw [List.length_map]; exact small_sz hl), ?_⟩
  rw [put_kT]
  exact q
theorem i_dict0 (q : New H fun p => Q (.ref p) (upd (upd H p (.dK [])) p (.dK ([(0 : Int)].map kT)))) : tDisp [(tC (.int 0), tC (.bl true))] σ H Q :=
  fun p hp => ⟨upd_same, [kT 0], rfl, by decide, q p hp⟩
theorem i_extend (h1 : H l = some (.lst xs)) (h2 : H b = some (.lst ys)) (hz : xs.length + ys.length ≤ 1000000) (q : Q .non (upd H l (.lst (xs ++ ys)))) :
    rExtend (.ref l) [.ref b] H Q := ⟨l, b, xs, ys, rfl, rfl, h1, h2, Nat.le_trans hz (by decide), q⟩
end
section
variable {σ : L2.St} {H H1 : Hp} {Q : VK} {d : Addr} {g : TG} {tt : TT} {te td : TE} {vs : List Nat} {o : Obj} {ns : List Int}
def LcB (J : It) (g : TG) (tt : TT) (te : TE) (vs : List Nat) (σ : L2.St) (H1 : Hp) (Q : VK) : Prop := ∀ D, H1 D = none →
    ∃ W : Nat → Nat → Hp → Prop, (∃ m, W 0 m (upd H1 D (.lst []))) ∧ ∀ i m H, W i m H →
      (J.stop i H ∧ Q (.ref D) H) ∨ (J.go i H ∧ ∃ Nx : Hp → Prop,
        (∀ H', Nx H' → ∃ m', m' < m ∧ W (i + 1) m' H') ∧
        ∀ x H', J.yld i H x H' → g x (wipe σ vs) H' fun σ2 H2 => wipe σ2 vs = wipe σ vs ∧ tt σ2 H2 fun b H3 =>
          if b = true then te σ2 H3 fun y H4 => ∃ acc, H4 D = some (.lst acc) ∧ acc.length < sizeLine ∧
            Nx (upd H4 D (.lst (acc ++ [y]))) else Nx H3)
def LcK (x : V) (g : TG) (tt : TT) (te : TE) (vs : List Nat) (σ : L2.St) (H1 : Hp) (Q : VK) : Prop := ∃ d o, x = .ref d ∧
  ((∃ kvs, H1 d = some (.frz o (.dK kvs)) ∧ LcB (Itk d o kvs) g tt te vs σ H1 Q) ∨ ∃ kvs, H1 d = some (.frz o (.dT kvs)) ∧ LcB (Itkt d o kvs) g tt te vs σ H1 Q)
theorem i_lcK (h : td σ H fun x H1 => LcK x g tt te vs σ H1 Q) : tLc (iKeys td) g tt te vs σ H Q := h
theorem i_keyz (hd : H d = some (.frz o (.dK (ns.map kT)))) (Pv : Addr → Nat → Hp → Prop)
    (h0 : ∀ R, Fr H R → Pv R 0 (upd H R (.lst [])))
    (hl : ∀ R i H', Fr H R → Pv R i H' → H' d = some (.frz o (.dK (ns.map kT))))
    (st : ∀ R i n H', Fr H R → ns[i]? = some n → Pv R i H' → g (.int n) (wipe σ vs) H' fun σ2 H2 =>
      wipe σ2 vs = wipe σ vs ∧ tt σ2 H2 fun b H3 => if b = true then te σ2 H3 fun y H4 =>
        ∃ acc, H4 R = some (.lst acc) ∧ acc.length < sizeLine ∧ Pv R (i + 1) (upd H4 R (.lst (acc ++ [y])))
        else Pv R (i + 1) H3)
    (hdn : ∀ R H', Fr H R → Pv R ns.length H' → Q (.ref R) H') : LcK (.ref d) g tt te vs σ H Q := by
  refine ⟨d, o, rfl, .inl ⟨_, hd, fun R hR => ⟨fun i m H' => m = ns.length - i ∧ i ≤ ns.length ∧ Pv R i H', ⟨_, rfl, Nat.zero_le _, h0 R ⟨hR⟩⟩, ?_⟩⟩⟩
  rintro i m H' ⟨rfl, hi, z⟩
  have q := hl R i H' ⟨hR⟩ z
  by_cases c : i < ns.length
  · refine .inr ⟨⟨q, by rw [List.length_map]; exact c⟩, Pv R (i + 1), fun H2 w => ⟨_, by omega, rfl, c, w⟩, ?_⟩
    rintro x H2 ⟨rfl, k, v, e, rfl⟩
    obtain ⟨n, hn, e2⟩ := map_get e
    cases e2
    exact st R i n _ ⟨hR⟩ hn z
  · have e : i = ns.length := by omega
    exact .inl ⟨⟨q, by rw [List.length_map]; omega⟩, hdn R H' ⟨hR⟩ (by rw [← e]; exact z)⟩
end

/-! ### len(o) by the text's own method -/
section
variable {X : Cx} {K : PySem.W.Frag} {k : Nat} {C f : Addr} {fd : FuncData} {ps : List Str} {sp : Sp} {E : XK}
theorem run_in {A : Around} {pins : List (Addr × Obj)} {σ : L2.St} {H : Hp} {s : Shared} {Q : VK} {vs : List V} {us : List Value}
    (F : Fg X k f fd ps sp) (z : RoomG k A) (hA : A.frames = X.A.frames) (hb : BindsD X.K fd ps []) (hx : Ps X E)
    (I : Inv X pins σ H s) (r : Vals vs us) (h : sp vs H Q E) :
    wpAny (model X.prog X.w) A (call (.ref f) us) (EP X pins σ Q) X.xe s := by
  obtain ⟨ds, hd, hb⟩ := hb
  cases hd
  have e := I.env0
  have e0 : Env0 X.prog X.w X.K X.mg X.base A X.stack s H :=
    ⟨by rw [hA]; exact e.frames, e.mod, e.bs, e.bsz, e.funs, e.frf, e.hok, e.bare⟩
  have hl : (us ++ []).length = ps.length := by
    rw [List.append_nil, ← r.length]
    exact F.len _ _ _ _ h
  have b := hb s us I.kIn hl
  rw [List.append_nil] at b
  refine wpAny_call (codeAny_mono (F.run A X.stack s H ⟨us, []⟩ us vs Q E z e0 b r h) ?_)
  intro q s' hq
  match q, hq with
  | .error e, hq => exact hx pins σ H s e s' I hq
  | .ok (.ret u), hq => exact I.after hq
  | .ok .next, hq => exact False.elim hq
  | .ok .brk, hq => exact False.elim hq
  | .ok .cont, hq => exact False.elim hq
theorem RoomG.in1 {k : Nat} {A : Around} (z : RoomG (k + 1) A) : RoomG k A.in1 := ⟨z.r.in1, z.g⟩
end

/-! ### ==, != by the text's own __eq__ -/
section
open PySem.Calls PyProof.Rows
theorem ne_entry : entryFor table "object.__ne__" = some Builtin.«object.__ne__» := PySem.F.cmpEntry_ne
theorem ne_bind (self : Value) : bindSpecial (.builtin "object.__ne__") self = pure (.builtin "object.__ne__", [self]) :=
  (Slot.of (T := "object") (name := "__ne__") (owner := "object") (n := "__ne__") (by rw [typeLookup_type, builtinLookup_eq_fast]; kernel_rfl) (by decide +kernel) (by decide +kernel) (by decide +kernel)
    (.inl (by decide +kernel)) (by rw [isSubtype_type]; kernel_rfl)).bind self
section
open PySem.W
variable {prog : Program} {w : World} {A : Around} {E : Value → Shared → Prop} {s : Shared} {K : PySem.W.Frag} {x C L f : Addr} {h₀ : Heap} {m : Str → Option Value} {ox : Obj} {od : Option Obj} {b tb : Value}
/-- the wrapper that stands in object's class, found for an instance of C and bound to it -/
theorem ne_bound {M : Model} {Q : Option (Value × List Value) → Shared → Prop} (inn : K.In s.heap) (J : InstAt s.heap x ox C od)
    (at_ : findIn K (.ref C) "__ne__" = some (some (.builtin "object.__ne__"))) (q : Q (some (.builtin "object.__ne__", [.ref x])) s) :
    wpAny M A (bindSpecialIfBound? (.ref x) "__ne__") Q E s := by
  have step : ∀ {P : Option (Value × List Value) → Shared → Prop}, P (some (.builtin "object.__ne__", [.ref x])) s →
      wpAny M A (bindSpecial (.builtin "object.__ne__") (.ref x) >>= fun r => pure (some r)) P E s := fun {P} r => by
    rw [ne_bind]
    exact wpAny_bind (wpAny_pure (wpAny_pure r))
  unfold bindSpecialIfBound?
  apply wpAny_bind
  apply wpAny_bind
  refine J.type.here ((looks_findIn inn at_).here ?_)
  apply wpAny_bind
  refine wpAny_askSetting ?_
  by_cases c : (⟨M.prog, M.w.params⟩ : Setting).params.followText "special-get-raises" = true
  · rw [if_pos c]
    exact step q
  · rw [if_neg c]
    exact wpAny_tryCatch (step q)
def NeB (Q : Value → Shared → Prop) (v : Value) (s' : Shared) : Prop := ∃ t, v = .bool t ∧ Q (.bool (!t)) s'
/-- object.__ne__ asks the text's own __eq__ and turns it about -/
theorem ne_asked {P : Fin → Shared → Prop} (room : A.units < cLine) (inn : K.In s.heap) (J : InstAt s.heap x ox C od)
    (eq_ : findIn K (.ref C) "__eq__" = some (some (.ref f))) (fn_ : isFn K (.ref f) = true)
    (h : wpAny (model prog w) A (call (.ref f) [.ref x, b]) (fun v s' => ∃ t, v = .bool t ∧ P (.done (.ret (.bool (!t)))) s') E s) :
    wpAny (model prog w) A (Builtin.«object.__ne__» ⟨[.ref x, b], []⟩) P E s := by
  unfold Builtin.«object.__ne__»
  apply wpAny_bind
  apply wpAny_pure
  apply wpAny_bind
  refine wpAny_cRoomFor room (wpAny_bind (ifBound_K inn J eq_ fn_ (wpAny_mono h ?_ fun _ _ z => z)))
  rintro v s' ⟨t, rfl, r⟩
  apply wpAny_bind
  exact wpAny_truthy_bool (wpAny_pure r)
theorem ne_K {Q : Value → Shared → Prop} (room : A.units + 1 < cLine) (frame : PyProof.Rows.Fr h₀ L s.heap m) (inn₀ : K.In h₀) (J : InstAt s.heap x ox C od)
    (tyb : Looks (model prog w) s.heap (typeOf b) tb) (nf : notFirst K C tb = true) (at_ : findIn K (.ref C) "__ne__" = some (some (.builtin "object.__ne__")))
    (eq_ : findIn K (.ref C) "__eq__" = some (some (.ref f))) (fn_ : isFn K (.ref f) = true) (ob : mroIn K C (.type "object") = some true)
    (h : wpAny (model prog w) A.in1 (call (.ref f) [.ref x, b]) (NeB Q) E s) : wpAny (model prog w) A (richCompare .NotEq (.ref x) b) Q E s := by
  have inn := inn₀.keeps frame.keep
  have is_ob : Looks (model prog w) s.heap (isInstance (.ref x) (.type "object")) true := J.type.andThen (looks_subIn inn ob)
  have told : wpAny (model prog w) A (tryCompare (.ref x) "__ne__" b) (fun r s' => ∃ v, r = some v ∧ Q v s') E s := by
    unfold tryCompare callSpecialIfBound?
    refine wpAny_bind (wpAny_holding (wpAny_bind (ne_bound inn J at_ ?_)))
    refine wpAny_bind (wpAny_call (codeAny_call_builtin (by decide +kernel) ne_entry
      (check_slot (M := model prog w) (owner := "object") (n := "__ne__") (by decide +kernel) (by decide +kernel) is_ob (PySem.F.cmpArgs_ne _ _) ?_)))
    refine ne_asked (A := A.in1) room inn J eq_ fn_ (wpAny_mono h ?_ fun _ _ z => z)
    rintro v s' ⟨t, rfl, r⟩
    exact ⟨t, rfl, wpAny_pure (wpAny_pure ⟨_, rfl, r⟩)⟩
  unfold richCompare
  simp only [oneThing_ref]
  refine wpAny_holding (wpAny_bind (wpAny_cRoomFor (Nat.lt_of_succ_lt room) ?_))
  apply wpAny_bind
  refine J.type.here ?_
  apply wpAny_bind
  refine tyb.here ?_
  split
  · rename_i e
    have le : subIn K tb (.ref C) = some false := by
      unfold notFirst at nf
      rw [Bool.or_eq_true] at nf
      rcases nf with z | z
      · rw [beq_iff_eq.mp z] at e
        simp at e
      · exact beq_iff_eq.mp z
    apply wpAny_bind
    refine (looks_subIn inn le).here ?_
    rw [if_neg Bool.false_ne_true]
    apply wpAny_bind
    refine wpAny_mono told ?_ fun _ _ z => z
    rintro r s' ⟨v, rfl, z⟩
    exact wpAny_pure z
  · apply wpAny_bind
    apply wpAny_pure
    rw [if_neg Bool.false_ne_true]
    apply wpAny_bind
    refine wpAny_mono told ?_ fun _ _ z => z
    rintro r s' ⟨v, rfl, z⟩
    exact wpAny_pure z
end
end
section
variable {X : Cx} {K : PySem.W.Frag} {k : Nat} {C f : Addr} {fd : FuncData} {ps : List Str} {sp : Sp} {E : XK}
/-- the types of values that are no instances of the class at C -/
def Other (K : PySem.W.Frag) (C : Addr) (t : Value) : Prop := PySem.W.kitOne K t (.ref C) = some false ∧ PySem.W.notFirst K C t = true
def rCmpM (K : PySem.W.Frag) (C : Addr) (sp : Sp) (E : XK) (g : Bool → Bool) : R2 := fun x y H Q => ∃ (a dx : Addr) (fs : List (Str × V)) (t : Value), x = .ref a ∧ H a = some (.ins C dx fs) ∧
  TyX K H y t ∧ PySem.W.notFirst K C t = true ∧ sp [x, y] H (fun v H' => ∃ b, v = .bl b ∧ Q (.bl (g b)) H') E
theorem k_eqM (h : X.K = K) (hm : Meth X.K C "__eq__" f) (F : Fg X k f fd ps sp) (z : RoomG k X.A) (hb : BindsD X.K fd ps []) (hx : Ps X E) :
    OpR X (compareOp .Eq) (rCmpM K C sp E id) := by
  subst h
  intro pins s σ H x y v u Q I rx ry h
  obtain ⟨a, dx, fs, t, rfl, ha, ty, nf, hsp⟩ := h
  cases rx
  obtain ⟨mA, J, _⟩ := ins_get I.hok ha
  obtain ⟨od, J, _⟩ := J.look
  obtain ⟨m, hF⟩ := I.fr
  obtain ⟨P, KX, hP, _⟩ := kit_of I ry ty
  unfold compareOp
  refine PySem.W.cmp_K (op := .Eq) (tb := t) z.r.units0 hF I.ok.mod.kin J (KX.ty _ _ I.kIn hP) nf hm.at_ hm.fn ?_
  have r0 : Vals [V.ref a, y] [Value.ref a, u] := .cons rfl (.cons ry .nil)
  refine wpAny_mono (run_in F z rfl hb hx I r0 hsp) ?_ (fun e s' q => q)
  rintro u s' ⟨v, H', I', rv, b, rfl, q⟩
  cases rv
  exact ⟨.bl b, H', I', rfl, q⟩
theorem k_neM (h : X.K = K) (hm : Meth X.K C "__eq__" f) (hne : PySem.W.findIn X.K (.ref C) "__ne__" = some (some (.builtin "object.__ne__")))
    (ho : PySem.W.mroIn X.K C (.type "object") = some true) (F : Fg X k f fd ps sp) (z : RoomG (k + 1) X.A) (hb : BindsD X.K fd ps []) (hx : Ps X E) :
    OpR X (compareOp .NotEq) (rCmpM K C sp E not) := by
  subst h
  intro pins s σ H x y v u Q I rx ry h
  obtain ⟨a, dx, fs, t, rfl, ha, ty, nf, hsp⟩ := h
  cases rx
  obtain ⟨mA, J, _⟩ := ins_get I.hok ha
  obtain ⟨od, J, _⟩ := J.look
  obtain ⟨m, hF⟩ := I.fr
  obtain ⟨P, KX, hP, _⟩ := kit_of I ry ty
  unfold compareOp
  refine ne_K (tb := t) (u1 z.r.units) hF I.ok.mod.kin J (KX.ty _ _ I.kIn hP) nf hne hm.at_ hm.fn ho ?_
  have r0 : Vals [V.ref a, y] [Value.ref a, u] := .cons rfl (.cons ry .nil)
  refine wpAny_mono (run_in F (RoomG.in1 z) rfl hb hx I r0 hsp) ?_ (fun e s' q => q)
  rintro u s' ⟨v, H', I', rv, b, rfl, q⟩
  cases rv
  exact ⟨b, rfl, .bl (!b), H', I', rfl, q⟩
def rReprM (C : Addr) (sp : Sp) (E : XK) : List V → Hp → VK → Prop := fun xs H Q => ∃ (a dx : Addr) (fs : List (Str × V)), xs = [.ref a] ∧ H a = some (.ins C dx fs) ∧
  sp [.ref a] H (fun v H' => ∃ t : Str, v = .str t ∧ Q (.str t) H') E
theorem k_reprM (h : X.K = K) (hm : Meth X.K C "__repr__" f) (F : Fg X k f fd ps sp) (z : RoomG (k + 1) X.A) (hb : BindsD X.K fd ps []) (hx : Ps X E) :
    CallR X (.builtin "repr") (rReprM C sp E) := by
  intro pins s σ H xs us Q I r h
  obtain ⟨a, dx, fs, rfl, ha, hsp⟩ := h
  obtain ⟨u, rfl, rx⟩ := vals1 r
  cases rx
  obtain ⟨mA, J, _⟩ := ins_get I.hok ha
  obtain ⟨od, J, _⟩ := J.look
  obtain ⟨m, hF⟩ := I.fr
  refine PySem.W.repr_K (RoomG.in1 z).r.units0 hF I.ok.mod.kin J hm.at_ hm.fn ?_
  have r0 : Vals [V.ref a] [Value.ref a] := .cons rfl .nil
  refine wpAny_mono (run_in F (RoomG.in1 z) rfl hb hx I r0 hsp) ?_ (fun e s' q => q)
  rintro u s' ⟨v, H', I', rv, n, rfl, q⟩
  obtain ⟨t, rfl⟩ := rv
  exact ⟨.str n, H', I', ⟨_, rfl⟩, q⟩
theorem i_cmpM {H : Hp} {Q : VK} {g : Bool → Bool} {y : V} {a dx : Addr} {fs : List (Str × V)} {t : Value} (ha : H a = some (.ins C dx fs)) (ty : TyX K H y t) (nf : PySem.W.notFirst K C t = true)
    (h : sp [.ref a, y] H (fun v H' => ∃ b, v = .bl b ∧ Q (.bl (g b)) H') E) : rCmpM K C sp E g (.ref a) y H Q := ⟨a, dx, fs, t, rfl, ha, ty, nf, h⟩
theorem i_reprM {H : Hp} {Q : VK} {a dx : Addr} {fs : List (Str × V)} (ha : H a = some (.ins C dx fs))
    (h : sp [.ref a] H (fun v H' => ∃ t : Str, v = .str t ∧ Q (.str t) H') E) : rReprM C sp E [.ref a] H Q := ⟨a, dx, fs, rfl, ha, h⟩
/-- {x!r}, x data that is a list -/
def tFmtD (K : PySem.W.Frag) (te : TE) : TE := fun σ H Q => te σ H fun x H1 => ∃ (a : Addr) (d : PyData), x = .ref a ∧ Dp K H1 x d ∧ shw d = true ∧ d.depth ≤ 60 ∧ cw d ≤ sizeLine ∧ Q (.str d.shown) H1
theorem k_fmtD {e : Expr} {te : TE} {pos : Pos} (h : X.K = K) (hg : X.A.guards = some []) (hu : X.A.units + 64 < cLine) (he : PE X e te) : PE X (.FormattedValue e 114 none pos) (tFmtD K te) := by
  subst h
  refine ⟨fun pins s σ H Q I h => ?_⟩
  refine wpAny_FormattedValue_repr (thn (he.run pins s σ H _ I h) fun v s1 hv => ?_)
  obtain ⟨x, H1, I1, r1, a, d, rfl, hd, hs, hdp, hz, q⟩ := hv
  obtain ⟨hs1, hs2⟩ := shw_showable d hs
  have hz2 := Nat.le_trans (shown_len d hs) hz
  cases r1
  obtain ⟨as, hr⟩ := Dp.reads I1 d _ _ hd rfl
  refine pyReprObj_of_reads hr hs1 (fun y => by rw [hs2] at y; cases y) hg (by omega) (fun _ _ e => e) (fun h' u tk hk => ?_) hz2
  have I2 := I1.kept (t' := tk) hk
  exact wpAny_formatField_str ⟨.str _, H1, I2, ⟨_, rfl⟩, q⟩ ⟨.str _, H1, I2.tok _, ⟨_, rfl⟩, q⟩ hz2
end

theorem laid_get {cs xs : List Int} {b e x : Nat} (h : b ≤ e) (he : e ≤ cs.length) (hx : xs.length = e - b) :
    (laid cs b xs e)[x]? = if b ≤ x ∧ x < e then xs[x - b]? else cs[x]? := by
  unfold laid
  have l1 : (cs.take b).length = b := by rw [List.length_take]; omega
  by_cases c1 : x < b
  · rw [if_neg (by omega), List.append_assoc, List.getElem?_append_left (by omega), List.getElem?_take, if_pos c1]
  · by_cases c2 : x < e
    · rw [if_pos (by omega), List.append_assoc, List.getElem?_append_right (by omega), l1, List.getElem?_append_left (by omega)]
    · rw [if_neg (by omega), List.getElem?_append_right (by rw [List.length_append]; omega), List.length_append, l1, hx, List.getElem?_drop]
      congr 1
      omega

theorem run_cell {ps : List (Int × Int)} (h : ∀ q ∈ ps, 0 < q.1) {i : Nat} {p : Int × Int} (hp : ps[i]? = some p) {x : Nat}
    (h0 : wide (ps.take i) ≤ x) (h1 : (x : Int) < wide (ps.take i) + p.1) : (cells ps)[x]? = some p.2 := by
  obtain ⟨hi, e⟩ := List.getElem?_eq_some_iff.mp hp
  have hs : ps = ps.take i ++ (p :: ps.drop (i + 1)) := by
    rw [← e, ← List.drop_eq_getElem_cons hi, List.take_append_drop]
  have hl := cells_len (ps.take i) fun q hq => h q (List.mem_of_mem_take hq)
  rw [hs, cells_app, cells_cons, List.getElem?_append_right (by omega), List.getElem?_append_left (by rw [List.length_replicate]; omega),
    List.getElem?_replicate, if_pos (by omega)]
theorem wide_nn : ∀ ps : List (Int × Int), (∀ q ∈ ps, 0 < q.1) → 0 ≤ wide ps
  | [], _ => Int.le_refl _
  | p :: ps, h => by
    have ih := wide_nn ps fun q hq => h q (List.mem_cons_of_mem _ hq)
    have hp := h p List.mem_cons_self
    show 0 ≤ p.1 + wide ps
    omega

/-! ### while; three at once -/
theorem i_par3 {i j l : Nat} {tt : TA} {D : Ends} {σ : L2.St} {H : Hp}
    (h : tt σ H fun vs H1 => ∃ u v w, vs = [u, v, w] ∧ D.nx (((σ.set i (some u)).set j (some v)).set l (some w)) H1) : tPar3 i j l tt D σ H := h
theorem i_three {P : V → V → V → Prop} {x y z : V} (h : P x y z) : ∃ u v w, [x, y, z] = [u, v, w] ∧ P u v w := ⟨x, y, z, rfl, h⟩
theorem i_while {c : TT} {tb : TS} {D : Ends} {σ : L2.St} {H : Hp} (W : Nat → L2.St → Hp → Prop) (n : Nat) (h0 : W n σ H)
    (st : ∀ m σ H, W m σ H → c σ H fun b H1 => if b = true then ∃ N : L2.St → Hp → Prop, (∀ σ' H', N σ' H' → ∃ m', m' < m ∧ W m' σ' H') ∧ tb { D with nx := N, ct := N, bk := D.nx } σ H1 else D.nx σ H1) :
    tWhile c tb D σ H := ⟨W, ⟨n, h0⟩, st⟩
theorem i_loop {tb : TS} {D : Ends} {σ : L2.St} {H : Hp} {m : Nat} {W : Nat → L2.St → Hp → Prop}
    (h : tb { D with nx := fun σ' H' => ∃ m', m' < m ∧ W m' σ' H', ct := fun σ' H' => ∃ m', m' < m ∧ W m' σ' H', bk := D.nx } σ H) :
    ∃ N : L2.St → Hp → Prop, (∀ σ' H', N σ' H' → ∃ m', m' < m ∧ W m' σ' H') ∧ tb { D with nx := N, ct := N, bk := D.nx } σ H := ⟨_, fun _ _ h => h, h⟩

/-! ### where two memories are unlike -/
structure Part where
  b : Int
  e : Int
  h : Int
  g : Int
abbrev d4 (p : Part) : PyData := .tuple [.int p.b, .int p.e, .int p.h, .int p.g]
section
variable {K : PySem.W.Frag} {H : Hp}
theorem dp_four {v : V} {p : Part} (h : Dp K H v (d4 p)) : ∃ a, v = .ref a ∧ SqT K H a [.int p.b, .int p.e, .int p.h, .int p.g] := by
  cases h with
  | tup hs ha =>
    cases ha with
    | cons h1 ha =>
    cases ha with
    | cons h2 ha =>
    cases ha with
    | cons h3 ha =>
    cases ha with
    | cons h4 ha =>
    cases ha
    cases h1
    cases h2
    cases h3
    cases h4
    exact ⟨_, rfl, hs⟩
theorem dp_mk4 {a : Addr} {p : Part} (h : SqT K H a [.int p.b, .int p.e, .int p.h, .int p.g]) : Dp K H (.ref a) (d4 p) :=
  .tup h (.cons (.int _) (.cons (.int _) (.cons (.int _) (.cons (.int _) .nil))))
theorem imms_d4 : ∀ l : List Part, imms (l.map d4) = true
  | [] => rfl
  | _ :: l => by
    simp only [List.map_cons, imms, G.imm, imms_d4 l]
    rfl
end
/-- one behind another; side by side only where the numbers are others -/
def Beside (p q : Part) : Prop := p.e ≤ q.b ∧ (p.e = q.b → ¬ (p.h = q.h ∧ p.g = q.g))
/-- what is found up to a cell -/
structure Upto (cs ds : List Int) (F : List Part) (at_ : Int) : Prop where
  row : F.Pairwise Beside
  wide : ∀ p ∈ F, 0 ≤ p.b ∧ p.b < p.e ∧ p.e ≤ at_
  here : ∀ p ∈ F, ∀ x : Nat, p.b ≤ x → (x : Int) < p.e → cs[x]? = some p.h ∧ ds[x]? = some p.g
  all : ∀ x : Nat, (x : Int) < at_ → ∃ p ∈ F, p.b ≤ x ∧ (x : Int) < p.e
theorem Upto.more {cs ds : List Int} {F : List Part} {a e h g : Int} (t : Upto cs ds F a) (h0 : 0 ≤ a) (h1 : a < e)
    (hh : ∀ x : Nat, a ≤ x → (x : Int) < e → cs[x]? = some h ∧ ds[x]? = some g) (hl : ∀ p ∈ F, p.e = a → ¬ (p.h = h ∧ p.g = g)) :
    Upto cs ds (F ++ [⟨a, e, h, g⟩]) e := by
  refine ⟨?_, ?_, ?_, ?_⟩
  · refine List.pairwise_append.mpr ⟨t.row, List.pairwise_singleton _ _, fun p hp q hq => ?_⟩
    rw [List.mem_singleton.mp hq]
    exact ⟨(t.wide p hp).2.2, fun z => hl p hp z⟩
  · intro p hp
    rcases List.mem_append.mp hp with hp | hp
    · obtain ⟨a1, a2, a3⟩ := t.wide p hp
      exact ⟨a1, a2, by omega⟩
    · rw [List.mem_singleton.mp hp]
      exact ⟨h0, h1, Int.le_refl _⟩
  · intro p hp x x0 x1
    rcases List.mem_append.mp hp with hp | hp
    · exact t.here p hp x x0 x1
    · rw [List.mem_singleton.mp hp] at x0 x1 ⊢
      exact hh x x0 x1
  · intro x hx
    by_cases c : (x : Int) < a
    · obtain ⟨p, hp, q⟩ := t.all x c
      exact ⟨p, List.mem_append_left _ hp, q⟩
    · exact ⟨_, List.mem_append_right _ (List.mem_singleton.mpr rfl), by show a ≤ (x : Int); omega, hx⟩
/-- a difference of two memories -/
structure Diff (cs ds : List Int) (P : List Part) : Prop where
  row : P.Pairwise Beside
  wide : ∀ p ∈ P, 0 ≤ p.b ∧ p.b < p.e ∧ p.e ≤ cs.length
  un : ∀ p ∈ P, p.h ≠ p.g
  here : ∀ p ∈ P, ∀ x : Nat, p.b ≤ x → (x : Int) < p.e → cs[x]? = some p.h ∧ ds[x]? = some p.g
  all : ∀ x : Nat, x < cs.length → cs[x]? ≠ ds[x]? → ∃ p ∈ P, p.b ≤ x ∧ (x : Int) < p.e
def unlike (p : Part) : Bool := !decide (p.h = p.g)
theorem Upto.diff {cs ds : List Int} {F : List Part} (t : Upto cs ds F cs.length) : Diff cs ds (F.filter unlike) := by
  refine ⟨t.row.filter _, fun p hp => t.wide p (List.mem_filter.mp hp).1, fun p hp => ?_, fun p hp => t.here p (List.mem_filter.mp hp).1, fun x hx ne => ?_⟩
  · have := (List.mem_filter.mp hp).2
    unfold unlike at this
    simpa using this
  · obtain ⟨p, hp, h0, h1⟩ := t.all x (by omega)
    refine ⟨p, List.mem_filter.mpr ⟨hp, ?_⟩, h0, h1⟩
    obtain ⟨e1, e2⟩ := t.here p hp x h0 h1
    unfold unlike
    rw [e1, e2] at ne
    have : p.h ≠ p.g := fun z => ne (by rw [z])
    simp [this]
def turnP (p : Part) : Part := ⟨p.b, p.e, p.g, p.h⟩
theorem Diff.turned {cs ds : List Int} {P : List Part} (t : Diff cs ds P) (hl : cs.length = ds.length) : Diff ds cs (P.map turnP) := by
  have mem : ∀ p ∈ P.map turnP, ∃ q ∈ P, p = turnP q := fun p hp => by
    obtain ⟨q, hq, e⟩ := List.mem_map.mp hp
    exact ⟨q, hq, e.symm⟩
  refine ⟨?_, ?_, ?_, ?_, ?_⟩
  · refine List.pairwise_map.mpr (t.row.imp fun {p q} r => ⟨r.1, fun z k => r.2 z ⟨k.2, k.1⟩⟩)
  · intro p hp
    obtain ⟨q, hq, rfl⟩ := mem p hp
    rw [← hl]
    exact t.wide q hq
  · intro p hp
    obtain ⟨q, hq, rfl⟩ := mem p hp
    exact Ne.symm (t.un q hq)
  · intro p hp x x0 x1
    obtain ⟨q, hq, rfl⟩ := mem p hp
    exact (t.here q hq x x0 x1).symm
  · intro x hx ne
    obtain ⟨p, hp, q⟩ := t.all x (by omega) (Ne.symm ne)
    exact ⟨turnP p, List.mem_map.mpr ⟨p, hp, rfl⟩, q⟩
/-- the parts are filled in -/
def fillP (cs : List Int) (p : Part) : List Int := laid cs p.b.toNat (List.replicate (p.e - p.b).toNat p.g) p.e.toNat
def fillAll (cs : List Int) (P : List Part) : List Int := P.foldl fillP cs
theorem fillP_len {cs : List Int} {p : Part} (h : 0 ≤ p.b ∧ p.b < p.e ∧ p.e ≤ cs.length) : (fillP cs p).length = cs.length := by
  unfold fillP
  exact laid_len (by omega) (by omega) (by rw [List.length_replicate]; omega)
theorem fillP_get {cs : List Int} {p : Part} (h : 0 ≤ p.b ∧ p.b < p.e ∧ p.e ≤ cs.length) (x : Nat) :
    (fillP cs p)[x]? = if p.b ≤ x ∧ (x : Int) < p.e then some p.g else cs[x]? := by
  unfold fillP
  rw [laid_get (by omega) (by omega) (by rw [List.length_replicate]; omega)]
  by_cases c : p.b ≤ x ∧ (x : Int) < p.e
  · rw [if_pos c, if_pos (by omega), List.getElem?_replicate, if_pos (by omega)]
  · rw [if_neg c, if_neg (by omega)]
theorem fillAll_len {n : Int} : ∀ (P : List Part) (cs : List Int), (n = cs.length) → (∀ p ∈ P, 0 ≤ p.b ∧ p.b < p.e ∧ p.e ≤ n) → (fillAll cs P).length = cs.length
  | [], _, _, _ => rfl
  | p :: P, cs, hn, h => by
    have hp := h p List.mem_cons_self
    have e := fillP_len (cs := cs) (p := p) (by omega)
    have ih := fillAll_len P (fillP cs p) (by omega) fun q hq => h q (List.mem_cons_of_mem _ hq)
    unfold fillAll at *
    rw [List.foldl_cons, ih, e]
theorem fillAll_out {n : Int} {x : Nat} : ∀ (P : List Part) (cs : List Int), (n = cs.length) → (∀ p ∈ P, 0 ≤ p.b ∧ p.b < p.e ∧ p.e ≤ n) →
    (∀ p ∈ P, ¬ (p.b ≤ x ∧ (x : Int) < p.e)) → (fillAll cs P)[x]? = cs[x]?
  | [], _, _, _, _ => rfl
  | p :: P, cs, hn, h, no => by
    have hp := h p List.mem_cons_self
    have e := fillP_len (cs := cs) (p := p) (by omega)
    have ih := fillAll_out (x := x) P (fillP cs p) (by omega) (fun q hq => h q (List.mem_cons_of_mem _ hq)) fun q hq => no q (List.mem_cons_of_mem _ hq)
    unfold fillAll at *
    rw [List.foldl_cons, ih, fillP_get (by omega), if_neg (no p List.mem_cons_self)]
theorem fillAll_in {n : Int} {x : Nat} {p : Part} : ∀ (P : List Part) (cs : List Int), (n = cs.length) → (∀ p ∈ P, 0 ≤ p.b ∧ p.b < p.e ∧ p.e ≤ n) →
    P.Pairwise Beside → p ∈ P → p.b ≤ x → (x : Int) < p.e → (fillAll cs P)[x]? = some p.g
  | [], _, _, _, _, hp, _, _ => nomatch hp
  | q :: P, cs, hn, h, row, hp, x0, x1 => by
    have hq := h q List.mem_cons_self
    have e := fillP_len (cs := cs) (p := q) (by omega)
    have hP : ∀ r ∈ P, 0 ≤ r.b ∧ r.b < r.e ∧ r.e ≤ n := fun r hr => h r (List.mem_cons_of_mem _ hr)
    have row2 := List.pairwise_cons.mp row
    have un : fillAll cs (q :: P) = fillAll (fillP cs q) P := rfl
    rw [un]
    rcases List.mem_cons.mp hp with rfl | hp
    · rw [fillAll_out (x := x) P _ (by omega) hP (fun r hr z => by
        have := (row2.1 r hr).1
        omega), fillP_get (by omega), if_pos ⟨x0, x1⟩]
    · exact fillAll_in P _ (by omega) hP row2.2 hp x0 x1
/-- carried to the one it makes the other -/
theorem Diff.carried {cs ds : List Int} {P : List Part} (t : Diff cs ds P) (hl : cs.length = ds.length) : fillAll cs P = ds := by
  have l := fillAll_len P cs rfl t.wide
  refine List.ext_getElem? fun x => ?_
  by_cases c : x < cs.length
  · by_cases z : ∃ p ∈ P, p.b ≤ x ∧ (x : Int) < p.e
    · obtain ⟨p, hp, x0, x1⟩ := z
      rw [fillAll_in P cs rfl t.wide t.row hp x0 x1, (t.here p hp x x0 x1).2]
    · rw [fillAll_out (x := x) P cs rfl t.wide fun p hp q => z ⟨p, hp, q⟩]
      by_cases e : cs[x]? = ds[x]?
      · exact e
      · exact absurd (t.all x c e) z
  · rw [List.getElem?_eq_none (by omega), List.getElem?_eq_none (by omega)]
/-- a cell that hasn't what was had -/
def Clashes (xs : List Int) (P : List Part) (c : Int) : Prop := ∃ p ∈ P, p.b ≤ c ∧ c < p.e ∧ xs[c.toNat]? ≠ some p.h
def First (xs : List Int) (P : List Part) (c : Int) : Prop := Clashes xs P c ∧ ∀ d, Clashes xs P d → c ≤ d
theorem First.one {xs : List Int} {P : List Part} {c d : Int} (h : First xs P c) (k : First xs P d) : c = d := by
  have := h.2 d k.1
  have := k.2 c h.1
  omega

/-! ### side by side, differences -/
/-- a pointer into runs: the cell at_ stands in the k-th of them, that ends at en; or behind all -/
structure Ptr (ps : List (Int × Int)) (w : Int) (at_ : Int) (k : Nat) (en : Int) : Prop where
  le : k ≤ ps.length
  lo : wide (ps.take k) ≤ at_
  hi : k < ps.length → at_ < en ∧ en = wide (ps.take (k + 1))
  out : k = ps.length → at_ = w
theorem Ptr.next {ps : List (Int × Int)} {w at_ en e : Int} {k : Nat} {p : Int × Int} (t : Ptr ps w at_ k en) (hw : wide ps = w) (pos : ∀ q ∈ ps, 0 < q.1) (hp : ps[k]? = some p) (h0 : at_ < e) (h1 : e ≤ en) :
    if en = e then (∀ q, ps[k + 1]? = some q → Ptr ps w e (k + 1) (en + q.1)) ∧ (ps[k + 1]? = none → Ptr ps w e (k + 1) en) else Ptr ps w e k en := by
  obtain ⟨hk, _⟩ := List.getElem?_eq_some_iff.mp hp
  obtain ⟨a1, a2⟩ := t.hi hk
  have lo := t.lo
  split
  · rename_i z
    subst z
    refine ⟨fun q hq => ?_, fun hq => ?_⟩
    · obtain ⟨hk2, _⟩ := List.getElem?_eq_some_iff.mp hq
      have q0 := pos q (List.mem_of_getElem? hq)
      refine ⟨by omega, by rw [← a2]; exact Int.le_refl _, fun _ => ⟨by omega, ?_⟩, fun z => by omega⟩
      rw [wide_take hq, ← a2]
    · have hk2 : k + 1 = ps.length := by
        have := List.getElem?_eq_none_iff.mp hq
        omega
      refine ⟨by omega, by rw [← a2]; exact Int.le_refl _, fun z => by omega, fun _ => ?_⟩
      rw [a2, hk2, List.take_length, hw]
  · refine ⟨t.le, by omega, fun _ => ⟨by omega, a2⟩, fun z => by omega⟩
theorem wide_first {ps : List (Int × Int)} {p : Int × Int} (h : ps[0]? = some p) : wide (ps.take 1) = p.1 := by
  have e := wide_take (ps := ps) (i := 0) h
  rw [e]
  show 0 + p.1 = p.1
  omega
def sp_side (K : PySem.W.Frag) : Sp := fun vs H Q _ => ∃ (a b : Addr) (cs ds : List Int), vs = [.ref a, .ref b] ∧ Dp K H (.ref a) (.list ((rle cs).map d2)) ∧ Dp K H (.ref b) (.list ((rle ds).map d2)) ∧
  cs.length = ds.length ∧ 1 ≤ cs.length ∧ (rle cs).length ≤ 10000 ∧ (rle ds).length ≤ 10000 ∧
  ∀ l H' F, Fr H l → Kp [] H H' → LD K H' l (F.map d4) → Upto cs ds F cs.length → F.length ≤ (rle cs).length + (rle ds).length → Q (.ref l) H'
theorem sc_side_by_side : FnScope ["some", "others", "found", "at", "k", "j", "ends", "limits", "end"] ["some", "others"] (defScope s_side_by_side) :=
  ⟨rfl, rfl, rfl, by decide +kernel, rfl, by decide +kernel, by decide +kernel⟩
theorem ok_side_by_side {P : Program} {w : World} {K : PySem.W.Frag} {mg : Str → Option Value} {base : Heap} (T : Txt K mg) :
    FnG P w K mg base 1 T.a_side_by_side T.d_side_by_side ["some", "others"] (sp_side K) := by
  refine okD T.F_side_by_side sc_side_by_side (fun vs H Q E h => ?_) (fun cdv A outer s H vs Q E hr h => ?_)
  · first
      | (obtain ⟨_, rfl, _⟩ := h; rfl)
      | (obtain ⟨_, _, rfl, _⟩ := h; rfl)
      | (obtain ⟨_, _, _, rfl, _⟩ := h; rfl)
      | (obtain ⟨_, _, _, _, rfl, _⟩ := h; rfl)
      | (obtain ⟨_, _, _, _, _, rfl, _⟩ := h; rfl)
      | (obtain ⟨_, _, _, _, _, _, rfl, _⟩ := h; rfl)
      | (obtain ⟨_, _, _, _, _, _, _, rfl, _⟩ := h; rfl)
      | (obtain ⟨_, _, _, _, _, _, _, _, rfl, _⟩ := h; rfl)
      | (obtain ⟨_, _, _, _, _, _, _, _, _, rfl, _⟩ := h; rfl)
      | (obtain ⟨_, _, _, _, _, _, _, _, _, _, rfl, _⟩ := h; rfl)
      | (obtain ⟨_, _, _, _, _, _, _, _, _, _, _, rfl, _⟩ := h; rfl)
  · obtain ⟨a, b, cs, ds, rfl, ha, hb, hlen, hw, na, nb, k⟩ := h
    cases ha
    rename_i xs hsx hax
    cases hb
    rename_i ys hsy hay
    have hxl := dpa_len hax
    have hyl := dpa_len hay
    rw [List.length_map] at hxl hyl
    have posx := rle_pos cs
    have posy := rle_pos ds
    have wx := wide_rle cs
    have wy := wide_rle ds
    rw [← hlen] at wy
    have nex : rle cs ≠ [] := rle_ne fun z => by rw [z] at hw; exact absurd hw (by decide)
    have ney : rle ds ≠ [] := rle_ne fun z => by rw [hlen, z] at hw; exact absurd hw (by decide)
    obtain ⟨p0, hp0⟩ : ∃ p0, (rle cs)[0]? = some p0 := by
      cases h : rle cs with
      | nil => exact absurd h nex
      | cons u t => exact ⟨u, rfl⟩
    obtain ⟨q0, hq0⟩ : ∃ q0, (rle ds)[0]? = some q0 := by
      cases h : rle ds with
      | nil => exact absurd h ney
      | cons u t => exact ⟨u, rfl⟩
    have getx : ∀ {H' : Hp} (kk : Kp [] H H') {i : Nat} {p : Int × Int}, (rle cs)[i]? = some p → ∃ t, atI xs (i : Int) = some (.ref t) ∧ SqT K H' t [.int p.1, .int p.2] := fun {H'} kk {i p} hp => by
      obtain ⟨v, hv, hd⟩ := dpa_get hax (i := i) (d := d2 p) (by rw [List.getElem?_map, hp]; rfl)
      obtain ⟨t, rfl, hT⟩ := dp_pair (dp_imm kk _ _ rfl hd)
      exact ⟨t, atI_nat hv, hT⟩
    have gety : ∀ {H' : Hp} (kk : Kp [] H H') {i : Nat} {p : Int × Int}, (rle ds)[i]? = some p → ∃ t, atI ys (i : Int) = some (.ref t) ∧ SqT K H' t [.int p.1, .int p.2] := fun {H'} kk {i p} hp => by
      obtain ⟨v, hv, hd⟩ := dpa_get hay (i := i) (d := d2 p) (by rw [List.getElem?_map, hp]; rfl)
      obtain ⟨t, rfl, hT⟩ := dp_pair (dp_imm kk _ _ rfl hd)
      exact ⟨t, atI_nat hv, hT⟩
    have cl_Memory := T.cl_Memory
    have na_Memory_pairs := T.na_Memory_pairs
    have na_Memory_wide := T.na_Memory_wide
    refine ⟨_, (pss_cons (ps_set (i := 2) sc_side_by_side.nd rfl (Or.inl rfl) (pe_lst pa_nil))
      (pss_cons (ps_asg (pe_tup (pa_cons pe_int (pa_cons pe_int (pa_cons pe_int pa_nil)))) (k_gtup (K := K) 3 rfl rfl (pgs_cons (pg_name (i := 3) sc_side_by_side.nd rfl (Or.inl rfl)) (pgs_cons (pg_name (i := 4) sc_side_by_side.nd rfl (Or.inl rfl)) (pgs_cons (pg_name (i := 5) sc_side_by_side.nd rfl (Or.inl rfl)) pgs_nil)))))
      (pss_cons (ps_par (i := 6) (j := 7) (by rfl) sc_side_by_side.nd rfl rfl (by decide) rfl rfl (pa_cons (pe_ix (k_ix (K := K) rfl) (pe_ix (k_ix (K := K) rfl) (pv 0) pe_int (fun _ _ => rfl)) pe_int (fun _ _ => rfl)) (pa_cons (pe_ix (k_ix (K := K) rfl) (pe_ix (k_ix (K := K) rfl) (pv 1) pe_int (fun _ _ => rfl)) pe_int (fun _ _ => rfl)) pa_nil)) (by rfl))
      (pss_cons (ps_while (passes_of rfl) (PW.pt (pw_and (pt_cmpR op_lt (pv 4) (pe_callB (k_len (K := K) rfl) (by rfl) T.n_len (by decide +kernel) (pa_cons (pv 0) pa_nil)) (nomark _)) (pw_and1 (pt_cmpR op_lt (pv 5) (pe_callB (k_len (K := K) rfl) (by rfl) T.n_len (by decide +kernel) (pa_cons (pv 1) pa_nil)) (nomark _))))) (pss_cons (ps_set (i := 8) sc_side_by_side.nd rfl (Or.inl rfl) (pe_callB (c_min2 rfl) (by rfl) T.n_min (by decide +kernel) (pa_cons (pv 6) (pa_cons (pv 7) pa_nil))))
      (pss_cons (ps_expr (pe_bm PySem.F.plainAttrs_list PySem.F.slot_list_append PySem.F.type_list_append mt_append (pv 2) (pa_cons (pe_tup (pa_cons (pv 3) (pa_cons (pv 8) (pa_cons (pe_ix (k_ix (K := K) rfl) (pe_ix (k_ix (K := K) rfl) (pv 0) (pv 4) (fun _ _ => rfl)) pe_int (fun _ _ => rfl)) (pa_cons (pe_ix (k_ix (K := K) rfl) (pe_ix (k_ix (K := K) rfl) (pv 1) (pv 5) (fun _ _ => rfl)) pe_int (fun _ _ => rfl)) pa_nil))))) pa_nil)))
      (pss_cons (ps_set (i := 3) sc_side_by_side.nd rfl (Or.inl rfl) (pv 8))
      (pss_cons (ps_if (pt_cmpR (k_eq (K := K) rfl hr.r.units) (pv 6) (pv 8) (nomark _)) (pss_cons (ps_aug (i := 4) sc_side_by_side.nd rfl (Or.inl rfl) pe_int ip_add)
      (pss_one (ps_aug (i := 6) sc_side_by_side.nd rfl (Or.inl rfl) (pe_ifExp (pt_cmpR op_lt (pv 4) (pe_callB (k_len (K := K) rfl) (by rfl) T.n_len (by decide +kernel) (pa_cons (pv 0) pa_nil)) (nomark _)) (pe_ix (k_ix (K := K) rfl) (pe_ix (k_ix (K := K) rfl) (pv 0) (pv 4) (fun _ _ => rfl)) pe_int (fun _ _ => rfl)) pe_int) ip_add))) pss_nil)
      (pss_one (ps_if (pt_cmpR (k_eq (K := K) rfl hr.r.units) (pv 7) (pv 8) (nomark _)) (pss_cons (ps_aug (i := 5) sc_side_by_side.nd rfl (Or.inl rfl) pe_int ip_add)
      (pss_one (ps_aug (i := 7) sc_side_by_side.nd rfl (Or.inl rfl) (pe_ifExp (pt_cmpR op_lt (pv 5) (pe_callB (k_len (K := K) rfl) (by rfl) T.n_len (by decide +kernel) (pa_cons (pv 1) pa_nil)) (nomark _)) (pe_ix (k_ix (K := K) rfl) (pe_ix (k_ix (K := K) rfl) (pv 1) (pv 5) (fun _ _ => rfl)) pe_int (fun _ _ => rfl)) pe_int) ip_add))) pss_nil)))))))
      (pss_one (ps_ret (pv 2))))))), ?_⟩
    dsimp only [cxOf, st_1, st_2, st_3, st_4, st_5, st_6, List.length_cons, List.length_nil, List.replicate_succ, List.replicate_zero, Nat.reduceAdd, Nat.reduceSub]
    walk_at "gs"
    refine i_new fun l fl => ?_
    walk_at "gs"
    refine i_new fun tz ftz => ?_
    have nlz : l ≠ tz := fr_tr tr_same ftz
    walk_at "gs"
    have hl0 : upd (upd H l (.lst [])) tz (.tup [.int 0, .int 0, .int 0]) l = some (.lst []) := by walk_at "g_hp"
    have kl : Kp [] H (upd (upd H l (.lst [])) tz (.tup [.int 0, .int 0, .int 0])) := by walk_at "g_kp"
    obtain ⟨t0, at0, hT0⟩ := getx kl hp0
    obtain ⟨t1, at1, hT1⟩ := gety kl hq0
    have hsx1 := kl.seqL not_nil hsx
    have hsy1 := kl.seqL not_nil hsy
    walk_at "gs"
    refine i_while (fun n σ H' => ∃ (x7 : Option V) (at_ en li : Int) (i j : Nat) (F : List Part), n = ((rle cs).length - i) + ((rle ds).length - j) ∧
      σ = [some (.ref a), some (.ref b), some (.ref l), some (.int at_), some (.int i), some (.int j), some (.int en), some (.int li), x7] ∧ Kp [] H H' ∧
      LD K H' l (F.map d4) ∧ 0 ≤ at_ ∧ at_ ≤ cs.length ∧ Upto cs ds F at_ ∧ F.length ≤ i + j ∧ Ptr (rle cs) cs.length at_ i en ∧ Ptr (rle ds) cs.length at_ j li ∧
      (∀ p q r, p ∈ F → (rle cs)[i]? = some q → (rle ds)[j]? = some r → p.e = at_ → ¬ (p.h = q.2 ∧ p.g = r.2))) _ ⟨none, 0, p0.1, q0.1, 0, 0, [], rfl, rfl, kl, ⟨[], hl0, .nil⟩, Int.le_refl _, by omega, ?_, Nat.le_refl _, ?_, ?_, ?_⟩ ?_
    · exact ⟨.nil, (fun p hp => nomatch hp), (fun p hp => nomatch hp), fun x hx => by omega⟩
    · have h0 := posx _ (List.mem_of_getElem? hp0)
      have hl := (List.getElem?_eq_some_iff.mp hp0).1
      exact ⟨Nat.zero_le _, Int.le_refl _, fun _ => ⟨h0, (wide_first hp0).symm⟩, fun z => by omega⟩
    · have h0 := posy _ (List.mem_of_getElem? hq0)
      have hl := (List.getElem?_eq_some_iff.mp hq0).1
      exact ⟨Nat.zero_le _, Int.le_refl _, fun _ => ⟨h0, (wide_first hq0).symm⟩, fun z => by omega⟩
    · exact fun p q r hp => nomatch hp
    rintro n σ H1 ⟨x7, at_, en, li, i, j, F, rfl, rfl, k1, lf, a0, a1, up, few, px, py, nb2⟩
    have hsx2 := k1.seqL not_nil hsx
    have hsy2 := k1.seqL not_nil hsy
    have fin : ∀ {i j : Nat}, i = (rle cs).length ∨ j = (rle ds).length → Ptr (rle cs) cs.length at_ i en → Ptr (rle ds) cs.length at_ j li → at_ = cs.length := by
      rintro i j (z | z) px py
      · exact px.out z
      · exact py.out z
    have stop : at_ = cs.length → Q (.ref l) H1 := fun z => by
      rw [z] at up
      exact k l H1 F fl k1 lf up (by have := px.le; have := py.le; omega)
    have lex := px.le
    have ley := py.le
    walk_at "gs"
    rw [hxl]
    refine i_dec (fun c1 => ?_) (fun c1 => ?_)
    rotate_left
    · walk_at "gs"
      exact stop (px.out (by omega))
    walk_at "gs"
    rw [hyl]
    refine i_dec (fun c2 => ?_) (fun c2 => ?_)
    rotate_left
    · walk_at "gs"
      exact stop (py.out (by omega))
    walk_at "gs"
    refine i_loop ?_
    obtain ⟨pi, hpi⟩ : ∃ p, (rle cs)[i]? = some p := ⟨_, List.getElem?_eq_getElem (by omega)⟩
    obtain ⟨pj, hpj⟩ : ∃ p, (rle ds)[j]? = some p := ⟨_, List.getElem?_eq_getElem (by omega)⟩
    obtain ⟨ti, ati, hTi⟩ := getx k1 hpi
    obtain ⟨tj, atj, hTj⟩ := gety k1 hpj
    obtain ⟨fv, hfv, hfa⟩ := id lf
    have hfl := dpa_len hfa
    rw [List.length_map] at hfl
    have li0 : i < (rle cs).length := by omega
    have lj0 : j < (rle ds).length := by omega
    obtain ⟨e1, e2⟩ := px.hi li0
    obtain ⟨e3, e4⟩ := py.hi lj0
    have lox := px.lo
    have loy := py.lo
    have wti := wide_take hpi
    have wtj := wide_take hpj
    walk_at "gs"
    refine i_new fun t ft => ?_
    walk_at "gs"
    obtain ⟨e, he⟩ : ∃ e, e = min en li := ⟨_, rfl⟩
    rw [← he]
    have ee1 : e ≤ en := by omega
    have ee2 : e ≤ li := by omega
    have ea : at_ < e := by omega
    obtain ⟨H2, hH2⟩ : ∃ H2, H2 = upd (upd H1 t (.tup [.int at_, .int e, .int pi.2, .int pj.2])) l (.lst (fv ++ [.ref t])) := ⟨_, rfl⟩
    have fl1 : t ≠ l := Ne.symm (fr_tr (tr_of hfv) ft)
    have hT2 : H2 t = some (.tup [.int at_, .int e, .int pi.2, .int pj.2]) := by
      rw [hH2]
      walk_at "g_hp"
    have kl2 : Kp [l] H1 H2 := by
      rw [hH2]
      walk_at "g_kp"
    have k2 : Kp [] H H2 := Kp.drop (Kp.trans (Kp.wide k1) kl2) fl
    have lf2 : LD K H2 l ((F ++ [(⟨at_, e, pi.2, pj.2⟩ : Part)]).map d4) := by
      rw [List.map_append, hH2]
      refine ⟨_, upd_same, ?_⟩
      rw [← hH2]
      exact dpa_app (dpa_imm kl2 _ _ (imms_d4 _) hfa) (dpa_one (dp_mk4 (p := ⟨at_, e, pi.2, pj.2⟩) (SqT.of hT2)))
    have ew : e ≤ cs.length := by
      have h1 := wide_nn ((rle cs).drop (i + 1)) fun z hz => posx z (List.mem_of_mem_drop hz)
      have h2 : wide ((rle cs).take (i + 1)) + wide ((rle cs).drop (i + 1)) = wide (rle cs) := by
        unfold wide
        rw [← List.sum_append, ← List.map_append, List.take_append_drop]
      omega
    have up2 : Upto cs ds (F ++ [(⟨at_, e, pi.2, pj.2⟩ : Part)]) e := by
      refine up.more a0 ea (fun x x0 x1 => ⟨?_, ?_⟩) (fun p hp z => nb2 p pi pj hp hpi hpj z)
      · have z := run_cell posx hpi (x := x) (by omega) (by omega)
        rw [cells_rle] at z
        exact z
      · have z := run_cell posy hpj (x := x) (by omega) (by omega)
        rw [cells_rle] at z
        exact z
    have nx := px.next wx posx hpi ea ee1
    have ny := py.next wy posy hpj ea ee2
    have last : ∀ p ∈ F ++ [(⟨at_, e, pi.2, pj.2⟩ : Part)], p.e = e → p.h = pi.2 ∧ p.g = pj.2 := by
      intro p hp z
      rcases List.mem_append.mp hp with hp | hp
      · have := (up.wide p hp).2.2
        omega
      · rw [List.mem_singleton.mp hp]
        exact ⟨rfl, rfl⟩
    have apx : ∀ q, (rle cs)[i + 1]? = some q → pi.2 ≠ q.2 := fun q hq => apart_get _ _ _ _ (apart_wr _) hpi (by rw [List.getElem?_tail]; exact hq)
    have apy : ∀ q, (rle ds)[j + 1]? = some q → pj.2 ≠ q.2 := fun q hq => apart_get _ _ _ _ (apart_wr _) hpj (by rw [List.getElem?_tail]; exact hq)
    have few2 : (F ++ [(⟨at_, e, pi.2, pj.2⟩ : Part)]).length ≤ i + j + 1 := by
      rw [List.length_append, List.length_singleton]
      omega
    have hsx3 := k2.seqL not_nil hsx
    have hsy3 := k2.seqL not_nil hsy
    -- the end of a turn, wherever the pointers stand
    have turn : ∀ (i' j' : Nat) (en' li' : Int), i ≤ i' → j ≤ j' → i + j + 1 ≤ i' + j' → Ptr (rle cs) cs.length e i' en' → Ptr (rle ds) cs.length e j' li' → (i' = i ∨ i' = i + 1) → (j' = j ∨ j' = j + 1) →
        ∃ m', m' < ((rle cs).length - i) + ((rle ds).length - j) ∧ ∃ (x7 : Option V) (at_ en li : Int) (i j : Nat) (F : List Part), m' = ((rle cs).length - i) + ((rle ds).length - j) ∧
          [some (V.ref a), some (V.ref b), some (V.ref l), some (V.int e), some (V.int i'), some (V.int j'), some (V.int en'), some (V.int li'), some (V.int e)] = [some (.ref a), some (.ref b), some (.ref l), some (.int at_), some (.int i), some (.int j), some (.int en), some (.int li), x7] ∧
          Kp [] H H2 ∧ LD K H2 l (F.map d4) ∧ 0 ≤ at_ ∧ at_ ≤ cs.length ∧ Upto cs ds F at_ ∧ F.length ≤ i + j ∧ Ptr (rle cs) cs.length at_ i en ∧ Ptr (rle ds) cs.length at_ j li ∧
          (∀ p q r, p ∈ F → (rle cs)[i]? = some q → (rle ds)[j]? = some r → p.e = at_ → ¬ (p.h = q.2 ∧ p.g = r.2)) := by
      intro i' j' en' li' h1 h2 h3 px' py' hi' hj'
      have l1 := px'.le
      have l2 := py'.le
      refine ⟨_, ?_, _, e, en', li', i', j', _, rfl, rfl, k2, lf2, by omega, ew, up2, by omega, px', py', ?_⟩
      · omega
      · rintro p q r hp hq hr hpe ⟨z1, z2⟩
        obtain ⟨y1, y2⟩ := last p hp hpe
        rcases hi' with rfl | rfl
        · rcases hj' with rfl | rfl
          · omega
          · exact apy r hr (by rw [← y2, z2])
        · exact apx q hq (by rw [← y1, z1])
    rw [← hH2]
    walk_at "gs"
    have ecj : (((j + 1 : Nat)) : Int) = (j : Int) + 1 := by omega
    have eci : (((i + 1 : Nat)) : Int) = (i : Int) + 1 := by omega
    refine i_dec (fun c3 => ?_) (fun c3 => ?_)
    · have nx2 := nx
      rw [if_pos c3] at nx2
      walk_at "gs"
      rw [hxl]
      refine i_dec (fun c5 => ?_) (fun c5 => ?_)
      · obtain ⟨q, hq⟩ : ∃ q, (rle cs)[i + 1]? = some q := ⟨_, List.getElem?_eq_getElem (by omega)⟩
        obtain ⟨tq, atq, hTq⟩ := getx k2 hq
        rw [eci] at atq
        walk_at "gs"
        refine i_dec (fun c4 => ?_) (fun c4 => ?_)
        · have ny2 := ny
          rw [if_pos c4] at ny2
          walk_at "gs"
          rw [hyl]
          refine i_dec (fun c6 => ?_) (fun c6 => ?_)
          · obtain ⟨r, hr⟩ : ∃ r, (rle ds)[j + 1]? = some r := ⟨_, List.getElem?_eq_getElem (by omega)⟩
            obtain ⟨tr, atr, hTr⟩ := gety k2 hr
            rw [ecj] at atr
            walk_at "gs"
            exact turn (i + 1) (j + 1) (en + q.1) (li + r.1) (by omega) (by omega) (by omega) (nx2.1 q hq) (ny2.1 r hr) (.inr rfl) (.inr rfl)
          · have hr : (rle ds)[j + 1]? = none := List.getElem?_eq_none (by omega)
            walk_at "gs"
            have z := turn (i + 1) (j + 1) (en + q.1) li (by omega) (by omega) (by omega) (nx2.1 q hq) (ny2.2 hr) (.inr rfl) (.inr rfl)
            have ez : li + 0 = li := Int.add_zero li
            rw [ez]
            exact z
        · have ny2 := ny
          rw [if_neg c4] at ny2
          walk_at "gs"
          exact turn (i + 1) j (en + q.1) li (by omega) (by omega) (by omega) (nx2.1 q hq) ny2 (.inr rfl) (.inl rfl)
      · have hq : (rle cs)[i + 1]? = none := List.getElem?_eq_none (by omega)
        have ez0 : en + 0 = en := Int.add_zero en
        walk_at "gs"
        rw [ez0]
        refine i_dec (fun c4 => ?_) (fun c4 => ?_)
        · have ny2 := ny
          rw [if_pos c4] at ny2
          walk_at "gs"
          rw [hyl]
          refine i_dec (fun c6 => ?_) (fun c6 => ?_)
          · obtain ⟨r, hr⟩ : ∃ r, (rle ds)[j + 1]? = some r := ⟨_, List.getElem?_eq_getElem (by omega)⟩
            obtain ⟨tr, atr, hTr⟩ := gety k2 hr
            rw [ecj] at atr
            walk_at "gs"
            exact turn (i + 1) (j + 1) (en) (li + r.1) (by omega) (by omega) (by omega) (nx2.2 hq) (ny2.1 r hr) (.inr rfl) (.inr rfl)
          · have hr : (rle ds)[j + 1]? = none := List.getElem?_eq_none (by omega)
            walk_at "gs"
            have z := turn (i + 1) (j + 1) (en) li (by omega) (by omega) (by omega) (nx2.2 hq) (ny2.2 hr) (.inr rfl) (.inr rfl)
            have ez : li + 0 = li := Int.add_zero li
            rw [ez]
            exact z
        · have ny2 := ny
          rw [if_neg c4] at ny2
          walk_at "gs"
          exact turn (i + 1) j (en) li (by omega) (by omega) (by omega) (nx2.2 hq) ny2 (.inr rfl) (.inl rfl)
    · have nx2 := nx
      rw [if_neg c3] at nx2
      walk_at "gs"
      refine i_dec (fun c4 => ?_) (fun c4 => ?_)
      · have ny2 := ny
        rw [if_pos c4] at ny2
        walk_at "gs"
        rw [hyl]
        refine i_dec (fun c6 => ?_) (fun c6 => ?_)
        · obtain ⟨r, hr⟩ : ∃ r, (rle ds)[j + 1]? = some r := ⟨_, List.getElem?_eq_getElem (by omega)⟩
          obtain ⟨tr, atr, hTr⟩ := gety k2 hr
          rw [ecj] at atr
          walk_at "gs"
          exact turn i (j + 1) (en) (li + r.1) (by omega) (by omega) (by omega) nx2 (ny2.1 r hr) (.inl rfl) (.inr rfl)
        · have hr : (rle ds)[j + 1]? = none := List.getElem?_eq_none (by omega)
          walk_at "gs"
          have z := turn i (j + 1) (en) li (by omega) (by omega) (by omega) nx2 (ny2.2 hr) (.inl rfl) (.inr rfl)
          have ez : li + 0 = li := Int.add_zero li
          rw [ez]
          exact z
      · exact absurd (show en = e ∨ li = e by omega) (fun z => z.elim c3 c4)

/-! ### several memories -/
theorem i_methM {K : PySem.W.Frag} {C : Addr} {m : Addr} {cs : List Int} {H : Hp} {nm : Str} {sp : Sp} {E : XK} {t : TA} {σ : L2.St} {Q : VK} (M : MemAt K C H m cs)
    (hl : ∀ n l, (mfs n l).lookup nm = none) (h : t σ H fun vs H2 => sp (.ref m :: vs) H2 Q E) : MethR C nm sp E t σ (.ref m) H Q := by
  obtain ⟨dx, l, e, _⟩ := M
  exact i_methR e (hl _ _) h
theorem i_methMW {K : PySem.W.Frag} {C : Addr} {a : Addr} {cs : List Int} {H : Hp} {nm : Str} {n m : Nat} {sp : Sp} {gV : List V → List V → List V} {E : XK} {t tk : TA} {σ : L2.St} {Q : VK} (M : MemAt K C H a cs)
    (hl : ∀ n l, (mfs n l).lookup nm = none) (h : t σ H fun vs H2 => tk σ H2 fun zs H3 => vs.length = n ∧ zs.length = m ∧ sp (gV (.ref a :: vs) zs) H3 Q E) :
    MethW C nm n m sp gV E t tk σ (.ref a) H Q := by
  obtain ⟨dx, l, e, _⟩ := M
  exact i_methWR e (hl _ _) h
--%%M
local macro_rules | `(tactic| walk_at "g_own") => `(tactic| first
  | ((with_reducible apply i_methM (by with_reducible assumption) ?g ?_); (case g => exact fun _ _ => rfl))
  | ((with_reducible apply i_methMW (by with_reducible assumption) ?g ?_); (case g => exact fun _ _ => rfl)))
--%%E

/-! ### difference -/
theorem filter_take {α : Type} {l : List α} {f : α → Bool} {i : Nat} {p : α} (h : l[i]? = some p) :
    (l.take (i + 1)).filter f = (l.take i).filter f ++ (if f p = true then [p] else []) := by
  rw [List.take_add_one, h, List.filter_append]
  congr 1
  by_cases c : f p = true
  · simp [c]
  · simp [c]
def sp_diffx (K : PySem.W.Frag) (C X : Addr) : Sp := fun vs H Q E => ∃ (m n : Addr) (cs ds : List Int), vs = [.ref m, .ref n] ∧ MemAt K C H m cs ∧ MemAt K C H n ds ∧
  1 ≤ cs.length ∧ (rle cs).length ≤ 10000 ∧ (rle ds).length ≤ 10000 ∧ (cs.length ≠ ds.length → ∀ H', Kp [] H H' → E (.ref X) none H') ∧
  (cs.length = ds.length → ∀ l H' P, Fr H l → Kp [] H H' → LD K H' l (P.map d4) → Diff cs ds P → P.length ≤ (rle cs).length + (rle ds).length → Q (.ref l) H')
theorem sc_difference : FnScope ["one", "other", "part"] ["one", "other"] (defScope s_difference) :=
  ⟨rfl, rfl, rfl, by decide +kernel, rfl, by decide +kernel, by decide +kernel⟩
theorem ok_difference {P : Program} {w : World} {K : PySem.W.Frag} {mg : Str → Option Value} {base : Heap} (T : Txt K mg) :
    FnG P w K mg base 2 T.a_difference T.d_difference ["one", "other"] (sp_diffx K T.c_Memory T.x_Unlike) := by
  refine okD T.F_difference sc_difference (fun vs H Q E h => ?_) (fun cdv A outer s H vs Q E hr h => ?_)
  · first
      | (obtain ⟨_, rfl, _⟩ := h; rfl)
      | (obtain ⟨_, _, rfl, _⟩ := h; rfl)
      | (obtain ⟨_, _, _, rfl, _⟩ := h; rfl)
      | (obtain ⟨_, _, _, _, rfl, _⟩ := h; rfl)
      | (obtain ⟨_, _, _, _, _, rfl, _⟩ := h; rfl)
      | (obtain ⟨_, _, _, _, _, _, rfl, _⟩ := h; rfl)
      | (obtain ⟨_, _, _, _, _, _, _, rfl, _⟩ := h; rfl)
      | (obtain ⟨_, _, _, _, _, _, _, _, rfl, _⟩ := h; rfl)
      | (obtain ⟨_, _, _, _, _, _, _, _, _, rfl, _⟩ := h; rfl)
      | (obtain ⟨_, _, _, _, _, _, _, _, _, _, rfl, _⟩ := h; rfl)
      | (obtain ⟨_, _, _, _, _, _, _, _, _, _, _, rfl, _⟩ := h; rfl)
  · obtain ⟨m, n, cs, ds, rfl, M, N, hw, na, nb, kE, k⟩ := h
    have cl_Memory := T.cl_Memory
    have na_Memory_pairs := T.na_Memory_pairs
    have na_Memory_wide := T.na_Memory_wide
    refine ⟨_, (pss_cons (ps_if (pt_cmpR (k_ne (K := K) rfl hr.r.units) (dm0 T.cl_Memory T.me_Memory_size (ok_Memory_size T) (hr.mono (by decide)) T.b_Memory_size passL (pv 0)) (dm0 T.cl_Memory T.me_Memory_size (ok_Memory_size T) (hr.mono (by decide)) T.b_Memory_size passL (pv 1)) (nomark _)) (pss_one (ps_raise rfl (takes_of rfl rfl rfl rfl) (pmk_own PySem.F.excBase_ValueError T.en_Unlike T.mx_Unlike T.ek_Unlike (raises_own T.ec_Unlike.hs T.et_Unlike) rfl))) pss_nil)
      (pss_one (ps_ret (pe_lc (own := [("part", 2)]) (g := (gName 2)) rfl sc_difference.nd (k_plist (K := K) rfl (d1 (ok_side_by_side T) (hr.mono (by decide)) (by rfl) T.m_side_by_side T.F_side_by_side.kp T.b_side_by_side passL (pa_cons (dm0 T.cl_Memory T.me_Memory_runs (ok_Memory_runs T) (hr.mono (by decide)) T.b_Memory_runs passL (pv 0)) (pa_cons (dm0 T.cl_Memory T.me_Memory_runs (ok_Memory_runs T) (hr.mono (by decide)) T.b_Memory_runs passL (pv 1)) pa_nil)))) (blkOk_by (own := [("part", 2)]) (N := ["one", "other", "part"]) (sc := defScope s_difference) (by decide +kernel)) (fun _ _ _ _ _ => (pg_name (i := 2) sc_difference.nd rfl (Or.inl rfl))) (fun _ _ _ _ _ => (pts_one (pt_cmpR (k_ne (K := K) rfl hr.r.units) (pe_ix (k_ix (K := K) rfl) (pv 2) pe_int (fun _ _ => rfl)) (pe_ix (k_ix (K := K) rfl) (pv 2) pe_int (fun _ _ => rfl)) (nomark _)))) (fun _ _ _ _ _ => (pv 2)))))), ?_⟩
    dsimp only [cxOf, st_1, st_2, st_3, st_4, st_5, st_6, List.length_cons, List.length_nil, List.replicate_succ, List.replicate_zero, Nat.reduceAdd, Nat.reduceSub]
    walk_at "gs"
    refine ⟨m, cs, rfl, M, ?_⟩
    walk_at "gs"
    refine ⟨n, ds, rfl, N, ?_⟩
    walk_at "gs"
    refine i_decN (fun z => ?bad) (fun hlen0 => ?good)
    case' bad =>
      walk_at "gs"
      exact kE (fun z0 => z (by omega)) _ Kp.refl
    have hlen : cs.length = ds.length := by omega
    have k := k hlen
    walk_at "gs"
    refine ⟨m, cs, rfl, M, fun l1 H1 f1 k1 ld1 => ?_⟩
    have N1 := mem_kp0 N k1
    walk_at "gs"
    refine ⟨n, ds, rfl, N1, fun l2 H2 f2 k2 ld2 => ?_⟩
    walk_at "gs"
    refine ⟨l1, l2, cs, ds, rfl, (ld1.kp k2 (imms_d2 _) not_nil).dp, ld2.dp, hlen, hw, na, nb, fun l3 H3 F f3 k3 ld3 up few => ?_⟩
    have k03 : Kp [] H H3 := Kp.trans k1 (Kp.trans k2 k3)
    obtain ⟨fv, hfv, hfa⟩ := id ld3
    have hfl := dpa_len hfa
    rw [List.length_map] at hfl
    refine i_elts (SqL.of hfv) (fun D i H' => Kp [] H3 H' ∧ LD K H' D (((F.take i).filter unlike).map d4)) ?_ ?_ ?_ ?_
    · exact fun D fD => ⟨Kp.new fD, [], upd_same, .nil⟩
    · rintro D i H' fD _ ⟨k4, _⟩
      exact SqL.of (k4.at_ _ _ hfv not_nil)
    · rintro D i x H' fD hx ⟨k4, ld⟩
      obtain ⟨d, hd, hdp⟩ := dpa_getV hfa hx
      obtain ⟨p, hp, rfl⟩ := map_get hd
      obtain ⟨t, rfl, hT⟩ := dp_four (dp_imm k4 _ _ rfl hdp)
      have hi := (List.getElem?_eq_some_iff.mp hp).1
      have ft := filter_take (f := unlike) hp
      obtain ⟨av, hav, haa⟩ := id ld
      have hal := dpa_len haa
      rw [List.length_map] at hal
      have hle := List.length_filter_le unlike (F.take i)
      rw [List.length_take] at hle
      walk_at "gs"
      refine i_decN (fun c => ?_) (fun c => ?_)
      · walk_at "gs"
        have u : unlike p = true := by unfold unlike; simp [c]
        rw [ft, if_pos u, List.map_append]
        refine ⟨av, hav, small_sz (by omega), Kp.upd k4 fD, ?_⟩
        have kD : Kp [D] H' (upd H' D (.lst (av ++ [.ref t]))) := Kp.mut hav (fun z => z) List.mem_cons_self
        exact ⟨_, upd_same, dpa_app (dpa_imm kD _ _ (imms_d4 _) haa) (dpa_one (dp_mk4 (p := p) (kD.seqT hT)))⟩
      · walk_at "gs"
        have u : ¬ (unlike p = true) := by unfold unlike; simp [c]
        rw [ft, if_neg u, List.append_nil]
        exact ⟨k4, ld⟩
    · rintro D H' fD ⟨k4, ld⟩
      rw [List.take_of_length_le (by omega)] at ld
      have hle := List.length_filter_le unlike F
      exact k D H' _ (k03.free fD) (Kp.trans k03 k4) ld up.diff (by omega)

def sp_put (K : PySem.W.Frag) (C : Addr) : Sp := fun vs H Q _ => ∃ (m : Addr) (c v : Int) (cs : List Int),
  vs = [.ref m, .int c, .int v] ∧ MemAt K C H m cs ∧ (rle cs).length ≤ 10000 ∧ (0 ≤ c ∧ c < cs.length) ∧
  ∀ H', Kp [m] H H' → MemAt K C H' m (laid cs c.toNat [v] (c + 1).toNat) → (∀ b, Tr H b → Off H' m b) → Q .non H'
theorem sc_Memory_put : FnScope ["self", "cell", "number"] ["self", "cell", "number"] (defScope s_Memory_put) :=
  ⟨rfl, rfl, rfl, by decide +kernel, rfl, by decide +kernel, by decide +kernel⟩
theorem ok_Memory_put {P : Program} {w : World} {K : PySem.W.Frag} {mg : Str → Option Value} {base : Heap} (T : Txt K mg) :
    FnG P w K mg base 4 T.a_Memory_put T.d_Memory_put ["self", "cell", "number"] (sp_put K T.c_Memory) := by
  refine okD T.F_Memory_put sc_Memory_put (fun vs H Q E h => ?_) (fun cdv A outer s H vs Q E hr h => ?_)
  · first
      | (obtain ⟨_, rfl, _⟩ := h; rfl)
      | (obtain ⟨_, _, rfl, _⟩ := h; rfl)
      | (obtain ⟨_, _, _, rfl, _⟩ := h; rfl)
      | (obtain ⟨_, _, _, _, rfl, _⟩ := h; rfl)
      | (obtain ⟨_, _, _, _, _, rfl, _⟩ := h; rfl)
      | (obtain ⟨_, _, _, _, _, _, rfl, _⟩ := h; rfl)
      | (obtain ⟨_, _, _, _, _, _, _, rfl, _⟩ := h; rfl)
      | (obtain ⟨_, _, _, _, _, _, _, _, rfl, _⟩ := h; rfl)
      | (obtain ⟨_, _, _, _, _, _, _, _, _, rfl, _⟩ := h; rfl)
      | (obtain ⟨_, _, _, _, _, _, _, _, _, _, rfl, _⟩ := h; rfl)
      | (obtain ⟨_, _, _, _, _, _, _, _, _, _, _, rfl, _⟩ := h; rfl)
  · obtain ⟨m, c, v, cs, rfl, hM, hn, hc, k⟩ := h
    obtain ⟨dx, l, hm, ld⟩ := id hM
    have cl_Memory := T.cl_Memory
    have na_Memory_pairs := T.na_Memory_pairs
    have na_Memory_wide := T.na_Memory_wide
    refine ⟨_, (pss_cons (ps_expr (d1 (ok_want_cell T) (hr.mono (by decide)) (by rfl) T.m_want_cell T.F_want_cell.kp T.b_want_cell passL (pa_cons (pv 1) (pa_cons (k_fld (K := K) rfl (pv 0) rfl) pa_nil))))
      (pss_cons (ps_expr (d1 (ok_want_number T) (hr.mono (by decide)) (by rfl) T.m_want_number T.F_want_number.kp T.b_want_number passL (pa_cons (pv 2) pa_nil)))
      (pss_one (ps_expr (dm T.cl_Memory T.me_Memory_lay (ok_Memory_lay T) (hr.mono (by decide)) T.b_Memory_lay passL (pv 0) (pa_cons (pv 1) (pa_cons (pe_lst (pa_cons (pe_tup (pa_cons pe_int (pa_cons (pv 2) pa_nil))) pa_nil)) (pa_cons (pe_op (k_add (K := K) rfl) (pv 1) pe_int) pa_nil)))))))), ?_⟩
    dsimp only [cxOf, st_1, st_2, st_3, st_4, st_5, st_6, List.length_cons, List.length_nil, List.replicate_succ, List.replicate_zero, Nat.reduceAdd, Nat.reduceSub]
    walk_at "gs"
    refine ⟨c, cs.length, rfl, by omega, ?_⟩
    walk_at "gs"
    refine ⟨v, rfl, ?_⟩
    walk_at "gs"
    refine i_new fun t ht => ?_
    walk_at "gs"
    refine i_new fun x hx => ?_
    walk_at "gs"
    have e0 : cells [((1 : Int), v)] = [v] := rfl
    refine ⟨m, x, c, c + 1, cs, [(1, v)], rfl, ?_, ⟨_, upd_same, dpa_one (dp_mk2 (a := t) (m := 1) (n := v) (by walk_at "g_st"))⟩,
      hn, one_few, by omega, by rw [e0, List.length_singleton]; omega, fun H' k1 hM1 of => ?_⟩
    · exact mem_upd (mem_upd hM (by walk_at "g_fr")) (by walk_at "g_fr")
    · rw [e0] at hM1
      walk_at "gs"
      exact k H' (by walk_at "g_kp") hM1 (fun b hb => of b (tr_upd (tr_upd hb)))
def sp_fill (K : PySem.W.Frag) (C : Addr) : Sp := fun vs H Q _ => ∃ (m : Addr) (b e v : Int) (cs : List Int),
  vs = [.ref m, .int b, .int e, .int v] ∧ MemAt K C H m cs ∧ (rle cs).length ≤ 10000 ∧ (0 ≤ b ∧ b ≤ e ∧ e ≤ cs.length) ∧
  ∀ H', Kp [m] H H' → MemAt K C H' m (laid cs b.toNat (List.replicate (e - b).toNat v) e.toNat) → (∀ b, Tr H b → Off H' m b) → Q .non H'

theorem sc_Memory_fill : FnScope ["self", "begin", "end", "number"] ["self", "begin", "end", "number"] (defScope s_Memory_fill) :=
  ⟨rfl, rfl, rfl, by decide +kernel, rfl, by decide +kernel, by decide +kernel⟩
theorem ok_Memory_fill {P : Program} {w : World} {K : PySem.W.Frag} {mg : Str → Option Value} {base : Heap} (T : Txt K mg) :
    FnG P w K mg base 4 T.a_Memory_fill T.d_Memory_fill ["self", "begin", "end", "number"] (sp_fill K T.c_Memory) := by
  refine okD T.F_Memory_fill sc_Memory_fill (fun vs H Q E h => ?_) (fun cdv A outer s H vs Q E hr h => ?_)
  · first
      | (obtain ⟨_, rfl, _⟩ := h; rfl)
      | (obtain ⟨_, _, rfl, _⟩ := h; rfl)
      | (obtain ⟨_, _, _, rfl, _⟩ := h; rfl)
      | (obtain ⟨_, _, _, _, rfl, _⟩ := h; rfl)
      | (obtain ⟨_, _, _, _, _, rfl, _⟩ := h; rfl)
      | (obtain ⟨_, _, _, _, _, _, rfl, _⟩ := h; rfl)
      | (obtain ⟨_, _, _, _, _, _, _, rfl, _⟩ := h; rfl)
      | (obtain ⟨_, _, _, _, _, _, _, _, rfl, _⟩ := h; rfl)
      | (obtain ⟨_, _, _, _, _, _, _, _, _, rfl, _⟩ := h; rfl)
      | (obtain ⟨_, _, _, _, _, _, _, _, _, _, rfl, _⟩ := h; rfl)
      | (obtain ⟨_, _, _, _, _, _, _, _, _, _, _, rfl, _⟩ := h; rfl)
  · obtain ⟨m, b, e, v, cs, rfl, hM, hn, hc, k⟩ := h
    obtain ⟨dx, l, hm, ld⟩ := id hM
    have cl_Memory := T.cl_Memory
    have na_Memory_pairs := T.na_Memory_pairs
    have na_Memory_wide := T.na_Memory_wide
    refine ⟨_, (pss_cons (ps_expr (d1 (ok_want_stretch T) (hr.mono (by decide)) (by rfl) T.m_want_stretch T.F_want_stretch.kp T.b_want_stretch passL (pa_cons (pv 1) (pa_cons (pv 2) (pa_cons (k_fld (K := K) rfl (pv 0) rfl) pa_nil)))))
      (pss_cons (ps_expr (d1 (ok_want_number T) (hr.mono (by decide)) (by rfl) T.m_want_number T.F_want_number.kp T.b_want_number passL (pa_cons (pv 3) pa_nil)))
      (pss_one (ps_expr (dm T.cl_Memory T.me_Memory_lay (ok_Memory_lay T) (hr.mono (by decide)) T.b_Memory_lay passL (pv 0) (pa_cons (pv 1) (pa_cons (pe_lst (pa_cons (pe_tup (pa_cons (pe_op op_sub (pv 2) (pv 1)) (pa_cons (pv 3) pa_nil))) pa_nil)) (pa_cons (pv 2) pa_nil)))))))), ?_⟩
    dsimp only [cxOf, st_1, st_2, st_3, st_4, st_5, st_6, List.length_cons, List.length_nil, List.replicate_succ, List.replicate_zero, Nat.reduceAdd, Nat.reduceSub]
    walk_at "gs"
    refine ⟨b, e, cs.length, rfl, by omega, ?_⟩
    walk_at "gs"
    refine ⟨v, rfl, ?_⟩
    walk_at "gs"
    refine i_new fun t ht => ?_
    walk_at "gs"
    refine i_new fun x hx => ?_
    walk_at "gs"
    have e0 : cells [(e - b, v)] = List.replicate (e - b).toNat v := by rw [cells_cons, cells_nil, List.append_nil]
    refine ⟨m, x, b, e, cs, [(e - b, v)], rfl, ?_, ⟨_, upd_same, dpa_one (dp_mk2 (a := t) (m := e - b) (n := v) (by walk_at "g_st"))⟩,
      hn, one_few, by omega, by rw [e0, List.length_replicate], fun H' k1 hM1 of => ?_⟩
    · exact mem_upd (mem_upd hM (by walk_at "g_fr")) (by walk_at "g_fr")
    · rw [e0] at hM1
      walk_at "gs"
      exact k H' (by walk_at "g_kp") hM1 (fun b hb => of b (tr_upd (tr_upd hb)))

def sp_bring (K : PySem.W.Frag) (C : Addr) : Sp := fun vs H Q _ => ∃ (m : Addr) (b e t : Int) (src : V) (s : Addr) (cs ds : List Int),
  vs = [.ref m, .int b, .int e, .int t, src] ∧ MemAt K C H m cs ∧ MemAt K C H s ds ∧
  ((src = .non ∧ m = s ∧ cs = ds) ∨ src = .ref s) ∧ ds.length = cs.length ∧ (rle cs).length ≤ 10000 ∧ (rle ds).length ≤ 10000 ∧
  (0 ≤ b ∧ b ≤ e ∧ e ≤ cs.length) ∧ (0 ≤ t ∧ t ≤ cs.length - (e - b)) ∧
  ∀ H', Kp [m] H H' → MemAt K C H' m (laid cs t.toNat ((ds.drop b.toNat).take (e.toNat - b.toNat)) (t + e - b).toNat) → (∀ b, Tr H b → Off H' m b) → Q .non H'
theorem sc_Memory_bring : FnScope ["self", "begin", "end", "to", "source", "given"] ["self", "begin", "end", "to", "source"] (defScope s_Memory_bring) :=
  ⟨rfl, rfl, rfl, by decide +kernel, rfl, by decide +kernel, by decide +kernel⟩
theorem ok_Memory_bring {P : Program} {w : World} {K : PySem.W.Frag} {mg : Str → Option Value} {base : Heap} (T : Txt K mg) :
    FnG P w K mg base 4 T.a_Memory_bring T.d_Memory_bring ["self", "begin", "end", "to", "source"] (sp_bring K T.c_Memory) := by
  refine okD T.F_Memory_bring sc_Memory_bring (fun vs H Q E h => ?_) (fun cdv A outer s H vs Q E hr h => ?_)
  · first
      | (obtain ⟨_, rfl, _⟩ := h; rfl)
      | (obtain ⟨_, _, rfl, _⟩ := h; rfl)
      | (obtain ⟨_, _, _, rfl, _⟩ := h; rfl)
      | (obtain ⟨_, _, _, _, rfl, _⟩ := h; rfl)
      | (obtain ⟨_, _, _, _, _, rfl, _⟩ := h; rfl)
      | (obtain ⟨_, _, _, _, _, _, rfl, _⟩ := h; rfl)
      | (obtain ⟨_, _, _, _, _, _, _, rfl, _⟩ := h; rfl)
      | (obtain ⟨_, _, _, _, _, _, _, _, rfl, _⟩ := h; rfl)
      | (obtain ⟨_, _, _, _, _, _, _, _, _, rfl, _⟩ := h; rfl)
      | (obtain ⟨_, _, _, _, _, _, _, _, _, _, rfl, _⟩ := h; rfl)
      | (obtain ⟨_, _, _, _, _, _, _, _, _, _, _, rfl, _⟩ := h; rfl)
  · obtain ⟨m, b, e, t, src, s, cs, ds, rfl, hM, hS, hs, hl, hn, hn2, hb, ht, k⟩ := h
    obtain ⟨dx, l, hm, ld⟩ := id hM
    have cl_Memory := T.cl_Memory
    have na_Memory_pairs := T.na_Memory_pairs
    have na_Memory_wide := T.na_Memory_wide
    refine ⟨_, (pss_cons (ps_expr (d1 (ok_want_stretch T) (hr.mono (by decide)) (by rfl) T.m_want_stretch T.F_want_stretch.kp T.b_want_stretch passL (pa_cons (pv 1) (pa_cons (pv 2) (pa_cons (k_fld (K := K) rfl (pv 0) rfl) pa_nil)))))
      (pss_cons (ps_if (pt_not (pt_val (d1 (ok_is_whole T) (hr.mono (by decide)) (by rfl) T.m_is_whole T.F_is_whole.kp T.b_is_whole passL (pa_cons (pv 3) (pa_cons pe_int (pa_cons (pe_op op_sub (k_fld (K := K) rfl (pv 0) rfl) (pe_op op_sub (pv 2) (pv 1))) pa_nil)))))) (pss_one ps_never) pss_nil)
      (pss_cons (ps_set (i := 5) sc_Memory_bring.nd rfl (Or.inl rfl) (pe_ifExp (pt_cmpR op_isN1 (pv 4) pe_non (nomark _)) (pv 0) (pv 4)))
      (pss_cons (ps_if (pt_cmpR (k_ne (K := K) rfl hr.r.units) (dm0 T.cl_Memory T.me_Memory_size (ok_Memory_size T) (hr.mono (by decide)) T.b_Memory_size passL (pv 5)) (k_fld (K := K) rfl (pv 0) rfl) (nomark _)) (pss_one ps_never) pss_nil)
      (pss_one (ps_expr (dm T.cl_Memory T.me_Memory_lay (ok_Memory_lay T) (hr.mono (by decide)) T.b_Memory_lay passL (pv 0) (pa_cons (pv 3) (pa_cons (d1 (ok_cut_out T) (hr.mono (by decide)) (by rfl) T.m_cut_out T.F_cut_out.kp T.b_cut_out passL (pa_cons (dm0 T.cl_Memory T.me_Memory_runs (ok_Memory_runs T) (hr.mono (by decide)) T.b_Memory_runs passL (pv 5)) (pa_cons (pv 1) (pa_cons (pv 2) pa_nil)))) (pa_cons (pe_op op_sub (pe_op (k_add (K := K) rfl) (pv 3) (pv 2)) (pv 1)) pa_nil)))))))))), ?_⟩
    dsimp only [cxOf, st_1, st_2, st_3, st_4, st_5, st_6, List.length_cons, List.length_nil, List.replicate_succ, List.replicate_zero, Nat.reduceAdd, Nat.reduceSub]
    walk_at "gs"
    refine ⟨b, e, cs.length, rfl, by omega, ?_⟩
    walk_at "gs"
    refine ⟨t, 0, cs.length - (e - b), rfl, ?_⟩
    walk_at "gs"
    refine i_decN (fun d => absurd (by omega) d) (fun _ => ?_)
    walk_at "gs"
    rcases hs with ⟨e1, e2, e3⟩ | e1
    · subst e1
      subst e2
      subst e3
      walk_at "gs"
      refine ⟨_, _, rfl, hS, ?_⟩
      walk_at "gs"
      refine i_decN (fun d => absurd (by omega) d) (fun _ => ?_)
      walk_at "gs"
      refine ⟨_, _, rfl, hS, fun l1 H1 hl1 k1 ld1 => ?_⟩
      walk_at "gs"
      refine ⟨l1, b, e, _, rfl, ld1.dp, by omega, fun l2 H2 hl2 k2 ld2 => ?_⟩
      walk_at "gs"
      refine ⟨m, l2, t, t + e - b, cs, _, rfl, mem_kp0 (mem_kp0 hM k1) k2, ld2, hn, Nat.le_trans (cut_len _ _ _) hn2, by omega, ?_, fun H' k3 hM' of => ?_⟩
      · rw [cut_rle, List.length_take, List.length_drop]
        omega
      · walk_at "gs"
        rw [cut_rle] at hM'
        exact k H' (by walk_at "g_kp") hM' (fun b hb => of b (tr_kp k2 (tr_kp k1 hb)))
    · subst e1
      obtain ⟨dx2, l2, hms, lds⟩ := id hS
      walk_at "gs"
      refine ⟨_, _, rfl, hS, ?_⟩
      walk_at "gs"
      refine i_decN (fun d => absurd (by omega) d) (fun _ => ?_)
      walk_at "gs"
      refine ⟨_, _, rfl, hS, fun l1 H1 hl1 k1 ld1 => ?_⟩
      walk_at "gs"
      refine ⟨l1, b, e, _, rfl, ld1.dp, by omega, fun l2 H2 hl2 k2 ld2 => ?_⟩
      walk_at "gs"
      refine ⟨m, l2, t, t + e - b, cs, _, rfl, mem_kp0 (mem_kp0 hM k1) k2, ld2, hn, Nat.le_trans (cut_len _ _ _) hn2, by omega, ?_, fun H' k3 hM' of => ?_⟩
      · rw [cut_rle, List.length_take, List.length_drop]
        omega
      · walk_at "gs"
        rw [cut_rle] at hM'
        exact k H' (by walk_at "g_kp") hM' (fun b hb => of b (tr_kp k2 (tr_kp k1 hb)))

def sp_law_place : Sp := fun vs H Q _ => ∃ (p : Addr) (n : Int), vs = [.ref p, .int n] ∧ PotAt H p ∧ (0 ≤ n ∧ n ≤ 1000000000000000000) ∧
  ∀ r H', 0 ≤ r → r ≤ n → PotAt H' p → Kp [p] H H' → Q (.int r) H'
theorem sc_law_place : FnScope ["_law_pot_here", "_law_most", "_law_way"] ["_law_pot_here", "_law_most"] (defScope s_law_place) :=
  ⟨rfl, rfl, rfl, by decide +kernel, rfl, by decide +kernel, by decide +kernel⟩
theorem ok_law_place {P : Program} {w : World} {K : PySem.W.Frag} {mg : Str → Option Value} {base : Heap} (T : Txt K mg) :
    FnG P w K mg base 2 T.a_law_place T.d_law_place ["_law_pot_here", "_law_most"] sp_law_place := by
  refine okD T.F_law_place sc_law_place (fun vs H Q E h => ?_) (fun cdv A outer s H vs Q E hr h => ?_)
  · first
      | (obtain ⟨_, rfl, _⟩ := h; rfl)
      | (obtain ⟨_, _, rfl, _⟩ := h; rfl)
      | (obtain ⟨_, _, _, rfl, _⟩ := h; rfl)
      | (obtain ⟨_, _, _, _, rfl, _⟩ := h; rfl)
      | (obtain ⟨_, _, _, _, _, rfl, _⟩ := h; rfl)
      | (obtain ⟨_, _, _, _, _, _, rfl, _⟩ := h; rfl)
      | (obtain ⟨_, _, _, _, _, _, _, rfl, _⟩ := h; rfl)
      | (obtain ⟨_, _, _, _, _, _, _, _, rfl, _⟩ := h; rfl)
      | (obtain ⟨_, _, _, _, _, _, _, _, _, rfl, _⟩ := h; rfl)
      | (obtain ⟨_, _, _, _, _, _, _, _, _, _, rfl, _⟩ := h; rfl)
      | (obtain ⟨_, _, _, _, _, _, _, _, _, _, _, rfl, _⟩ := h; rfl)
  · obtain ⟨p, n, rfl, hp, hn, k⟩ := h
    refine ⟨_, (pss_cons (ps_set (i := 2) sc_law_place.nd rfl (Or.inl rfl) (d1 (ok_law_draw T) (hr.mono (by decide)) (by rfl) T.m_law_draw T.F_law_draw.kp T.b_law_draw passL (pa_cons (pv 0) (pa_cons pe_int pa_nil))))
      (pss_cons (ps_if (pt_cmpR op_lt (pv 2) pe_int (nomark _)) (pss_one (ps_ret (pe_ix (k_ix (K := K) rfl) (pe_lst (pa_cons pe_int (pa_cons (pv 1) pa_nil))) (pv 2) (fun _ _ => rfl)))) pss_nil)
      (pss_one (ps_ret (pe_ifExp (pt_cmpR op_lt (pv 2) pe_int (nomark _)) (pe_callB (c_min2 rfl) (by rfl) T.n_min (by decide +kernel) (pa_cons (pv 1) (pa_cons (d1 (ok_law_draw T) (hr.mono (by decide)) (by rfl) T.m_law_draw T.F_law_draw.kp T.b_law_draw passL (pa_cons (pv 0) (pa_cons pe_int pa_nil))) pa_nil))) (d1 (ok_law_draw T) (hr.mono (by decide)) (by rfl) T.m_law_draw T.F_law_draw.kp T.b_law_draw passL (pa_cons (pv 0) (pa_cons (pe_op (k_add (K := K) rfl) (pv 1) pe_int) pa_nil)))))))), ?_⟩
    dsimp only [cxOf, st_1, st_2, st_3, st_4, st_5, st_6, List.length_cons, List.length_nil, List.replicate_succ, List.replicate_zero, Nat.reduceAdd, Nat.reduceSub]
    walk_at "gs"
    refine use_draw hp (by decide) (by decide) (fun w H1 a1 a2 hp1 k1 => ?_)
    walk_at "gs"
    refine i_dec (fun c => ?_) (fun c => ?_)
    · walk_at "gs"
      refine i_new fun t ht => ?_
      obtain ⟨r, hat, hr⟩ : ∃ r : Int, atI [V.int 0, V.int n] w = some (.int r) ∧ (0 ≤ r ∧ r ≤ n) := by
        have e : w = 0 ∨ w = 1 := by omega
        rcases e with rfl | rfl
        · exact ⟨0, rfl, by omega⟩
        · exact ⟨n, rfl, by omega⟩
      walk_at "gs"
      exact k _ _ hr.1 hr.2 (by walk_at "g_pot") (by walk_at "g_kp")
    · walk_at "gs"
      refine i_dec (fun d => ?_) (fun d => ?_)
      · walk_at "gs"
        refine use_draw hp1 (by decide) (by decide) (fun r H2 b1 b2 hp2 k2 => ?_)
        walk_at "gs"
        exact k _ _ (by omega) (by omega) hp2 (by walk_at "g_kp")
      · walk_at "gs"
        refine use_draw hp1 (by omega) (by omega) (fun r H2 b1 b2 hp2 k2 => ?_)
        exact k _ _ (by omega) (by omega) hp2 (by walk_at "g_kp")
theorem use_place {H : Hp} {Q : VK} {E : XK} {p : Addr} {n : Int} (hp : PotAt H p) (h0 : 0 ≤ n) (h1 : n ≤ 1000000000000000000)
    (k : ∀ r H', 0 ≤ r → r ≤ n → PotAt H' p → Kp [p] H H' → Q (.int r) H') :
    sp_law_place [.ref p, .int n] H Q E := ⟨p, n, rfl, hp, ⟨h0, h1⟩, k⟩

def sp_law_stretch : Sp := fun vs H Q _ => ∃ (p : Addr) (n : Int), vs = [.ref p, .int n] ∧ PotAt H p ∧ (0 ≤ n ∧ n ≤ 1000000000000000000) ∧
  ∀ t a b H', Fr H t → H' t = some (.tup [.int a, .int b]) → (0 ≤ a ∧ a ≤ b ∧ b ≤ n) → PotAt H' p → Kp [p] H H' → Q (.ref t) H'
theorem sc_law_stretch : FnScope ["_law_pot_here", "_law_most", "_law_low"] ["_law_pot_here", "_law_most"] (defScope s_law_stretch) :=
  ⟨rfl, rfl, rfl, by decide +kernel, rfl, by decide +kernel, by decide +kernel⟩
theorem ok_law_stretch {P : Program} {w : World} {K : PySem.W.Frag} {mg : Str → Option Value} {base : Heap} (T : Txt K mg) :
    FnG P w K mg base 3 T.a_law_stretch T.d_law_stretch ["_law_pot_here", "_law_most"] sp_law_stretch := by
  refine okD T.F_law_stretch sc_law_stretch (fun vs H Q E h => ?_) (fun cdv A outer s H vs Q E hr h => ?_)
  · first
      | (obtain ⟨_, rfl, _⟩ := h; rfl)
      | (obtain ⟨_, _, rfl, _⟩ := h; rfl)
      | (obtain ⟨_, _, _, rfl, _⟩ := h; rfl)
      | (obtain ⟨_, _, _, _, rfl, _⟩ := h; rfl)
      | (obtain ⟨_, _, _, _, _, rfl, _⟩ := h; rfl)
      | (obtain ⟨_, _, _, _, _, _, rfl, _⟩ := h; rfl)
      | (obtain ⟨_, _, _, _, _, _, _, rfl, _⟩ := h; rfl)
      | (obtain ⟨_, _, _, _, _, _, _, _, rfl, _⟩ := h; rfl)
      | (obtain ⟨_, _, _, _, _, _, _, _, _, rfl, _⟩ := h; rfl)
      | (obtain ⟨_, _, _, _, _, _, _, _, _, _, rfl, _⟩ := h; rfl)
      | (obtain ⟨_, _, _, _, _, _, _, _, _, _, _, rfl, _⟩ := h; rfl)
  · obtain ⟨p, n, rfl, hp, hn, k⟩ := h
    refine ⟨_, (pss_cons (ps_set (i := 2) sc_law_stretch.nd rfl (Or.inl rfl) (d1 (ok_law_place T) (hr.mono (by decide)) (by rfl) T.m_law_place T.F_law_place.kp T.b_law_place passL (pa_cons (pv 0) (pa_cons (pv 1) pa_nil))))
      (pss_one (ps_ret (pe_tup (pa_cons (pv 2) (pa_cons (pe_op (k_add (K := K) rfl) (pv 2) (d1 (ok_law_place T) (hr.mono (by decide)) (by rfl) T.m_law_place T.F_law_place.kp T.b_law_place passL (pa_cons (pv 0) (pa_cons (pe_op op_sub (pv 1) (pv 2)) pa_nil)))) pa_nil)))))), ?_⟩
    dsimp only [cxOf, st_1, st_2, st_3, st_4, st_5, st_6, List.length_cons, List.length_nil, List.replicate_succ, List.replicate_zero, Nat.reduceAdd, Nat.reduceSub]
    walk_at "gs"
    refine use_place hp hn.1 hn.2 (fun a H1 a1 a2 hp1 k1 => ?_)
    walk_at "gs"
    refine use_place hp1 (by omega) (by omega) (fun d H2 b1 b2 hp2 k2 => ?_)
    walk_at "gs"
    refine i_new fun t ht => ?_
    exact k t a (a + d) _ (k1.free (k2.free ht)) upd_same (by omega) (by walk_at "g_pot") (by walk_at "g_kp")
theorem use_stretch {H : Hp} {Q : VK} {E : XK} {p : Addr} {n : Int} (hp : PotAt H p) (h0 : 0 ≤ n) (h1 : n ≤ 1000000000000000000)
    (k : ∀ t a b H', Fr H t → H' t = some (.tup [.int a, .int b]) → (0 ≤ a ∧ a ≤ b ∧ b ≤ n) → PotAt H' p → Kp [p] H H' → Q (.ref t) H') :
    sp_law_stretch [.ref p, .int n] H Q E := ⟨p, n, rfl, hp, ⟨h0, h1⟩, k⟩

def sp_law_size : Sp := fun vs H Q _ => ∃ (p : Addr), vs = [.ref p] ∧ PotAt H p ∧
  ∀ r H', 1 ≤ r → r ≤ 1000000000000000000 → PotAt H' p → Kp [p] H H' → Q (.int r) H'
theorem sc_law_size : FnScope ["_law_pot_here", "_law_way"] ["_law_pot_here"] (defScope s_law_size) :=
  ⟨rfl, rfl, rfl, by decide +kernel, rfl, by decide +kernel, by decide +kernel⟩
theorem ok_law_size {P : Program} {w : World} {K : PySem.W.Frag} {mg : Str → Option Value} {base : Heap} (T : Txt K mg) :
    FnG P w K mg base 2 T.a_law_size T.d_law_size ["_law_pot_here"] sp_law_size := by
  refine okD T.F_law_size sc_law_size (fun vs H Q E h => ?_) (fun cdv A outer s H vs Q E hr h => ?_)
  · first
      | (obtain ⟨_, rfl, _⟩ := h; rfl)
      | (obtain ⟨_, _, rfl, _⟩ := h; rfl)
      | (obtain ⟨_, _, _, rfl, _⟩ := h; rfl)
      | (obtain ⟨_, _, _, _, rfl, _⟩ := h; rfl)
      | (obtain ⟨_, _, _, _, _, rfl, _⟩ := h; rfl)
      | (obtain ⟨_, _, _, _, _, _, rfl, _⟩ := h; rfl)
      | (obtain ⟨_, _, _, _, _, _, _, rfl, _⟩ := h; rfl)
      | (obtain ⟨_, _, _, _, _, _, _, _, rfl, _⟩ := h; rfl)
      | (obtain ⟨_, _, _, _, _, _, _, _, _, rfl, _⟩ := h; rfl)
      | (obtain ⟨_, _, _, _, _, _, _, _, _, _, rfl, _⟩ := h; rfl)
      | (obtain ⟨_, _, _, _, _, _, _, _, _, _, _, rfl, _⟩ := h; rfl)
  · obtain ⟨p, rfl, hp, k⟩ := h
    refine ⟨_, (pss_cons (ps_set (i := 1) sc_law_size.nd rfl (Or.inl rfl) (d1 (ok_law_draw T) (hr.mono (by decide)) (by rfl) T.m_law_draw T.F_law_draw.kp T.b_law_draw passL (pa_cons (pv 0) (pa_cons pe_int pa_nil))))
      (pss_cons (ps_if (pt_cmpR (k_eq (K := K) rfl hr.r.units) (pv 1) pe_int (nomark _)) (pss_one (ps_ret (pe_op o_pow pe_int pe_int))) pss_nil)
      (pss_one (ps_ret (pe_op (k_add (K := K) rfl) pe_int (d1 (ok_law_draw T) (hr.mono (by decide)) (by rfl) T.m_law_draw T.F_law_draw.kp T.b_law_draw passL (pa_cons (pv 0) (pa_cons (pe_ix (k_ix (K := K) rfl) (pe_lst (pa_cons pe_int (pa_cons pe_int (pa_cons (pe_op o_pow pe_int pe_int) pa_nil)))) (pv 1) (fun _ _ => rfl)) pa_nil)))))))), ?_⟩
    dsimp only [cxOf, st_1, st_2, st_3, st_4, st_5, st_6, List.length_cons, List.length_nil, List.replicate_succ, List.replicate_zero, Nat.reduceAdd, Nat.reduceSub]
    walk_at "gs"
    refine use_draw hp (by decide) (by decide) (fun w H1 a1 a2 hp1 k1 => ?_)
    walk_at "gs"
    refine i_dec (fun c => ?_) (fun c => ?_)
    · walk_at "gs"
      exact k _ _ (by decide) (by decide) hp1 k1
    · walk_at "gs"
      refine i_new fun t ht => ?_
      obtain ⟨r, hat, hr⟩ : ∃ r : Int, atI [V.int 9, V.int 60, V.int 1000000000000000000] w = some (.int r) ∧ (0 < r ∧ r ≤ 1000000000000000000) := by
        have e : w = 0 ∨ w = 1 ∨ w = 2 := by omega
        rcases e with rfl | rfl | rfl
        · exact ⟨9, rfl, by omega⟩
        · exact ⟨60, rfl, by omega⟩
        · exact ⟨_, rfl, by omega⟩
      walk_at "gs"
      refine use_draw (by walk_at "g_pot") hr.1 (by omega) (fun u H2 b1 b2 hp2 k2 => ?_)
      walk_at "gs"
      exact k _ _ (by omega) (by omega) hp2 (by walk_at "g_kp")
theorem use_size {H : Hp} {Q : VK} {E : XK} {p : Addr} (hp : PotAt H p)
    (k : ∀ r H', 1 ≤ r → r ≤ 1000000000000000000 → PotAt H' p → Kp [p] H H' → Q (.int r) H') :
    sp_law_size [.ref p] H Q E := ⟨p, rfl, hp, k⟩

/-! ### deeds -/
inductive Deed where
  | fill (j : Nat) (lo hi v : Int)
  | copy (j : Nat) (lo hi g : Int) (o : Nat)
def Deed.vs : Deed → List V
  | .fill j lo hi v => [.str "fill", .int j, .int lo, .int hi, .int v]
  | .copy j lo hi g o => [.str "copy", .int j, .int lo, .int hi, .int g, .int o]
def Deed.Ok (w : Int) : Deed → Prop
  | .fill j lo hi v => j < 2 ∧ (0 ≤ lo ∧ lo ≤ hi ∧ hi ≤ w) ∧
      -1000000000000000000000000000000000000000000000000000000000000 ≤ v ∧ v ≤ 1000000000000000000000000000000000000000000000000000000000000
  | .copy j lo hi g o => j < 2 ∧ (0 ≤ lo ∧ lo ≤ hi ∧ hi ≤ w) ∧ (0 ≤ g ∧ g ≤ w - (hi - lo)) ∧ o < 2
def sp_law_deed : Sp := fun vs H Q _ => ∃ (p : Addr) (w : Int), vs = [.ref p, .int w] ∧ PotAt H p ∧ (1 ≤ w ∧ w ≤ 1000000000000000000) ∧
  ∀ t d H', Fr H t → H' t = some (.tup (Deed.vs d)) → d.Ok w → PotAt H' p → Kp [p] H H' → Q (.ref t) H'
theorem sc_law_deed : FnScope ["_law_pot_here", "_law_wide", "_law_way", "_law_which", "_law_low", "_law_high"] ["_law_pot_here", "_law_wide"] (defScope s_law_deed) :=
  ⟨rfl, rfl, rfl, by decide +kernel, rfl, by decide +kernel, by decide +kernel⟩
theorem ok_law_deed {P : Program} {w : World} {K : PySem.W.Frag} {mg : Str → Option Value} {base : Heap} (T : Txt K mg) :
    FnG P w K mg base 4 T.a_law_deed T.d_law_deed ["_law_pot_here", "_law_wide"] sp_law_deed := by
  refine okD T.F_law_deed sc_law_deed (fun vs H Q E h => ?_) (fun cdv A outer s H vs Q E hr h => ?_)
  · first
      | (obtain ⟨_, rfl, _⟩ := h; rfl)
      | (obtain ⟨_, _, rfl, _⟩ := h; rfl)
      | (obtain ⟨_, _, _, rfl, _⟩ := h; rfl)
      | (obtain ⟨_, _, _, _, rfl, _⟩ := h; rfl)
      | (obtain ⟨_, _, _, _, _, rfl, _⟩ := h; rfl)
      | (obtain ⟨_, _, _, _, _, _, rfl, _⟩ := h; rfl)
      | (obtain ⟨_, _, _, _, _, _, _, rfl, _⟩ := h; rfl)
      | (obtain ⟨_, _, _, _, _, _, _, _, rfl, _⟩ := h; rfl)
      | (obtain ⟨_, _, _, _, _, _, _, _, _, rfl, _⟩ := h; rfl)
      | (obtain ⟨_, _, _, _, _, _, _, _, _, _, rfl, _⟩ := h; rfl)
      | (obtain ⟨_, _, _, _, _, _, _, _, _, _, _, rfl, _⟩ := h; rfl)
  · obtain ⟨p, w, rfl, hp, hw, k⟩ := h
    refine ⟨_, (pss_cons (ps_par (i := 2) (j := 3) (by rfl) sc_law_deed.nd rfl rfl (by decide) rfl rfl (pa_cons (d1 (ok_law_draw T) (hr.mono (by decide)) (by rfl) T.m_law_draw T.F_law_draw.kp T.b_law_draw passL (pa_cons (pv 0) (pa_cons pe_int pa_nil))) (pa_cons (d1 (ok_law_draw T) (hr.mono (by decide)) (by rfl) T.m_law_draw T.F_law_draw.kp T.b_law_draw passL (pa_cons (pv 0) (pa_cons pe_int pa_nil))) pa_nil)) (by rfl))
      (pss_cons (ps_asg (d1 (ok_law_stretch T) (hr.mono (by decide)) (by rfl) T.m_law_stretch T.F_law_stretch.kp T.b_law_stretch passL (pa_cons (pv 0) (pa_cons (pv 1) pa_nil))) (k_gtup (K := K) 2 rfl rfl (pgs_cons (pg_name (i := 4) sc_law_deed.nd rfl (Or.inl rfl)) (pgs_cons (pg_name (i := 5) sc_law_deed.nd rfl (Or.inl rfl)) pgs_nil))))
      (pss_cons (ps_if (pt_cmpR (k_eq (K := K) rfl hr.r.units) (pv 2) pe_int (nomark _)) (pss_one (ps_ret (pe_tup (pa_cons pe_str (pa_cons (pv 3) (pa_cons (pv 4) (pa_cons (pv 5) (pa_cons (d1 (ok_law_place T) (hr.mono (by decide)) (by rfl) T.m_law_place T.F_law_place.kp T.b_law_place passL (pa_cons (pv 0) (pa_cons (pe_op op_sub (pv 1) (pe_op op_sub (pv 5) (pv 4))) pa_nil))) (pa_cons (d1 (ok_law_draw T) (hr.mono (by decide)) (by rfl) T.m_law_draw T.F_law_draw.kp T.b_law_draw passL (pa_cons (pv 0) (pa_cons pe_int pa_nil))) pa_nil))))))))) pss_nil)
      (pss_one (ps_ret (pe_tup (pa_cons pe_str (pa_cons (pv 3) (pa_cons (pv 4) (pa_cons (pe_ifExp (pt_cmpR (k_eq (K := K) rfl hr.r.units) (pv 2) pe_int (nomark _)) (pe_callB (c_min2 rfl) (by rfl) T.n_min (by decide +kernel) (pa_cons (pv 5) (pa_cons (pe_op (k_add (K := K) rfl) (pv 4) pe_int) pa_nil))) (pv 5)) (pa_cons (d1 (ok_law_value T) (hr.mono (by decide)) (by rfl) T.m_law_value T.F_law_value.kp T.b_law_value passL (pa_cons (pv 0) pa_nil)) pa_nil))))))))))), ?_⟩
    dsimp only [cxOf, st_1, st_2, st_3, st_4, st_5, st_6, List.length_cons, List.length_nil, List.replicate_succ, List.replicate_zero, Nat.reduceAdd, Nat.reduceSub]
    walk_at "gs"
    refine use_draw hp (by decide) (by decide) (fun y H1 a1 a2 hp1 k1 => ?_)
    walk_at "gs"
    refine use_draw hp1 (by decide) (by decide) (fun j0 H2 b1 b2 hp2 k2 => ?_)
    obtain ⟨j, rfl⟩ := Int.eq_ofNat_of_zero_le b1
    walk_at "gs"
    refine use_stretch hp2 (by omega) (by omega) (fun tt lo hi H3 ht3 hT hlh hp3 k3 => ?_)
    walk_at "gs"
    refine i_dec (fun c => ?_) (fun c => ?_)
    · walk_at "gs"
      refine use_place hp3 (by omega) (by omega) (fun g H4 c1 c2 hp4 k4 => ?_)
      walk_at "gs"
      refine use_draw hp4 (by decide) (by decide) (fun o0 H5 d1 d2 hp5 k5 => ?_)
      obtain ⟨o, rfl⟩ := Int.eq_ofNat_of_zero_le d1
      walk_at "gs"
      refine i_new fun t ht => ?_
      walk_at "gs"
      exact k t (.copy j lo hi g o) _ (k1.free (k2.free (k3.free (k4.free (k5.free ht))))) upd_same ⟨by omega, hlh, ⟨c1, c2⟩, by omega⟩
        (by walk_at "g_pot") (by walk_at "g_kp")
    · walk_at "gs"
      refine i_dec (fun c2 => ?_) (fun c2 => ?_)
      · walk_at "gs"
        refine use_value hp3 (fun v H4 f1 f2 hp4 k4 => ?_)
        walk_at "gs"
        refine i_new fun t ht => ?_
        walk_at "gs"
        exact k t (.fill j lo (min hi (lo + 1)) v) _ (k1.free (k2.free (k3.free (k4.free ht)))) upd_same ⟨by omega, by omega, f1, f2⟩
          (by walk_at "g_pot") (by walk_at "g_kp")
      · walk_at "gs"
        refine use_value hp3 (fun v H4 f1 f2 hp4 k4 => ?_)
        walk_at "gs"
        refine i_new fun t ht => ?_
        walk_at "gs"
        exact k t (.fill j lo hi v) _ (k1.free (k2.free (k3.free (k4.free ht)))) upd_same ⟨by omega, hlh, f1, f2⟩
          (by walk_at "g_pot") (by walk_at "g_kp")
theorem use_deed {H : Hp} {Q : VK} {E : XK} {p : Addr} {w : Int} (hp : PotAt H p) (h1 : 1 ≤ w) (h2 : w ≤ 1000000000000000000)
    (k : ∀ t d H', Fr H t → H' t = some (.tup (Deed.vs d)) → d.Ok w → PotAt H' p → Kp [p] H H' → Q (.ref t) H') :
    sp_law_deed [.ref p, .int w] H Q E := ⟨p, w, rfl, hp, ⟨h1, h2⟩, k⟩

/-! ### two memories and what a deed makes of them -/
def chg (c : Nat → List Int) (j : Nat) (x : List Int) : Nat → List Int := fun i => if i = j then x else c i
structure Duo (K : PySem.W.Frag) (C B : Addr) (m : Nat → Addr) (w : Nat) (c : Nat → List Int) (H : Hp) : Prop where
  mem : ∀ j, j < 2 → MemAt K C H (m j) (c j)
  len : ∀ j, j < 2 → (c j).length = w
  hB : H B = some (.lst [.ref (m 0), .ref (m 1)])
def Two2 (m : Nat → Addr) : Prop := ∀ i j, i < 2 → j < 2 → i ≠ j → m i ≠ m j
section
variable {K : PySem.W.Frag} {C p B : Addr} {m : Nat → Addr} {w j : Nat} {c : Nat → List Int} {H H' : Hp} {ws : List Addr}
theorem Duo.ins (t : Duo K C B m w c H) (hj : j < 2) : ∃ dx fs, H (m j) = some (.ins C dx fs) := by
  obtain ⟨dx, l, e, _⟩ := t.mem j hj
  exact ⟨dx, _, e⟩
theorem Duo.kp0 (t : Duo K C B m w c H) (k : Kp [] H H') : Duo K C B m w c H' :=
  ⟨fun j hj => mem_kp0 (t.mem j hj) k, t.len, k.at_ _ _ t.hB not_nil⟩
theorem Duo.kpp (t : Duo K C B m w c H) (k : Kp [p] H H') (hp : PotAt H p) : Duo K C B m w c H' := by
  obtain ⟨x, y, e, _⟩ := id hp
  exact ⟨fun j hj => mem_kp1 (t.mem j hj) k (oth_pot hp), t.len, k.at_ _ _ t.hB (not_one (two_ne t.hB e fun z => nomatch z))⟩
theorem Duo.set (t : Duo K C B m w c H) (a : Two2 m) (hj : j < 2) {x : List Int} (hx : x.length = w)
    (k : Kp [m j] H H') (hm : MemAt K C H' (m j) x) : Duo K C B m w (chg c j x) H' := by
  obtain ⟨dx, fs, e1⟩ := t.ins hj
  refine ⟨fun i hi => ?_, fun i hi => ?_, k.at_ _ _ t.hB (not_one (two_ne t.hB e1 fun z => nomatch z))⟩
  · unfold chg
    by_cases z : i = j
    · rw [if_pos z, z]
      exact hm
    · rw [if_neg z]
      exact mem_kp1 (t.mem i hi) k (.inr (.inl ⟨a j i hj hi (Ne.symm z), _, _, _, e1⟩))
  · unfold chg
    by_cases z : i = j
    · rw [if_pos z]
      exact hx
    · rw [if_neg z]
      exact t.len i hi
def duoW (m : Nat → Addr) : List Addr := [m 0, m 1]
theorem duo_m (hj : j < 2) : m j ∈ duoW m := by
  have e : j = 0 ∨ j = 1 := by omega
  rcases e with rfl | rfl <;> simp [duoW]
theorem duo_kp (hj : j < 2) (k : Kp [m j] H H') : Kp (duoW m) H H' := k.mono fun b hb => by
  rw [List.mem_singleton.mp hb]
  exact duo_m hj
theorem duo_pot (t : Duo K C B m w c H) (hp : PotAt H p) (k : Kp (duoW m) H H') : PotAt H' p := by
  refine hp.kp k fun hb => ?_
  have two : ∀ b ∈ duoW m, ∃ j, j < 2 ∧ b = m j := fun b hb => by
    rcases List.mem_cons.mp hb with rfl | hb
    · exact ⟨0, by decide, rfl⟩
    · exact ⟨1, by decide, List.mem_singleton.mp hb⟩
  obtain ⟨j, hj, e⟩ := two p hb
  exact pot_ne_mem hp (t.mem j hj) e
theorem at_twoN {f : Nat → V} {r : Nat} (h1 : r < 2) : atI [f 0, f 1] (r : Int) = some (f r) := by
  have e : r = 0 ∨ r = 1 := by omega
  rcases e with rfl | rfl <;> rfl
end
theorem duo_off {K : PySem.W.Frag} {C B : Addr} {m : Nat → Addr} {w j : Nat} {c : Nat → List Int} {H H' : Hp} (t : Duo K C B m w c H) (a : Two2 m) (hj : j < 2)
    (k : Kp [m j] H H') (of : ∀ b, Tr H b → Off H' (m j) b) : ∀ i b, i < 2 → Tr H b → Off H (m i) b → Off H' (m i) b := by
  intro i b hi hb ho
  by_cases z : i = j
  · rw [z]
    exact of b hb
  · exact off_kp k (tr_mem (t.mem i hi)) (not_one (a i j hi hj z)) ho
def stepD (c : Nat → List Int) : Deed → Nat → List Int
  | .fill j lo hi v => chg c j (laid (c j) lo.toNat (List.replicate (hi - lo).toNat v) hi.toNat)
  | .copy j lo hi g o => chg c j (laid (c j) g.toNat (((c o).drop lo.toNat).take (hi.toNat - lo.toNat)) (g + hi - lo).toNat)
def sp_law_do (K : PySem.W.Frag) (C : Addr) : Sp := fun vs H Q _ => ∃ (B t : Addr) (m : Nat → Addr) (w : Nat) (c : Nat → List Int) (d : Deed),
  vs = [.ref B, .ref t] ∧ Duo K C B m w c H ∧ Two2 m ∧ SqT K H t d.vs ∧ d.Ok w ∧ (∀ j, j < 2 → (rle (c j)).length ≤ 10000) ∧
  ∀ H', Kp (duoW m) H H' → Duo K C B m w (stepD c d) H' → (∀ j b, j < 2 → Tr H b → Off H (m j) b → Off H' (m j) b) → Q .non H'
theorem sc_law_do : FnScope ["_law_both", "_law_deed_here"] ["_law_both", "_law_deed_here"] (defScope s_law_do) :=
  ⟨rfl, rfl, rfl, by decide +kernel, rfl, by decide +kernel, by decide +kernel⟩
theorem ok_law_do {P : Program} {w : World} {K : PySem.W.Frag} {mg : Str → Option Value} {base : Heap} (T : Txt K mg) :
    FnG P w K mg base 5 T.a_law_do T.d_law_do ["_law_both", "_law_deed_here"] (sp_law_do K T.c_Memory) := by
  refine okD T.F_law_do sc_law_do (fun vs H Q E h => ?_) (fun cdv A outer s H vs Q E hr h => ?_)
  · first
      | (obtain ⟨_, rfl, _⟩ := h; rfl)
      | (obtain ⟨_, _, rfl, _⟩ := h; rfl)
      | (obtain ⟨_, _, _, rfl, _⟩ := h; rfl)
      | (obtain ⟨_, _, _, _, rfl, _⟩ := h; rfl)
      | (obtain ⟨_, _, _, _, _, rfl, _⟩ := h; rfl)
      | (obtain ⟨_, _, _, _, _, _, rfl, _⟩ := h; rfl)
      | (obtain ⟨_, _, _, _, _, _, _, rfl, _⟩ := h; rfl)
      | (obtain ⟨_, _, _, _, _, _, _, _, rfl, _⟩ := h; rfl)
      | (obtain ⟨_, _, _, _, _, _, _, _, _, rfl, _⟩ := h; rfl)
      | (obtain ⟨_, _, _, _, _, _, _, _, _, _, rfl, _⟩ := h; rfl)
      | (obtain ⟨_, _, _, _, _, _, _, _, _, _, _, rfl, _⟩ := h; rfl)
  · obtain ⟨B, t, m, w, c, d, rfl, D, ap, hT, ok, few, k⟩ := h
    have hB := D.hB
    have cl_Memory := T.cl_Memory
    have na_Memory_pairs := T.na_Memory_pairs
    have na_Memory_wide := T.na_Memory_wide
    refine ⟨_, (pss_cons (ps_if (PW.pt (pw_and (pt_cmpR (k_eq (K := K) rfl hr.r.units) (pe_ix (k_ix (K := K) rfl) (pv 1) pe_int (fun _ _ => rfl)) pe_str (nomark _)) (pw_and (pt_cmpR (k_eq (K := K) rfl hr.r.units) (pe_ix (k_ix (K := K) rfl) (pv 1) pe_int (fun _ _ => rfl)) (pe_op (k_add (K := K) rfl) (pe_ix (k_ix (K := K) rfl) (pv 1) pe_int (fun _ _ => rfl)) pe_int) (nomark _)) (pw_and1 (pt_cmpR (k_eq (K := K) rfl hr.r.units) (pe_op o_mod (pe_ix (k_ix (K := K) rfl) (pv 1) pe_int (fun _ _ => rfl)) pe_int) pe_int (nomark _)))))) (pss_one (ps_ret (dm T.cl_Memory T.me_Memory_put (ok_Memory_put T) (hr.mono (by decide)) T.b_Memory_put passL (pe_ix (k_ix (K := K) rfl) (pv 0) (pe_ix (k_ix (K := K) rfl) (pv 1) pe_int (fun _ _ => rfl)) (fun _ _ => rfl)) (pa_cons (pe_ix (k_ix (K := K) rfl) (pv 1) pe_int (fun _ _ => rfl)) (pa_cons (pe_ix (k_ix (K := K) rfl) (pv 1) pe_int (fun _ _ => rfl)) pa_nil))))) pss_nil)
      (pss_cons (ps_if (pt_cmpR (k_eq (K := K) rfl hr.r.units) (pe_ix (k_ix (K := K) rfl) (pv 1) pe_int (fun _ _ => rfl)) pe_str (nomark _)) (pss_one (ps_ret (dm T.cl_Memory T.me_Memory_fill (ok_Memory_fill T) (hr.mono (by decide)) T.b_Memory_fill passL (pe_ix (k_ix (K := K) rfl) (pv 0) (pe_ix (k_ix (K := K) rfl) (pv 1) pe_int (fun _ _ => rfl)) (fun _ _ => rfl)) (pa_cons (pe_ix (k_ix (K := K) rfl) (pv 1) pe_int (fun _ _ => rfl)) (pa_cons (pe_ix (k_ix (K := K) rfl) (pv 1) pe_int (fun _ _ => rfl)) (pa_cons (pe_ix (k_ix (K := K) rfl) (pv 1) pe_int (fun _ _ => rfl)) pa_nil)))))) pss_nil)
      (pss_cons (ps_if (PW.pt (pw_and (pt_cmpR (k_eq (K := K) rfl hr.r.units) (pe_ix (k_ix (K := K) rfl) (pv 1) pe_int (fun _ _ => rfl)) (pe_ix (k_ix (K := K) rfl) (pv 1) pe_int (fun _ _ => rfl)) (nomark _)) (pw_and1 (pt_cmpR (k_eq (K := K) rfl hr.r.units) (pe_op o_mod (pe_ix (k_ix (K := K) rfl) (pv 1) pe_int (fun _ _ => rfl)) pe_int) pe_int (nomark _))))) (pss_one (ps_ret (dm T.cl_Memory T.me_Memory_bring (ok_Memory_bring T) (hr.mono (by decide)) T.b_Memory_bring passL (pe_ix (k_ix (K := K) rfl) (pv 0) (pe_ix (k_ix (K := K) rfl) (pv 1) pe_int (fun _ _ => rfl)) (fun _ _ => rfl)) (pa_cons (pe_ix (k_ix (K := K) rfl) (pv 1) pe_int (fun _ _ => rfl)) (pa_cons (pe_ix (k_ix (K := K) rfl) (pv 1) pe_int (fun _ _ => rfl)) (pa_cons (pe_ix (k_ix (K := K) rfl) (pv 1) pe_int (fun _ _ => rfl)) pa_nil)))))) pss_nil)
      (pss_one (ps_ret (km T.cl_Memory T.me_Memory_bring (ok_Memory_bring T) (hr.mono (by decide)) T.kb_Memory_bring_4_source passL (pe_ix (k_ix (K := K) rfl) (pv 0) (pe_ix (k_ix (K := K) rfl) (pv 1) pe_int (fun _ _ => rfl)) (fun _ _ => rfl)) (pa_cons (pe_ix (k_ix (K := K) rfl) (pv 1) pe_int (fun _ _ => rfl)) (pa_cons (pe_ix (k_ix (K := K) rfl) (pv 1) pe_int (fun _ _ => rfl)) (pa_cons (pe_ix (k_ix (K := K) rfl) (pv 1) pe_int (fun _ _ => rfl)) pa_nil))) (pk_cons (pe_ix (k_ix (K := K) rfl) (pv 0) (pe_ix (k_ix (K := K) rfl) (pv 1) pe_int (fun _ _ => rfl)) (fun _ _ => rfl)) pk_nil))))))), ?_⟩
    dsimp only [cxOf, st_1, st_2, st_3, st_4, st_5, st_6, List.length_cons, List.length_nil, List.replicate_succ, List.replicate_zero, Nat.reduceAdd, Nat.reduceSub]
    cases d with
    | fill j lo hi v =>
      obtain ⟨hj, hlh, _, _⟩ := ok
      have hat : atI [V.ref (m 0), V.ref (m 1)] (j : Int) = some (.ref (m j)) := at_twoN (f := fun j => .ref (m j)) hj
      have hm := D.mem j hj
      have hl := D.len j hj
      have hf := few j hj
      obtain ⟨dx, l, hmi, ld⟩ := id hm
      have hlen : (List.replicate (hi - lo).toNat v).length = hi.toNat - lo.toNat := by
        rw [List.length_replicate]
        omega
      have fin : ∀ H', Kp [m j] H H' → MemAt K T.c_Memory H' (m j) (laid (c j) lo.toNat (List.replicate (hi - lo).toNat v) hi.toNat) → (∀ b, Tr H b → Off H' (m j) b) → Q .non H' :=
        fun H' kk hM of => k H' (duo_kp hj kk) (D.set ap hj (by rw [laid_len (by omega) (by omega) hlen, hl]) kk hM) (duo_off D ap hj kk of)
      have one : ∀ E, hi = lo + 1 → sp_put K T.c_Memory [.ref (m j), .int lo, .int v] H Q E := by
        intro E e
        refine ⟨_, _, _, c j, rfl, hm, hf, by omega, fun H' kk hM of => fin H' kk ?_ of⟩
        have e1 : (hi - lo).toNat = 1 := by omega
        rw [e1, e]
        exact hM
      have many : ∀ E, sp_fill K T.c_Memory [.ref (m j), .int lo, .int hi, .int v] H Q E := by
        intro E
        exact ⟨_, _, _, _, c j, rfl, hm, hf, by omega, fin⟩
      walk_at "gs"
      refine i_dec (fun _ => ?_) (fun z => absurd rfl z)
      walk_at "gs"
      refine i_dec (fun c1 => ?_) (fun c1 => ?_)
      · walk_at "gs"
        refine i_dec (fun c2 => ?_) (fun c2 => ?_)
        · walk_at "gs"
          exact one _ c1
        · walk_at "gs"
          refine i_dec (fun _ => ?_) (fun z => absurd rfl z)
          walk_at "gs"
          exact many _
      · walk_at "gs"
        refine i_dec (fun _ => ?_) (fun z => absurd rfl z)
        walk_at "gs"
        exact many _
    | copy j lo hi g o =>
      obtain ⟨hj, hlh, hg, ho⟩ := ok
      have hat : atI [V.ref (m 0), V.ref (m 1)] (j : Int) = some (.ref (m j)) := at_twoN (f := fun j => .ref (m j)) hj
      have hao : atI [V.ref (m 0), V.ref (m 1)] (o : Int) = some (.ref (m o)) := at_twoN (f := fun j => .ref (m j)) ho
      have hm := D.mem j hj
      have hl := D.len j hj
      have hf := few j hj
      have hlo := D.len o ho
      obtain ⟨dx, l, hmi, ld⟩ := id hm
      have hlen : (((c o).drop lo.toNat).take (hi.toNat - lo.toNat)).length = (g + hi - lo).toNat - g.toNat := by
        rw [List.length_take, List.length_drop, hlo]
        omega
      have fin : ∀ H', Kp [m j] H H' → MemAt K T.c_Memory H' (m j) (laid (c j) g.toNat (((c o).drop lo.toNat).take (hi.toNat - lo.toNat)) (g + hi - lo).toNat) → (∀ b, Tr H b → Off H' (m j) b) → Q .non H' :=
        fun H' kk hM of => k H' (duo_kp hj kk) (D.set ap hj (by rw [laid_len (by omega) (by omega) hlen, hl]) kk hM) (duo_off D ap hj kk of)
      have go : ∀ (E : XK) (src : V), ((src = .non ∧ m j = m o ∧ c j = c o) ∨ src = .ref (m o)) →
          sp_bring K T.c_Memory [.ref (m j), .int lo, .int hi, .int g, src] H Q E := by
        intro E src hsrc
        exact ⟨_, _, _, _, _, m o, c j, c o, rfl, hm, D.mem o ho, hsrc, by omega, hf, few o ho, by omega, by omega, fin⟩
      have ne : ¬ (("copy" : Str) = "fill") := by decide +kernel
      walk_at "gs"
      refine i_dec (fun z => absurd z ne) (fun _ => ?_)
      walk_at "gs"
      refine i_dec (fun z => absurd z ne) (fun _ => ?_)
      walk_at "gs"
      have same : (j : Int) = o → ((V.non = V.non) ∧ m j = m o ∧ c j = c o) := by
        intro e
        have e2 : j = o := by omega
        subst e2
        exact ⟨rfl, rfl, rfl⟩
      refine i_dec (fun c1 => ?_) (fun c1 => ?_)
      · walk_at "gs"
        refine i_dec (fun c2 => ?_) (fun c2 => ?_)
        · walk_at "gs"
          exact go _ _ (.inl (same c1))
        · walk_at "gs"
          exact go _ _ (.inr rfl)
      · walk_at "gs"
        exact go _ _ (.inr rfl)

/-! ### what a cell had -/
def Deed.pd : Deed → PyData
  | .fill j lo hi v => .tuple [.str "fill", .int j, .int lo, .int hi, .int v]
  | .copy j lo hi g o => .tuple [.str "copy", .int j, .int lo, .int hi, .int g, .int o]
theorem imm_pd (d : Deed) : imm d.pd = true := by cases d <;> rfl
theorem imms_pd : ∀ ds : List Deed, imms (ds.map Deed.pd) = true
  | [] => rfl
  | d :: ds => by
    have h := imms_pd ds
    show (imm d.pd && imms (ds.map Deed.pd)) = true
    rw [imm_pd, h]
    rfl
theorem dp_deed {K : PySem.W.Frag} {H : Hp} {v : V} {d : Deed} (h : Dp K H v d.pd) : ∃ t, v = .ref t ∧ SqT K H t d.vs := by
  cases d with
  | fill j lo hi x =>
    cases h with
    | tup hs ha =>
      cases ha with
      | cons h1 ha =>
      cases ha with
      | cons h2 ha =>
      cases ha with
      | cons h3 ha =>
      cases ha with
      | cons h4 ha =>
      cases ha with
      | cons h5 ha =>
      cases ha
      cases h1
      cases h2
      cases h3
      cases h4
      cases h5
      exact ⟨_, rfl, hs⟩
  | copy j lo hi g o =>
    cases h with
    | tup hs ha =>
      cases ha with
      | cons h1 ha =>
      cases ha with
      | cons h2 ha =>
      cases ha with
      | cons h3 ha =>
      cases ha with
      | cons h4 ha =>
      cases ha with
      | cons h5 ha =>
      cases ha with
      | cons h6 ha =>
      cases ha
      cases h1
      cases h2
      cases h3
      cases h4
      cases h5
      cases h6
      exact ⟨_, rfl, hs⟩
theorem dp_mkD {K : PySem.W.Frag} {H : Hp} {t : Addr} {d : Deed} (h : SqT K H t d.vs) : Dp K H (.ref t) d.pd := by
  cases d with
  | fill j lo hi x => exact .tup h (.cons (.str _) (.cons (.int _) (.cons (.int _) (.cons (.int _) (.cons (.int _) .nil)))))
  | copy j lo hi g o => exact .tup h (.cons (.str _) (.cons (.int _) (.cons (.int _) (.cons (.int _) (.cons (.int _) (.cons (.int _) .nil))))))
def hadR (f : Nat → Int) : List Deed → Nat → Int → Int
  | [], j, _ => f j
  | .fill i lo hi v :: r, j, x => if i = j ∧ lo ≤ x ∧ x < hi then v else hadR f r j x
  | .copy i lo hi g o :: r, j, x => if i = j ∧ g ≤ x ∧ x < g + hi - lo then hadR f r o (x - g + lo) else hadR f r j x
def sp_law_had (K : PySem.W.Frag) : Sp := fun vs H Q _ => ∃ (l a : Addr) (f : Nat → Int) (ds : List Deed) (j : Nat) (x w : Int),
  vs = [.ref l, .ref a, .int j, .int x] ∧ LD K H l (ds.map Deed.pd) ∧ SqL K H a [.int (f 0), .int (f 1)] ∧ j < 2 ∧ (∀ d ∈ ds, d.Ok w) ∧ ds.length ≤ 1000 ∧
  ∀ H', Kp [] H H' → Q (.int (hadR f ds.reverse j x)) H'
theorem sc_law_had : FnScope ["_law_deeds", "_law_firsts", "_law_which", "_law_cell_at", "_law_deed_here"] ["_law_deeds", "_law_firsts", "_law_which", "_law_cell_at"] (defScope s_law_had) :=
  ⟨rfl, rfl, rfl, by decide +kernel, rfl, by decide +kernel, by decide +kernel⟩
theorem ok_law_had {P : Program} {w : World} {K : PySem.W.Frag} {mg : Str → Option Value} {base : Heap} (T : Txt K mg) :
    FnG P w K mg base 1 T.a_law_had T.d_law_had ["_law_deeds", "_law_firsts", "_law_which", "_law_cell_at"] (sp_law_had K) := by
  refine okD T.F_law_had sc_law_had (fun vs H Q E h => ?_) (fun cdv A outer s H vs Q E hr h => ?_)
  · first
      | (obtain ⟨_, rfl, _⟩ := h; rfl)
      | (obtain ⟨_, _, rfl, _⟩ := h; rfl)
      | (obtain ⟨_, _, _, rfl, _⟩ := h; rfl)
      | (obtain ⟨_, _, _, _, rfl, _⟩ := h; rfl)
      | (obtain ⟨_, _, _, _, _, rfl, _⟩ := h; rfl)
      | (obtain ⟨_, _, _, _, _, _, rfl, _⟩ := h; rfl)
      | (obtain ⟨_, _, _, _, _, _, _, rfl, _⟩ := h; rfl)
      | (obtain ⟨_, _, _, _, _, _, _, _, rfl, _⟩ := h; rfl)
      | (obtain ⟨_, _, _, _, _, _, _, _, _, rfl, _⟩ := h; rfl)
      | (obtain ⟨_, _, _, _, _, _, _, _, _, _, rfl, _⟩ := h; rfl)
      | (obtain ⟨_, _, _, _, _, _, _, _, _, _, _, rfl, _⟩ := h; rfl)
  · obtain ⟨l, a, f, ds, j, x, w, rfl, ld, ha, hj, hok, hn, k⟩ := h
    obtain ⟨vs, hv, hall⟩ := id ld
    have hvl := dpa_len hall
    rw [List.length_map] at hvl
    have hallr : DpAll K H vs.reverse (ds.reverse.map Deed.pd) := by
      rw [List.map_reverse]
      exact dpa_rev hall
    have nofill : ¬ (("copy" : Str) = "fill") := by decide +kernel
    have nocopy : ¬ (("fill" : Str) = "copy") := by decide +kernel
    refine ⟨_, (pss_cons (ps_for (passes_of rfl) rfl (k_plist (K := K) rfl (k_rev (K := K) rfl (pv 0))) (pg_name (i := 4) sc_law_had.nd rfl (Or.inl rfl))
      (pss_cons (ps_if (PW.pt (pw_and (pt_cmpR (k_eq (K := K) rfl hr.r.units) (pe_ix (k_ix (K := K) rfl) (pv 4) pe_int (fun _ _ => rfl)) (pv 2) (nomark _)) (pw_and (pt_cmpR (k_eq (K := K) rfl hr.r.units) (pe_ix (k_ix (K := K) rfl) (pv 4) pe_int (fun _ _ => rfl)) pe_str (nomark _)) (pw_and1 (pt_chain op_le op_lt (pe_ix (k_ix (K := K) rfl) (pv 4) pe_int (fun _ _ => rfl)) (pv 3) (pe_ix (k_ix (K := K) rfl) (pv 4) pe_int (fun _ _ => rfl))))))) (pss_one (ps_ret (pe_ix (k_ix (K := K) rfl) (pv 4) pe_int (fun _ _ => rfl)))) pss_nil)
      (pss_one (ps_if (PW.pt (pw_and (pt_cmpR (k_eq (K := K) rfl hr.r.units) (pe_ix (k_ix (K := K) rfl) (pv 4) pe_int (fun _ _ => rfl)) (pv 2) (nomark _)) (pw_and (pt_cmpR (k_eq (K := K) rfl hr.r.units) (pe_ix (k_ix (K := K) rfl) (pv 4) pe_int (fun _ _ => rfl)) pe_str (nomark _)) (pw_and1 (pt_chain op_le op_lt (pe_ix (k_ix (K := K) rfl) (pv 4) pe_int (fun _ _ => rfl)) (pv 3) (pe_op op_sub (pe_op (k_add (K := K) rfl) (pe_ix (k_ix (K := K) rfl) (pv 4) pe_int (fun _ _ => rfl)) (pe_ix (k_ix (K := K) rfl) (pv 4) pe_int (fun _ _ => rfl))) (pe_ix (k_ix (K := K) rfl) (pv 4) pe_int (fun _ _ => rfl)))))))) (pss_one (ps_par (i := 3) (j := 2) (by rfl) sc_law_had.nd rfl rfl (by decide) rfl rfl (pa_cons (pe_op (k_add (K := K) rfl) (pe_op op_sub (pv 3) (pe_ix (k_ix (K := K) rfl) (pv 4) pe_int (fun _ _ => rfl))) (pe_ix (k_ix (K := K) rfl) (pv 4) pe_int (fun _ _ => rfl))) (pa_cons (pe_ix (k_ix (K := K) rfl) (pv 4) pe_int (fun _ _ => rfl)) pa_nil)) (by rfl))) pss_nil))))
      (pss_one (ps_ret (pe_ix (k_ix (K := K) rfl) (pv 1) (pv 2) (fun _ _ => rfl))))), ?_⟩
    dsimp only [cxOf, st_1, st_2, st_3, st_4, st_5, st_6, List.length_cons, List.length_nil, List.replicate_succ, List.replicate_zero, Nat.reduceAdd, Nat.reduceSub]
    walk_at "gs"
    refine i_new fun r hr1 => ?_
    walk_at "gs"
    refine i_each (SqL.of upd_same) (fun i σ H' => ∃ j' x' u, σ = [some (.ref l), some (.ref a), some (.int (j' : Nat)), some (.int x'), u] ∧ j' < 2 ∧
      Kp [] (upd H r (.lst vs.reverse)) H' ∧ hadR f (ds.reverse.drop i) j' x' = hadR f ds.reverse j x) ?_ ?_ ?_ ?_
    · exact ⟨j, x, none, rfl, hj, Kp.refl, rfl⟩
    · rintro i σ H' _ ⟨j', x', u, rfl, hj', kp, e⟩
      exact SqL.of (kp.at_ _ _ upd_same not_nil)
    · rintro i v σ H' hx ⟨j', x', u, rfl, hj', kp, e⟩
      obtain ⟨d0, hd0, hdp⟩ := dpa_getV hallr hx
      obtain ⟨d, hd, rfl⟩ := map_get hd0
      have k0 : Kp [] H H' := Kp.trans (H1 := upd H r (.lst vs.reverse)) (by walk_at "g_kp") kp
      obtain ⟨t, rfl, hT⟩ := dp_deed (dp_imm k0 _ _ (imm_pd d) hdp)
      have hdr : ds.reverse.drop i = d :: ds.reverse.drop (i + 1) := by
        obtain ⟨hi, e2⟩ := List.getElem?_eq_some_iff.mp hd
        rw [List.drop_eq_getElem_cons hi, e2]
      have hdo := hok d (List.mem_reverse.mp (List.mem_of_getElem? hd))
      rw [hdr] at e
      cases d with
      | fill i2 lo hi v =>
        have kk : Kp [] H H' := k0
        -- not this one
        have on : ¬ (i2 = j' ∧ lo ≤ x' ∧ x' < hi) → hadR f (ds.reverse.drop (i + 1)) j' x' = hadR f ds.reverse j x := by
          intro z
          rw [← e]
          show _ = if i2 = j' ∧ lo ≤ x' ∧ x' < hi then v else hadR f (ds.reverse.drop (i + 1)) j' x'
          rw [if_neg z]
        have here : (i2 = j' ∧ lo ≤ x' ∧ x' < hi) → v = hadR f ds.reverse j x := by
          intro z
          rw [← e]
          show _ = if i2 = j' ∧ lo ≤ x' ∧ x' < hi then v else hadR f (ds.reverse.drop (i + 1)) j' x'
          rw [if_pos z]
        walk_at "gs"
        refine i_dec (fun c => ?_) (fun c => ?_)
        · walk_at "gs"
          refine i_dec (fun _ => ?_) (fun z => absurd rfl z)
          walk_at "gs"
          refine i_dec (fun c2 => ?_) (fun c2 => ?_)
          · walk_at "gs"
            refine i_dec (fun c3 => ?_) (fun c3 => ?_)
            · walk_at "gs"
              rw [here ⟨by omega, c2, c3⟩]
              exact k H' kk
            · walk_at "gs"
              refine i_dec (fun c4 => ?_) (fun c4 => absurd c c4)
              walk_at "gs"
              refine i_dec (fun z => absurd z nocopy) (fun _ => ?_)
              walk_at "gs"
              exact ⟨_, _, _, rfl, hj', kp, on (by omega)⟩
          · walk_at "gs"
            refine i_dec (fun c4 => ?_) (fun c4 => absurd c c4)
            walk_at "gs"
            refine i_dec (fun z => absurd z nocopy) (fun _ => ?_)
            walk_at "gs"
            exact ⟨_, _, _, rfl, hj', kp, on (by omega)⟩
        · walk_at "gs"
          refine i_dec (fun c4 => absurd c4 c) (fun _ => ?_)
          walk_at "gs"
          exact ⟨_, _, _, rfl, hj', kp, on (by omega)⟩
      | copy i2 lo hi g o =>
        obtain ⟨hi2, hlh, hg, ho⟩ := hdo
        have on : ¬ (i2 = j' ∧ g ≤ x' ∧ x' < g + hi - lo) → hadR f (ds.reverse.drop (i + 1)) j' x' = hadR f ds.reverse j x := by
          intro z
          rw [← e]
          show _ = if i2 = j' ∧ g ≤ x' ∧ x' < g + hi - lo then hadR f (ds.reverse.drop (i + 1)) o (x' - g + lo) else hadR f (ds.reverse.drop (i + 1)) j' x'
          rw [if_neg z]
        have here : (i2 = j' ∧ g ≤ x' ∧ x' < g + hi - lo) → hadR f (ds.reverse.drop (i + 1)) o (x' - g + lo) = hadR f ds.reverse j x := by
          intro z
          rw [← e]
          show _ = if i2 = j' ∧ g ≤ x' ∧ x' < g + hi - lo then hadR f (ds.reverse.drop (i + 1)) o (x' - g + lo) else hadR f (ds.reverse.drop (i + 1)) j' x'
          rw [if_pos z]
        walk_at "gs"
        refine i_dec (fun c => ?_) (fun c => ?_)
        · walk_at "gs"
          refine i_dec (fun z => absurd z nofill) (fun _ => ?_)
          walk_at "gs"
          refine i_dec (fun _ => ?_) (fun z => absurd c z)
          walk_at "gs"
          refine i_dec (fun _ => ?_) (fun z => absurd rfl z)
          walk_at "gs"
          refine i_dec (fun c2 => ?_) (fun c2 => ?_)
          · walk_at "gs"
            refine i_dec (fun c3 => ?_) (fun c3 => ?_)
            · walk_at "gs"
              exact ⟨_, _, _, rfl, ho, kp, here ⟨by omega, c2, c3⟩⟩
            · walk_at "gs"
              exact ⟨_, _, _, rfl, hj', kp, on (by omega)⟩
          · walk_at "gs"
            exact ⟨_, _, _, rfl, hj', kp, on (by omega)⟩
        · walk_at "gs"
          refine i_dec (fun c4 => absurd c4 c) (fun _ => ?_)
          walk_at "gs"
          exact ⟨_, _, _, rfl, hj', kp, on (by omega)⟩
    · rintro σ H' ⟨j', x', u, rfl, hj', kp, e⟩
      have hf : atI [V.int (f 0), V.int (f 1)] (j' : Int) = some (.int (f j')) := at_twoN (f := fun j => .int (f j)) hj'
      have ha2 := (Kp.trans (H1 := upd H r (.lst vs.reverse)) (by walk_at "g_kp") kp : Kp [] H H').seqL not_nil ha
      walk_at "gs"
      rw [List.drop_eq_nil_of_le (by rw [List.length_reverse, List.length_reverse]; omega)] at e
      rw [← e] at k
      exact k H' (Kp.trans (H1 := upd H r (.lst vs.reverse)) (by walk_at "g_kp") kp)

/-! ### the points where something may change -/
def Deed.j : Deed → Nat
  | .fill j _ _ _ => j
  | .copy j _ _ _ _ => j
def moreP (P : Nat → List Int) : Deed → List Int
  | .fill _ lo hi _ => [lo, hi]
  | .copy _ lo hi g o => [g, g + hi - lo] ++ ((P o).filter fun x => decide (lo ≤ x ∧ x < hi)).map fun x => x - lo + g
def stepP (P : Nat → List Int) (d : Deed) : Nat → List Int := fun i => if i = d.j then (moreP P d).foldl addK (P d.j) else P i
def pts (ds : List Deed) : Nat → List Int := ds.foldl stepP fun _ => [0]
def pickA (a b : Addr) : Nat → Addr
  | 0 => a
  | _ => b
theorem i_slT {K : PySem.W.Frag} {H : Hp} {Q : VK} {t : Addr} {d : Deed} {lo hi : Int} (h : SqT K H t d.vs)
    (e : (∃ j v, d = .fill j lo hi v) ∨ ∃ j g o, d = .copy j lo hi g o)
    (q : New H fun p => Q (.ref p) (upd H p (.tup [.int lo, .int hi]))) : rSlT K (.ref t) (some 2) (some 4) H Q := by
  rcases e with ⟨j, v, rfl⟩ | ⟨j, g, o, rfl⟩
  · exact ⟨t, _, rfl, h, fun z => absurd (show (2 : Nat) = 0 from z.1) (by decide), q⟩
  · exact ⟨t, _, rfl, h, fun z => absurd (show (2 : Nat) = 0 from z.1) (by decide), q⟩
structure Pt (H H' : Hp) (F : Addr) (D : Nat → Addr) (P : Nat → List Int) : Prop where
  kp : Kp [] H H'
  hF : H' F = some (.lst [.ref (D 0), .ref (D 1)])
  hD : ∀ j, j < 2 → H' (D j) = some (.dK ((P j).map kT))
section
variable {H H' H'' : Hp} {F x : Addr} {D : Nat → Addr} {P : Nat → List Int} {j : Nat} {ns : List Int} {o : HO}
theorem Pt.kp0 (t : Pt H H' F D P) (k : Kp [] H' H'') : Pt H H'' F D P :=
  ⟨Kp.trans t.kp k, k.at_ _ _ t.hF not_nil, fun j hj => k.at_ _ _ (t.hD j hj) not_nil⟩
theorem Pt.set (t : Pt H H' F D P) (a : Two2 D) (f : ∀ j, j < 2 → Fr H (D j)) (hj : j < 2) :
    Pt H (upd H' (D j) (.dK (ns.map kT))) F D (fun i => if i = j then ns else P i) := by
  refine ⟨Kp.upd t.kp (f j hj), ?_, fun i hi => ?_⟩
  · rw [upd_ne (two_ne t.hF (t.hD j hj) fun z => nomatch z)]
    exact t.hF
  · by_cases z : i = j
    · subst z
      simp only [if_true]
      exact upd_same
    · simp only [if_neg z]
      rw [upd_ne (a i j hi hj z)]
      exact t.hD i hi
theorem Pt.ext (t : Pt H H' F D P) {P' : Nat → List Int} (e : ∀ i, P' i = P i) : Pt H H' F D P' := by
  have : P' = P := funext e
  rw [this]
  exact t
theorem pts_take {ds : List Deed} {i : Nat} {d : Deed} (h : ds[i]? = some d) : pts (ds.take (i + 1)) = stepP (pts (ds.take i)) d := by
  unfold pts
  rw [List.take_add_one, h, List.foldl_append]
  rfl
end
theorem kp_unlock {H3 H4 : Hp} {d : Addr} {u v : HO} (h : H3 d = some u) (nu : ¬ Fix u) (k : Kp [] (upd H3 d v) H4) : Kp [] H3 (upd H4 d u) := by
  refine ⟨fun a o e n => ?_, fun a o e f => ?_, fun a o e => ?_⟩
  · by_cases z : a = d
    · subst z
      rw [h] at e
      cases e
      exact upd_same
    · rw [upd_ne z]
      exact k.at_ a o (by rw [upd_ne z]; exact e) not_nil
  · have z : a ≠ d := by
      intro z
      subst z
      rw [h] at e
      cases e
      exact nu f
    rw [upd_ne z]
    exact k.at_ a o (by rw [upd_ne z]; exact e) not_nil
  · by_cases z : a = d
    · exact ⟨u, by rw [z]; exact upd_same⟩
    · rw [upd_ne z]
      exact ⟨o, k.at_ a o (by rw [upd_ne z]; exact e) not_nil⟩
def sp_law_points (K : PySem.W.Frag) : Sp := fun vs H Q _ => ∃ (l : Addr) (w : Int) (ds : List Deed),
  vs = [.ref l, .int w] ∧ LD K H l (ds.map Deed.pd) ∧ (∀ d ∈ ds, d.Ok w) ∧ (∀ i j, j < 2 → (pts (ds.take i) j).length ≤ 10000) ∧
  ∀ (r : Addr) (s : Nat → Addr) (sr : Nat → List Int) H', Kp [] H H' → H' r = some (.lst [.ref (s 0), .ref (s 1)]) →
    (∀ j, j < 2 → H' (s j) = some (.lst ((sr j).map V.int)) ∧ (sr j).Perm ((pts ds j).filter fun x => decide (x < w)) ∧ (sr j).Pairwise (· ≤ ·)) → Q (.ref r) H'
theorem sc_law_points : FnScope ["_law_deeds", "_law_wide", "_law_found", "_law_deed_here", "_law_low", "_law_high", "_law_more", "_law_at", "_law_one"] ["_law_deeds", "_law_wide"] (defScope s_law_points) :=
  ⟨rfl, rfl, rfl, by decide +kernel, rfl, by decide +kernel, by decide +kernel⟩
theorem ok_law_points {P : Program} {w : World} {K : PySem.W.Frag} {mg : Str → Option Value} {base : Heap} (T : Txt K mg) :
    FnG P w K mg base 1 T.a_law_points T.d_law_points ["_law_deeds", "_law_wide"] (sp_law_points K) := by
  refine okD T.F_law_points sc_law_points (fun vs H Q E h => ?_) (fun cdv A outer s H vs Q E hr h => ?_)
  · first
      | (obtain ⟨_, rfl, _⟩ := h; rfl)
      | (obtain ⟨_, _, rfl, _⟩ := h; rfl)
      | (obtain ⟨_, _, _, rfl, _⟩ := h; rfl)
      | (obtain ⟨_, _, _, _, rfl, _⟩ := h; rfl)
      | (obtain ⟨_, _, _, _, _, rfl, _⟩ := h; rfl)
      | (obtain ⟨_, _, _, _, _, _, rfl, _⟩ := h; rfl)
      | (obtain ⟨_, _, _, _, _, _, _, rfl, _⟩ := h; rfl)
      | (obtain ⟨_, _, _, _, _, _, _, _, rfl, _⟩ := h; rfl)
      | (obtain ⟨_, _, _, _, _, _, _, _, _, rfl, _⟩ := h; rfl)
      | (obtain ⟨_, _, _, _, _, _, _, _, _, _, rfl, _⟩ := h; rfl)
      | (obtain ⟨_, _, _, _, _, _, _, _, _, _, _, rfl, _⟩ := h; rfl)
  · obtain ⟨l, w, ds, rfl, ld, hok, hn, k⟩ := h
    obtain ⟨vs, hv, hall⟩ := id ld
    have hvl := dpa_len hall
    rw [List.length_map] at hvl
    have cl_Memory := T.cl_Memory
    have na_Memory_pairs := T.na_Memory_pairs
    have na_Memory_wide := T.na_Memory_wide
    refine ⟨_, (pss_cons (ps_set (i := 2) sc_law_points.nd rfl (Or.inl rfl) (pe_lst (pa_cons (pe_disp (pps_cons pe_int pe_bl pps_nil) (by rfl) (by rfl) (fun z => by cases z) (by decide)) (pa_cons (pe_disp (pps_cons pe_int pe_bl pps_nil) (by rfl) (by rfl) (fun z => by cases z) (by decide)) pa_nil))))
      (pss_cons (ps_for (passes_of rfl) rfl (k_plist (K := K) rfl (pv 0)) (pg_name (i := 3) sc_law_points.nd rfl (Or.inr rfl))
      (pss_cons (ps_asg (pe_slice (k_slT (K := K) rfl) (pv 3) (po_some pe_int) (po_some pe_int)) (k_gtup (K := K) 2 rfl rfl (pgs_cons (pg_name (i := 4) sc_law_points.nd rfl (Or.inr rfl)) (pgs_cons (pg_name (i := 5) sc_law_points.nd rfl (Or.inr rfl)) pgs_nil))))
      (pss_cons (ps_set (i := 6) sc_law_points.nd rfl (Or.inl rfl) (pe_lst (pa_cons (pv 4) (pa_cons (pv 5) pa_nil))))
      (pss_cons (ps_if (pt_cmpR (k_eq (K := K) rfl hr.r.units) (pe_ix (k_ix (K := K) rfl) (pv 3) pe_int (fun _ _ => rfl)) pe_str (nomark _)) (pss_cons (ps_set (i := 6) sc_law_points.nd rfl (Or.inl rfl) (pe_lst (pa_cons (pe_ix (k_ix (K := K) rfl) (pv 3) pe_int (fun _ _ => rfl)) (pa_cons (pe_op op_sub (pe_op (k_add (K := K) rfl) (pe_ix (k_ix (K := K) rfl) (pv 3) pe_int (fun _ _ => rfl)) (pv 5)) (pv 4)) pa_nil))))
      (pss_one (ps_expr (pe_bm PySem.F.plainAttrs_list PySem.F.slot_list_extend PySem.F.type_list_extend mt_extend (pv 6) (pa_cons (pe_lc (own := [("_law_at", 7)]) (g := (gName 7)) rfl sc_law_points.nd (k_plist (K := K) rfl (pe_callTy (k_listD rfl) (by rfl) T.n_list (by decide +kernel) (pa_cons (pe_ix (k_ix (K := K) rfl) (pv 2) (pe_ix (k_ix (K := K) rfl) (pv 3) pe_int (fun _ _ => rfl)) (fun _ _ => rfl)) pa_nil))) (blkOk_by (own := [("_law_at", 7)]) (N := ["_law_deeds", "_law_wide", "_law_found", "_law_deed_here", "_law_low", "_law_high", "_law_more", "_law_at", "_law_one"]) (sc := defScope s_law_points) (by decide +kernel)) (fun _ _ _ _ _ => (pg_name (i := 7) sc_law_points.nd rfl (Or.inl rfl))) (fun _ _ _ _ _ => (pts_one (pt_chain op_le op_lt (pv 4) (pv 7) (pv 5)))) (fun _ _ _ _ _ => (pe_op (k_add (K := K) rfl) (pe_op op_sub (pv 7) (pv 4)) (pe_ix (k_ix (K := K) rfl) (pv 3) pe_int (fun _ _ => rfl))))) pa_nil))))) pss_nil)
      (pss_one (ps_for (passes_of rfl) rfl (k_plist (K := K) rfl (pv 6)) (pg_name (i := 7) sc_law_points.nd rfl (Or.inl rfl))
      (pss_one (ps_asg pe_bl (pg_sub (pe_ix (k_ix (K := K) rfl) (pv 2) (pe_ix (k_ix (K := K) rfl) (pv 3) pe_int (fun _ _ => rfl)) (fun _ _ => rfl)) (pv 7) (set_dict (u1 hr.r.units)))))))))))
      (pss_one (ps_ret (pe_lc (own := [("_law_one", 8)]) (g := (gName 8)) (tt := tYes) rfl sc_law_points.nd (k_plist (K := K) rfl (pv 2)) (blkOk_by (own := [("_law_one", 8)]) (N := ["_law_deeds", "_law_wide", "_law_found", "_law_deed_here", "_law_low", "_law_high", "_law_more", "_law_at", "_law_one"]) (sc := defScope s_law_points) (by decide +kernel)) (fun _ _ _ _ _ => (pg_name (i := 8) sc_law_points.nd rfl (Or.inl rfl))) (fun _ _ _ _ _ => pts_nil) (fun _ _ _ _ _ => (pe_callB (k_sorted (K := K) rfl) (by rfl) T.n_sorted (by decide +kernel) (pa_cons (pe_lock (pe_lc (own := [("_law_at", 7)]) (g := (gName 7)) rfl sc_law_points.nd (pi_keys (pv 8)) (blkOk_by (own := [("_law_at", 7)]) (N := ["_law_deeds", "_law_wide", "_law_found", "_law_deed_here", "_law_low", "_law_high", "_law_more", "_law_at", "_law_one"]) (by rfl)) (fun _ _ _ _ _ => (pg_name (i := 7) sc_law_points.nd rfl (Or.inl rfl))) (fun _ _ _ _ _ => (pts_one (pt_cmpR op_lt (pv 7) (pv 1) (nomark _)))) (fun _ _ _ _ _ => (pv 7)))) pa_nil)))))))), ?_⟩
    dsimp only [cxOf, st_1, st_2, st_3, st_4, st_5, st_6, List.length_cons, List.length_nil, List.replicate_succ, List.replicate_zero, Nat.reduceAdd, Nat.reduceSub]
    walk_at "gs"
    refine i_dict0 ?_
    refine i_new fun d0 f0 => ?_
    walk_at "gs"
    refine i_dict0 ?_
    refine i_new fun d1 f1 => ?_
    walk_at "gs"
    refine i_new fun F fF => ?_
    obtain ⟨D, hDd⟩ : ∃ D : Nat → Addr, D = pickA d0 d1 := ⟨_, rfl⟩
    have e0 : D 0 = d0 := by rw [hDd]; rfl
    have e1 : D 1 = d1 := by rw [hDd]; rfl
    have n01 : d0 ≠ d1 := by walk_at "g_ne"
    have n0F : d0 ≠ F := by walk_at "g_ne"
    have n1F : d1 ≠ F := by walk_at "g_ne"
    have two : Two2 D := by
      intro i j hi hj n
      have e : (i = 0 ∧ j = 1) ∨ (i = 1 ∧ j = 0) := by omega
      rcases e with ⟨rfl, rfl⟩ | ⟨rfl, rfl⟩
      · rw [e0, e1]
        exact n01
      · rw [e0, e1]
        exact Ne.symm n01
    have fr1 : Fr H d1 := by walk_at "g_fr"
    have fD : ∀ j, j < 2 → Fr H (D j) := by
      intro j hj
      have e : j = 0 ∨ j = 1 := by omega
      rcases e with rfl | rfl
      · rw [e0]
        exact f0
      · rw [e1]
        exact fr1
    obtain ⟨HF, hHF⟩ : ∃ HF, HF = upd (upd (upd (upd (upd H d0 (.dK [])) d0 (.dK ([(0 : Int)].map kT))) d1 (.dK [])) d1 (.dK ([(0 : Int)].map kT))) F (.lst [.ref d0, .ref d1]) := ⟨_, rfl⟩
    rw [← hHF]
    have pt0 : Pt H HF F D (pts (ds.take 0)) := by
      refine ⟨?_, ?_, ?_⟩
      · rw [hHF]
        walk_at "g_kp"
      · rw [hHF, e0, e1]
        exact upd_same
      · intro j hj
        have e : j = 0 ∨ j = 1 := by omega
        have ep : ∀ j, pts (ds.take 0) j = [0] := fun _ => rfl
        rw [hHF, ep]
        rcases e with rfl | rfl
        · rw [e0]
          walk_at "g_hp"
        · rw [e1]
          walk_at "g_hp"
    walk_at "gs"
    have sq0 : SqL K HF l vs := pt0.kp.seqL not_nil (SqL.of hv)
    refine i_each sq0 (fun i σ H' => ∃ y3 y4 y5 y6 y7 y8, σ = [some (.ref l), some (.int w), some (.ref F), y3, y4, y5, y6, y7, y8] ∧
      Pt H H' F D (pts (ds.take i))) ?_ ?_ ?_ ?_
    · exact ⟨_, _, _, _, _, _, rfl, pt0⟩
    · rintro i σ H' _ ⟨y3, y4, y5, y6, y7, y8, rfl, pt⟩
      exact pt.kp.seqL not_nil (SqL.of hv)
    · rintro i v σ H' hx ⟨y3, y4, y5, y6, y7, y8, rfl, pt⟩
      obtain ⟨dd, hdd, hdp⟩ := dpa_getV hall hx
      obtain ⟨d, hd, rfl⟩ := map_get hdd
      obtain ⟨t, rfl, hT⟩ := dp_deed (dp_imm pt.kp _ _ (imm_pd d) hdp)
      have hdo := hok d (List.mem_of_getElem? hd)
      cases d with
      | fill j lo hi v =>
        obtain ⟨hj, hlh, _, _⟩ := hdo
        have hnj := hn i j hj
        have nocopy : ¬ (("fill" : Str) = "copy") := by decide +kernel
        walk_at "gs"
        refine i_slT hT (.inl ⟨_, _, rfl⟩) ?_
        refine i_new fun x hx2 => ?_
        walk_at "gs"
        refine i_new fun M fM => ?_
        walk_at "gs"
        refine i_dec (fun z => absurd z nocopy) (fun _ => ?_)
        obtain ⟨mo, hmo⟩ : ∃ mo : List Int, mo = [lo, hi] := ⟨_, rfl⟩
        obtain ⟨HT, hHT⟩ : ∃ HT, HT = upd (upd H' x (.tup [.int lo, .int hi])) M (.lst [.int lo, .int hi]) := ⟨_, rfl⟩
        have hM : HT M = some (.lst (mo.map V.int)) := by
          rw [hHT, hmo]
          exact upd_same
        have ptM : Pt H HT F D (pts (ds.take i)) := by
          rw [hHT]
          exact (pt.kp0 (Kp.new hx2)).kp0 (Kp.new fM)
        have hTT : SqT K HT t (Deed.fill j lo hi v).vs := by
          rw [hHT]
          walk_at "g_st"
        have hml : mo.length ≤ 20000 := by
          rw [hmo]
          exact (show 2 ≤ 20000 by decide)
        rw [← hHT]
        walk_at "gs"
        refine i_each (SqL.of hM) (fun n σ H3 => ∃ y7, σ = [some (.ref l), some (.int w), some (.ref F), some (.ref t), some (.int lo), some (.int hi), some (.ref M), y7, y8] ∧
          Pt H H3 F D (fun i2 => if i2 = j then (mo.take n).foldl addK (pts (ds.take i) j) else pts (ds.take i) i2) ∧ H3 M = some (.lst (mo.map V.int)) ∧
          Fx HT H3) ?_ ?_ ?_ ?_
        · refine ⟨_, rfl, ptM.ext fun i2 => ?_, hM, fx_refl⟩
          by_cases z : i2 = j
          · rw [if_pos z, z]
            rfl
          · rw [if_neg z]
        · rintro n σ H3 _ ⟨y7, rfl, pt3, hM3, k3⟩
          exact SqL.of hM3
        · rintro n x σ H3 hx ⟨y7, rfl, pt3, hM3, k3⟩
          obtain ⟨q, hq, rfl⟩ := map_get hx
          have hF3 := pt3.hF
          have hat : atI [V.ref (D 0), V.ref (D 1)] (j : Int) = some (.ref (D j)) := at_twoN (f := fun j => .ref (D j)) hj
          have hD3 := pt3.hD j hj
          simp only [if_true] at hD3
          have hlen := foldK_len (mo.take n) (pts (ds.take i) j)
          rw [List.length_take] at hlen
          walk_at "gs"
          refine i_setD hD3 (by omega) ?_
          have pt4 := pt3.set (ns := addK ((mo.take n).foldl addK (pts (ds.take i) j)) q) two fD hj
          have hnM : M ≠ D j := two_ne hM3 hD3 fun z => nomatch z
          refine ⟨_, rfl, pt4.ext fun i2 => ?_, by rw [upd_ne hnM]; exact hM3, fx_mut k3 hD3 fun z => z⟩
          by_cases z : i2 = j
          · rw [if_pos z, if_pos z, List.take_add_one, hq, List.foldl_append]
            rfl
          · rw [if_neg z, if_neg z, if_neg z]
        · rintro σ H3 ⟨y7, rfl, pt3, hM3, k3⟩
          refine ⟨_, _, _, _, _, _, rfl, pt3.ext fun i2 => ?_⟩
          rw [pts_take hd, List.length_map, List.take_length]
          rw [hmo]
          rfl
      | copy j lo hi g o =>
        obtain ⟨hj, hlh, hg, ho⟩ := hdo
        have hnj := hn i j hj
        have hno := hn i o ho
        have hF0 := pt.hF
        have hao : atI [V.ref (D 0), V.ref (D 1)] (o : Int) = some (.ref (D o)) := at_twoN (f := fun j => .ref (D j)) ho
        walk_at "gs"
        refine i_slT hT (.inr ⟨_, _, _, rfl⟩) ?_
        refine i_new fun x hx2 => ?_
        walk_at "gs"
        refine i_new fun M0 fM0 => ?_
        walk_at "gs"
        refine i_dec (fun _ => ?_) (fun z => absurd rfl z)
        walk_at "gs"
        refine i_new fun M fM => ?_
        have pt2 := ((pt.kp0 (Kp.new hx2 (o := .tup [.int lo, .int hi]))).kp0 (Kp.new fM0 (o := .lst [.int lo, .int hi]))).kp0 (Kp.new fM (o := .lst [.int g, .int (g + hi - lo)]))
        have hDo := pt2.hD o ho
        walk_at "gs"
        refine i_listD hDo ?_
        refine i_new fun L fL => ?_
        walk_at "gs"
        have pt3 := pt2.kp0 (Kp.new fL (o := .lst ((pts (ds.take i) o).map V.int)))
        obtain ⟨HL, hHL⟩ : ∃ HL, HL = upd (upd (upd (upd H' x (.tup [.int lo, .int hi])) M0 (.lst [.int lo, .int hi])) M (.lst [.int g, .int (g + hi - lo)])) L (.lst ((pts (ds.take i) o).map V.int)) := ⟨_, rfl⟩
        have hL : HL L = some (.lst ((pts (ds.take i) o).map V.int)) := by
          rw [hHL]
          exact upd_same
        have hML : HL M = some (.lst [.int g, .int (g + hi - lo)]) := by
          rw [hHL]
          walk_at "g_hp"
        have hTL : SqT K HL t (Deed.copy j lo hi g o).vs := by
          rw [hHL]
          walk_at "g_st"
        rw [← hHL] at pt3 ⊢
        refine i_elts (SqL.of hL) (fun R n H3 => Kp [] HL H3 ∧ H3 R = some (.lst (((((pts (ds.take i) o).take n).filter fun x => decide (lo ≤ x ∧ x < hi)).map fun x => x - lo + g).map V.int))) ?_ ?_ ?_ ?_
        · intro R fR
          exact ⟨Kp.new fR, upd_same⟩
        · rintro R n H3 fR _ ⟨k3, _⟩
          exact SqL.of (k3.at_ _ _ hL not_nil)
        · rintro R n y H3 fR hy ⟨k3, hR⟩
          obtain ⟨q, hq, rfl⟩ := map_get hy
          have hT3 := k3.seqT hTL
          have hln : (((pts (ds.take i) o).take n).filter fun x => decide (lo ≤ x ∧ x < hi)).length ≤ 10000 :=
            Nat.le_trans (List.length_filter_le _ _) (by rw [List.length_take]; omega)
          have hsn : ((pts (ds.take i) o).take (n + 1)).filter (fun x => decide (lo ≤ x ∧ x < hi)) =
              ((pts (ds.take i) o).take n).filter (fun x => decide (lo ≤ x ∧ x < hi)) ++ (if lo ≤ q ∧ q < hi then [q] else []) := by
            rw [List.take_add_one, hq, List.filter_append]
            congr 1
            by_cases c : lo ≤ q ∧ q < hi
            · simp [c]
            · simp only [Option.toList, List.filter_cons, decide_eq_false c, List.filter_nil, if_neg c]
              rfl
          walk_at "gs"
          refine i_dec (fun c => ?_) (fun c => ?_)
          · walk_at "gs"
            refine i_dec (fun c2 => ?_) (fun c2 => ?_)
            · walk_at "gs"
              refine ⟨_, hR, ?_, Kp.upd k3 fR, ?_⟩
              · refine small_sz ?_
                rw [List.length_map, List.length_map]
                omega
              · rw [hsn, if_pos ⟨c, c2⟩, List.map_append, List.map_append]
                exact upd_same
            · walk_at "gs"
              refine ⟨k3, ?_⟩
              rw [hsn, if_neg (fun z => c2 z.2), List.append_nil]
              exact hR
          · walk_at "gs"
            refine ⟨k3, ?_⟩
            rw [hsn, if_neg (fun z => c z.1), List.append_nil]
            exact hR
        rintro R H4 fR ⟨k4, hR⟩
        rw [List.length_map, List.take_length] at hR
        have hM4 := k4.at_ _ _ hML not_nil
        have hln : ((pts (ds.take i) o).filter fun x => decide (lo ≤ x ∧ x < hi)).length ≤ 10000 := Nat.le_trans (List.length_filter_le _ _) (by omega)
        walk_at "gs"
        refine i_extend hM4 hR (by rw [List.length_map, List.length_map]; show 2 + _ ≤ _; omega) ?_
        have pt4 := pt3.kp0 k4
        have fM2 : Fr H M := ⟨by
          cases e : H M with
          | none => rfl
          | some u =>
            obtain ⟨v2, e2⟩ := pt.kp.dom M u e
            have e3 := Kp.at_ (Kp.trans (Kp.new hx2 (o := .tup [.int lo, .int hi])) (Kp.new fM0 (o := .lst [.int lo, .int hi]))) M v2 e2 not_nil
            rw [fM.e] at e3
            cases e3⟩
        obtain ⟨mo, hmo⟩ : ∃ mo : List Int, mo = [g, g + hi - lo] ++ ((pts (ds.take i) o).filter fun x => decide (lo ≤ x ∧ x < hi)).map fun x => x - lo + g := ⟨_, rfl⟩
        have emo : [V.int g, V.int (g + hi - lo)] ++ (((pts (ds.take i) o).filter fun x => decide (lo ≤ x ∧ x < hi)).map fun x => x - lo + g).map V.int = mo.map V.int := by
          rw [hmo, List.map_append]
          rfl
        rw [emo]
        obtain ⟨HT, hHT⟩ : ∃ HT, HT = upd H4 M (.lst (mo.map V.int)) := ⟨_, rfl⟩
        have hM : HT M = some (.lst (mo.map V.int)) := by
          rw [hHT]
          exact upd_same
        have ptM : Pt H HT F D (pts (ds.take i)) := by
          rw [hHT]
          refine ⟨Kp.upd pt4.kp fM2, ?_, fun i2 hi2 => ?_⟩
          · rw [upd_ne (fun z => ?_)]
            · exact pt4.hF
            · have e5 := pt4.hF
              rw [z, hM4] at e5
              cases e5
          · rw [upd_ne (two_ne (pt4.hD i2 hi2) hM4 fun z => nomatch z)]
            exact pt4.hD i2 hi2
        have hTT : SqT K HT t (Deed.copy j lo hi g o).vs := by
          rw [hHT]
          exact Fx.seqT (fx_mut fx_refl hM4 fun z => z) (k4.seqT hTL)
        have hml : mo.length ≤ 20000 := by
          rw [hmo, List.length_append, List.length_map]
          show 2 + _ ≤ _
          omega
        rw [← hHT]
        walk_at "gs"
        refine i_each (SqL.of hM) (fun n σ H3 => ∃ y7, σ = [some (.ref l), some (.int w), some (.ref F), some (.ref t), some (.int lo), some (.int hi), some (.ref M), y7, y8] ∧
          Pt H H3 F D (fun i2 => if i2 = j then (mo.take n).foldl addK (pts (ds.take i) j) else pts (ds.take i) i2) ∧ H3 M = some (.lst (mo.map V.int)) ∧
          Fx HT H3) ?_ ?_ ?_ ?_
        · refine ⟨_, rfl, ptM.ext fun i2 => ?_, hM, fx_refl⟩
          by_cases z : i2 = j
          · rw [if_pos z, z]
            rfl
          · rw [if_neg z]
        · rintro n σ H3 _ ⟨y7, rfl, pt3, hM3, k3⟩
          exact SqL.of hM3
        · rintro n x σ H3 hx ⟨y7, rfl, pt3, hM3, k3⟩
          obtain ⟨q, hq, rfl⟩ := map_get hx
          have hF3 := pt3.hF
          have hat : atI [V.ref (D 0), V.ref (D 1)] (j : Int) = some (.ref (D j)) := at_twoN (f := fun j => .ref (D j)) hj
          have hD3 := pt3.hD j hj
          simp only [if_true] at hD3
          have hlen := foldK_len (mo.take n) (pts (ds.take i) j)
          rw [List.length_take] at hlen
          walk_at "gs"
          refine i_setD hD3 (by omega) ?_
          have pt4 := pt3.set (ns := addK ((mo.take n).foldl addK (pts (ds.take i) j)) q) two fD hj
          have hnM : M ≠ D j := two_ne hM3 hD3 fun z => nomatch z
          refine ⟨_, rfl, pt4.ext fun i2 => ?_, by rw [upd_ne hnM]; exact hM3, fx_mut k3 hD3 fun z => z⟩
          by_cases z : i2 = j
          · rw [if_pos z, if_pos z, List.take_add_one, hq, List.foldl_append]
            rfl
          · rw [if_neg z, if_neg z, if_neg z]
        · rintro σ H3 ⟨y7, rfl, pt3, hM3, k3⟩
          refine ⟨_, _, _, _, _, _, rfl, pt3.ext fun i2 => ?_⟩
          rw [pts_take hd, List.length_map, List.take_length]
          rw [hmo]
          rfl
    · rintro σ H' ⟨y3, y4, y5, y6, y7, y8, rfl, pt⟩
      rw [List.take_of_length_le (by omega)] at pt
      have hF := pt.hF
      walk_at "gs"
      refine i_elts (SqL.of hF) (fun R n H3 => ∃ (s : Nat → Addr) (sr : Nat → List Int), Kp [] H' H3 ∧ H3 R = some (.lst ((List.range n).map fun j => V.ref (s j))) ∧
        (∀ j, j < n → s j ≠ R) ∧
        ∀ j, j < n → H3 (s j) = some (.lst ((sr j).map V.int)) ∧ (sr j).Perm ((pts ds j).filter fun x => decide (x < w)) ∧ (sr j).Pairwise (· ≤ ·)) ?_ ?_ ?_ ?_
      · intro R fR
        exact ⟨fun _ => 0, fun _ => [], Kp.new fR, upd_same, fun j hj => absurd hj (Nat.not_lt_zero j), fun j hj => absurd hj (Nat.not_lt_zero j)⟩
      · rintro R n H3 fR _ ⟨s, sr, k3, _⟩
        exact SqL.of (k3.at_ _ _ hF not_nil)
      · rintro R n x H3 fR hx ⟨s, sr, k3, hR, hsR, hs⟩
        obtain ⟨hn2, rfl⟩ : n < 2 ∧ x = .ref (D n) := by
          match n, hx with
          | 0, hx => exact ⟨by decide, (Option.some.inj hx).symm⟩
          | 1, hx => exact ⟨by decide, (Option.some.inj hx).symm⟩
        have hDn := k3.at_ _ _ (pt.hD n hn2) not_nil
        walk_at "gs"
        refine ⟨D n, _, hDn, trivial, fun od => ?_⟩
        refine i_lcK ?_
        walk_at "gs"
        have hlen := hn ds.length n hn2
        rw [List.take_length] at hlen
        refine i_keyz (o := od) (ns := pts ds n) upd_same (fun R2 m H4 => Kp [] (upd H3 (D n) (.frz od (.dK ((pts ds n).map kT)))) H4 ∧
          H4 R2 = some (.lst ((((pts ds n).take m).filter fun x => decide (x < w)).map V.int))) ?_ ?_ ?_ ?_
        · intro R2 f2
          exact ⟨Kp.new f2, upd_same⟩
        · rintro R2 m H4 f2 ⟨k4, _⟩
          exact k4.at_ _ _ upd_same not_nil
        · rintro R2 m q H4 f2 hq ⟨k4, h2⟩
          have hsn : ((pts ds n).take (m + 1)).filter (fun x => decide (x < w)) =
              ((pts ds n).take m).filter (fun x => decide (x < w)) ++ (if q < w then [q] else []) := by
            rw [List.take_add_one, hq, List.filter_append]
            congr 1
            by_cases c : q < w
            · simp [c]
            · simp only [Option.toList, List.filter_cons, decide_eq_false c, List.filter_nil, if_neg c]
              rfl
          have hln : (((pts ds n).take m).filter fun x => decide (x < w)).length ≤ 10000 :=
            Nat.le_trans (List.length_filter_le _ _) (by rw [List.length_take]; omega)
          walk_at "gs"
          refine i_dec (fun c => ?_) (fun c => ?_)
          · walk_at "gs"
            refine ⟨_, h2, ?_, Kp.upd k4 f2, ?_⟩
            · refine small_sz ?_
              rw [List.length_map]
              omega
            · rw [hsn, if_pos c, List.map_append]
              exact upd_same
          · walk_at "gs"
            refine ⟨k4, ?_⟩
            rw [hsn, if_neg c, List.append_nil]
            exact h2
        · rintro R2 H4 f2 ⟨k4, h2⟩
          rw [List.take_length] at h2
          refine ⟨k4.at_ _ _ upd_same not_nil, ?_⟩
          have k5 := kp_unlock hDn (fun z => z) k4
          have h5 : upd H4 (D n) (.dK ((pts ds n).map kT)) R2 = some (.lst (((pts ds n).filter fun x => decide (x < w)).map V.int)) := by
            rw [upd_ne (two_ne h2 (k4.at_ _ _ upd_same not_nil) fun z => nomatch z)]
            exact h2
          walk_at "gs"
          refine i_sorted (SqL.of h5) fun ns' p pm ps fp => ?_
          have k6 : Kp [] H3 (upd (upd H4 (D n) (.dK ((pts ds n).map kT))) p (.lst (ns'.map V.int))) := Kp.trans k5 (Kp.new fp)
          have hR5 := k5.at_ _ _ hR not_nil
          have npR : p ≠ R := Ne.symm (fr_ne hR5 fp)
          refine ⟨_, k6.at_ _ _ hR not_nil, ?_, fun j => if j = n then p else s j, fun j => if j = n then ns' else sr j, Kp.upd (Kp.trans k3 k6) fR, ?_, ?_, ?_⟩
          · refine small_sz ?_
            rw [List.length_map, List.length_range]
            omega
          · rw [upd_same, List.range_succ, List.map_append]
            have em : (List.range n).map (fun j => V.ref (s j)) = (List.range n).map (fun j => V.ref (if j = n then p else s j)) := by
              refine List.map_congr_left fun j hj => ?_
              rw [if_neg (by have := List.mem_range.mp hj; omega)]
            rw [em]
            show some (HO.lst (_ ++ [V.ref p])) = some (HO.lst (_ ++ [V.ref (if n = n then p else s n)]))
            rw [if_pos rfl]
          · intro j hj
            by_cases z : j = n
            · simp only [if_pos z]
              exact npR
            · simp only [if_neg z]
              exact hsR j (by omega)
          · intro j hj
            by_cases z : j = n
            · subst z
              simp only [if_true]
              rw [upd_ne npR]
              exact ⟨upd_same, pm, ps⟩
            · simp only [if_neg z]
              obtain ⟨q1, q2, q3⟩ := hs j (by omega)
              rw [upd_ne (hsR j (by omega))]
              exact ⟨k6.at_ _ _ q1 not_nil, q2, q3⟩
      · rintro R H3 fR ⟨s, sr, k3, hR, _, hs⟩
        exact k R s sr H3 (Kp.trans pt.kp k3) hR hs

/-! ### the plain law: what the deeds leave, told by the points -/
def cellsR (f : Nat → Int) (w : Nat) : List Deed → Nat → List Int
  | [] => fun j => List.replicate w (f j)
  | d :: r => stepD (cellsR f w r) d
def ptsR : List Deed → Nat → List Int
  | [] => fun _ => [0]
  | d :: r => stepP (ptsR r) d
theorem pts_rev (ds : List Deed) : pts ds = ptsR ds.reverse := by
  unfold pts
  rw [List.foldl_eq_foldr_reverse]
  induction ds.reverse with
  | nil => rfl
  | cons d r ih =>
    rw [List.foldr_cons, ih]
    rfl
theorem had_cells (f : Nat → Int) (w : Nat) : ∀ r : List Deed, (∀ d ∈ r, d.Ok w) → ∀ j, j < 2 →
    (cellsR f w r j).length = w ∧ ∀ x : Nat, x < w → (cellsR f w r j)[x]? = some (hadR f r j x)
  | [], _, j, _ => ⟨List.length_replicate, fun x hx => by
      show (List.replicate w (f j))[x]? = some (f j)
      rw [List.getElem?_replicate, if_pos hx]⟩
  | .fill i lo hi v :: r, h, j, hj => by
    have ih := had_cells f w r fun d hd => h d (List.mem_cons_of_mem _ hd)
    obtain ⟨hi2, hlh, _, _⟩ := h _ List.mem_cons_self
    have hx : (List.replicate (hi - lo).toNat v).length = hi.toNat - lo.toNat := by rw [List.length_replicate]; omega
    show (chg (cellsR f w r) i _ j).length = w ∧ _
    unfold chg
    by_cases e : j = i
    · subst e
      have l := (ih j hj).1
      refine ⟨by rw [if_pos rfl, laid_len (by omega) (by omega) hx, l], fun x hxw => ?_⟩
      show (chg (cellsR f w r) j _ j)[x]? = _
      unfold chg
      rw [if_pos rfl, laid_get (by omega) (by omega) hx]
      show _ = some (if j = j ∧ lo ≤ (x : Int) ∧ (x : Int) < hi then v else hadR f r j x)
      by_cases c : lo.toNat ≤ x ∧ x < hi.toNat
      · rw [if_pos c, if_pos (by omega), List.getElem?_replicate, if_pos (by omega)]
      · rw [if_neg c, if_neg (by omega)]
        exact (ih j hj).2 x hxw
    · refine ⟨by rw [if_neg e]; exact (ih j hj).1, fun x hxw => ?_⟩
      show (chg (cellsR f w r) i _ j)[x]? = some (if i = j ∧ lo ≤ (x : Int) ∧ (x : Int) < hi then v else hadR f r j x)
      unfold chg
      rw [if_neg e, if_neg (by omega)]
      exact (ih j hj).2 x hxw
  | .copy i lo hi g o :: r, h, j, hj => by
    have ih := had_cells f w r fun d hd => h d (List.mem_cons_of_mem _ hd)
    obtain ⟨hi2, hlh, hg, ho⟩ := h _ List.mem_cons_self
    have lo_ := (ih o ho).1
    have hx : (((cellsR f w r o).drop lo.toNat).take (hi.toNat - lo.toNat)).length = (g + hi - lo).toNat - g.toNat := by
      rw [List.length_take, List.length_drop, lo_]
      omega
    show (chg (cellsR f w r) i _ j).length = w ∧ _
    unfold chg
    by_cases e : j = i
    · subst e
      have l := (ih j hj).1
      refine ⟨by rw [if_pos rfl, laid_len (by omega) (by omega) hx, l], fun x hxw => ?_⟩
      show (chg (cellsR f w r) j _ j)[x]? = _
      unfold chg
      rw [if_pos rfl, laid_get (by omega) (by omega) hx]
      show _ = some (if j = j ∧ g ≤ (x : Int) ∧ (x : Int) < g + hi - lo then hadR f r o (x - g + lo) else hadR f r j x)
      by_cases c : g.toNat ≤ x ∧ x < (g + hi - lo).toNat
      · rw [if_pos c, if_pos (by omega), List.getElem?_take, if_pos (by omega), List.getElem?_drop]
        have q := (ih o ho).2 (lo.toNat + (x - g.toNat)) (by omega)
        rw [q]
        congr 2
        omega
      · rw [if_neg c, if_neg (by omega)]
        exact (ih j hj).2 x hxw
    · refine ⟨by rw [if_neg e]; exact (ih j hj).1, fun x hxw => ?_⟩
      show (chg (cellsR f w r) i _ j)[x]? = some (if i = j ∧ g ≤ (x : Int) ∧ (x : Int) < g + hi - lo then hadR f r o (x - g + lo) else hadR f r j x)
      unfold chg
      rw [if_neg e, if_neg (by omega)]
      exact (ih j hj).2 x hxw
theorem cells_had {f : Nat → Int} {w : Nat} {r : List Deed} (h : ∀ d ∈ r, d.Ok w) {j : Nat} (hj : j < 2) :
    cellsR f w r j = (List.range w).map fun x : Nat => hadR f r j x := by
  obtain ⟨l, g⟩ := had_cells f w r h j hj
  refine List.ext_getElem? fun x => ?_
  by_cases c : x < w
  · rw [g x c, List.getElem?_map, List.getElem?_range c]
    rfl
  · rw [List.getElem?_eq_none (by omega), List.getElem?_eq_none (by rw [List.length_map, List.length_range]; omega)]
theorem had_same (f : Nat → Int) (w : Int) : ∀ r : List Deed, (∀ d ∈ r, d.Ok w) → ∀ (j : Nat) (x : Int), 0 < x → x < w → x ∉ ptsR r j →
    hadR f r j x = hadR f r j (x - 1)
  | [], _, _, _, _, _, _ => rfl
  | .fill i lo hi v :: r, h, j, x, h0, h1, hn => by
    have ih := had_same f w r fun d hd => h d (List.mem_cons_of_mem _ hd)
    show (if i = j ∧ lo ≤ x ∧ x < hi then v else hadR f r j x) = if i = j ∧ lo ≤ x - 1 ∧ x - 1 < hi then v else hadR f r j (x - 1)
    have hn2 : x ∉ (if j = i then (moreP (ptsR r) (.fill i lo hi v)).foldl addK (ptsR r i) else ptsR r j) := hn
    by_cases e : j = i
    · subst e
      rw [if_pos rfl, mem_foldK] at hn2
      have a : x ∉ ptsR r j := fun z => hn2 (.inl z)
      have b : x ≠ lo := fun z => hn2 (.inr (by rw [z]; simp [moreP]))
      have c : x ≠ hi := fun z => hn2 (.inr (by rw [z]; simp [moreP]))
      by_cases d : lo ≤ x ∧ x < hi
      · rw [if_pos ⟨rfl, d⟩, if_pos ⟨rfl, by omega⟩]
      · rw [if_neg (fun z => d z.2), if_neg (fun z => d (by omega)), ih j x h0 h1 a]
    · rw [if_neg e] at hn2
      rw [if_neg (fun z => e z.1.symm), if_neg (fun z => e z.1.symm), ih j x h0 h1 hn2]
  | .copy i lo hi g o :: r, h, j, x, h0, h1, hn => by
    have ih := had_same f w r fun d hd => h d (List.mem_cons_of_mem _ hd)
    obtain ⟨hi2, hlh, hg, ho⟩ := h _ List.mem_cons_self
    show (if i = j ∧ g ≤ x ∧ x < g + hi - lo then hadR f r o (x - g + lo) else hadR f r j x) =
      if i = j ∧ g ≤ x - 1 ∧ x - 1 < g + hi - lo then hadR f r o (x - 1 - g + lo) else hadR f r j (x - 1)
    have hn2 : x ∉ (if j = i then (moreP (ptsR r) (.copy i lo hi g o)).foldl addK (ptsR r i) else ptsR r j) := hn
    by_cases e : j = i
    · subst e
      rw [if_pos rfl, mem_foldK] at hn2
      have a : x ∉ ptsR r j := fun z => hn2 (.inl z)
      have b : x ≠ g := fun z => hn2 (.inr (by rw [z]; simp [moreP]))
      have c : x ≠ g + hi - lo := fun z => hn2 (.inr (by rw [z]; simp [moreP]))
      by_cases d : g ≤ x ∧ x < g + hi - lo
      · rw [if_pos ⟨rfl, d⟩, if_pos ⟨rfl, by omega⟩]
        have m : x - g + lo ∉ ptsR r o := fun z => hn2 (.inr (List.mem_append_right _ (List.mem_map.mpr
          ⟨x - g + lo, List.mem_filter.mpr ⟨z, decide_eq_true (by omega)⟩, by omega⟩)))
        have q := ih o (x - g + lo) (by omega) (by omega) m
        rw [q]
        congr 1
        omega
      · rw [if_neg (fun z => d z.2), if_neg (fun z => d (by omega)), ih j x h0 h1 a]
    · rw [if_neg e] at hn2
      rw [if_neg (fun z => e z.1.symm), if_neg (fun z => e z.1.symm), ih j x h0 h1 hn2]

/-! ### the pieces between the points -/
def segF (h : Int → Int) (w : Int) : List Int → List (Int × Int)
  | [] => []
  | [a] => [(w - a, h a)]
  | a :: b :: t => (b - a, h a) :: segF h w (b :: t)
theorem flat_same {h : Int → Int} {a : Int} : ∀ n : Nat, (∀ x, a < x → x < a + n → h x = h (x - 1)) → ∀ k : Nat, k < n → h (a + k) = h a
  | n, hc, 0, _ => by rw [show a + ((0 : Nat) : Int) = a by omega]
  | n, hc, k + 1, hk => by
    have ih := flat_same n hc k (by omega)
    have q := hc (a + (k + 1 : Nat)) (by omega) (by omega)
    rw [q, ← ih]
    congr 1
    omega
theorem range_same {h : Int → Int} {a : Int} {n : Nat} (hc : ∀ x, a < x → x < a + n → h x = h (x - 1)) :
    (List.range n).map (fun k : Nat => h (a + k)) = List.replicate n (h a) := by
  refine List.ext_getElem? fun k => ?_
  by_cases c : k < n
  · rw [List.getElem?_map, List.getElem?_range c, List.getElem?_replicate, if_pos c]
    show some (h (a + k)) = _
    rw [flat_same n hc k c]
  · rw [List.getElem?_eq_none (by rw [List.length_map, List.length_range]; omega), List.getElem?_eq_none (by rw [List.length_replicate]; omega)]
theorem cells_seg (h : Int → Int) (w : Int) : ∀ (t : List Int) (a : Int), (a :: t).Pairwise (· < ·) → (∀ x ∈ a :: t, x < w) →
    (∀ x, a < x → x < w → x ∉ a :: t → h x = h (x - 1)) →
    cells (segF h w (a :: t)) = (List.range (w - a).toNat).map fun k : Nat => h (a + k)
  | [], a, _, hw, hc => by
    have ha := hw a List.mem_cons_self
    unfold segF
    rw [cells_cons, cells_nil, List.append_nil]
    show List.replicate (w - a).toNat (h a) = _
    rw [range_same fun x h1 h2 => hc x h1 (by omega) fun z => by
      rw [List.mem_singleton.mp z] at h1
      omega]
  | b :: t, a, hp, hw, hc => by
    obtain ⟨hab, hp2⟩ := List.pairwise_cons.mp hp
    have hb := hab b List.mem_cons_self
    have hbw := hw b (List.mem_cons_of_mem _ List.mem_cons_self)
    have ih := cells_seg h w t b hp2 (fun x hx => hw x (List.mem_cons_of_mem _ hx)) fun x h1 h2 hn => hc x (by omega) h2 fun z => by
      rcases List.mem_cons.mp z with e | z
      · omega
      · exact hn z
    show cells ((b - a, h a) :: segF h w (b :: t)) = _
    rw [cells_cons, ih]
    have e : (w - a).toNat = (b - a).toNat + (w - b).toNat := by omega
    rw [e, List.range_add, List.map_append, List.map_map]
    congr 1
    · show List.replicate (b - a).toNat (h a) = _
      rw [range_same fun x h1 h2 => hc x h1 (by omega) fun z => by
        rcases List.mem_cons.mp z with e | z
        · omega
        · rcases List.mem_cons.mp z with e | z
          · omega
          · have := (List.pairwise_cons.mp hp2).1 x z
            omega]
    · refine List.map_congr_left fun k _ => ?_
      show h (b + k) = h (a + (((b - a).toNat + k : Nat) : Int))
      congr 1
      omega
theorem seg_pos (h : Int → Int) (w : Int) : ∀ (t : List Int) (a : Int), (a :: t).Pairwise (· < ·) → (∀ x ∈ a :: t, x < w) → ∀ q ∈ segF h w (a :: t), 0 < q.1
  | [], a, _, hw, q, hq => by
    rw [List.mem_singleton.mp hq]
    have ha := hw a List.mem_cons_self
    show 0 < w - a
    omega
  | b :: t, a, hp, hw, q, hq => by
    obtain ⟨hab, hp2⟩ := List.pairwise_cons.mp hp
    have hb := hab b List.mem_cons_self
    rcases List.mem_cons.mp hq with e | hq
    · rw [e]
      show 0 < b - a
      omega
    · exact seg_pos h w t b hp2 (fun x hx => hw x (List.mem_cons_of_mem _ hx)) q hq
theorem ptsR_nd : ∀ (r : List Deed) (j : Nat), (ptsR r j).Nodup
  | [], _ => by simp [ptsR]
  | d :: r, j => by
    show (if j = d.j then (moreP (ptsR r) d).foldl addK (ptsR r d.j) else ptsR r j).Nodup
    split
    · exact foldK_nd _ _ (ptsR_nd r _)
    · exact ptsR_nd r j
theorem ptsR_zero : ∀ (r : List Deed) (j : Nat), (0 : Int) ∈ ptsR r j
  | [], _ => by simp [ptsR]
  | d :: r, j => by
    show (0 : Int) ∈ (if j = d.j then (moreP (ptsR r) d).foldl addK (ptsR r d.j) else ptsR r j)
    split
    · exact (mem_foldK _ _).mpr (.inl (ptsR_zero r _))
    · exact ptsR_zero r j
theorem ptsR_nn {w : Int} : ∀ (r : List Deed), (∀ d ∈ r, d.Ok w) → ∀ (j : Nat) (x : Int), x ∈ ptsR r j → 0 ≤ x
  | [], _, _, x, h => by
    rw [List.mem_singleton.mp h]
    exact Int.le_refl _
  | d :: r, hk, j, x, h => by
    have ih := ptsR_nn r fun d hd => hk d (List.mem_cons_of_mem _ hd)
    have hd := hk d List.mem_cons_self
    have h2 : x ∈ (if j = d.j then (moreP (ptsR r) d).foldl addK (ptsR r d.j) else ptsR r j) := h
    split at h2
    · rcases (mem_foldK _ _).mp h2 with z | z
      · exact ih _ x z
      · cases d with
        | fill i lo hi v =>
          obtain ⟨_, b, _⟩ := hd
          simp only [moreP, List.mem_cons, List.not_mem_nil, or_false] at z
          omega
        | copy i lo hi g o =>
          obtain ⟨_, b, c, _⟩ := hd
          rcases List.mem_append.mp z with z | z
          · simp only [List.mem_cons, List.not_mem_nil, or_false] at z
            omega
          · obtain ⟨y, hy, e⟩ := List.mem_map.mp z
            have := of_decide_eq_true (List.mem_filter.mp hy).2
            omega
    · exact ih _ x h2
/-- the sorted points of j below w, and what the pieces between them tell -/
theorem segs_right {f : Nat → Int} {w : Nat} {r : List Deed} (h : ∀ d ∈ r, d.Ok w) (hw : 1 ≤ w) {j : Nat} (hj : j < 2) {s : List Int}
    (hp : s.Perm ((ptsR r j).filter fun x => decide (x < (w : Int)))) (hs : s.Pairwise (· ≤ ·)) :
    ∃ t, s = 0 :: t ∧ s.Pairwise (· < ·) ∧ (∀ x ∈ s, x < (w : Int)) ∧ jnd (segF (hadR f r j) w s) = rle (cellsR f w r j) := by
  have nd : s.Nodup := hp.nodup_iff.mpr ((ptsR_nd r j).filter _)
  have lt : s.Pairwise (· < ·) := by
    have both := hs.and nd
    exact both.imp fun {a b} z => by
      have z1 : a ≤ b := z.1
      have z2 : a ≠ b := z.2
      omega
  have mem : ∀ x, x ∈ s ↔ x ∈ ptsR r j ∧ x < (w : Int) := fun x => by
    rw [hp.mem_iff, List.mem_filter]
    simp
  have hz : (0 : Int) ∈ s := (mem 0).mpr ⟨ptsR_zero r j, by omega⟩
  cases s with
  | nil => cases hz
  | cons a t =>
    have ha : a = 0 := by
      have q := ptsR_nn r h j a ((mem a).mp List.mem_cons_self).1
      rcases List.mem_cons.mp hz with e | z
      · exact e.symm
      · have := (List.pairwise_cons.mp lt).1 0 z
        omega
    subst ha
    refine ⟨t, rfl, lt, fun x hx => ((mem x).mp hx).2, ?_⟩
    rw [jnd_rle, cells_seg _ _ t 0 lt (fun x hx => ((mem x).mp hx).2) fun x h1 h2 hn => had_same f w r h j x h1 h2 fun z => hn ((mem x).mpr ⟨z, h2⟩), cells_had h hj]
    congr 1
    have e : ((w : Int) - 0).toNat = w := by omega
    rw [e]
    refine List.map_congr_left fun k _ => ?_
    show hadR f r j (0 + k) = hadR f r j k
    rw [Int.zero_add]
theorem seg_len (h : Int → Int) (w : Int) : ∀ s : List Int, (segF h w s).length = s.length
  | [] => rfl
  | [a] => rfl
  | a :: b :: t => by
    show (segF h w (b :: t)).length + 1 = _
    rw [seg_len h w (b :: t)]
    rfl
theorem seg_get (h : Int → Int) (w : Int) : ∀ (s : List Int) (i : Nat) (a b : Int), s[i]? = some a → (s.tail ++ [w])[i]? = some b →
    (segF h w s)[i]? = some (b - a, h a)
  | [], _, _, _, e, _ => by cases e
  | [c], 0, a, b, e, e2 => by
    cases e
    cases e2
    rfl
  | [c], i + 1, a, b, e, _ => by cases e
  | c :: d :: t, 0, a, b, e, e2 => by
    cases e
    cases e2
    rfl
  | c :: d :: t, i + 1, a, b, e, e2 => seg_get h w (d :: t) i a b e e2

/-! ### how long, how great -/
theorem jnd_few (ps : List (Int × Int)) : (jnd ps).length ≤ ps.length := by
  rw [jnd_wr]
  exact wr_len ps
theorem rle_laid {cs : List Int} {b e : Int} {ps : List (Int × Int)} {n : Nat} (h : (rle cs).length ≤ n) (hp : ps.length ≤ n) :
    (rle (laid cs b.toNat (cells ps) e.toNat)).length ≤ 3 * n := by
  rw [← laid_rle]
  refine Nat.le_trans (jnd_few _) ?_
  have h1 := cut_len 0 b (rle cs)
  have h2 := cut_len e cs.length (rle cs)
  rw [List.length_append, List.length_append]
  omega

theorem i_js {t : TE} {ts : List TE} {acc : Str} {σ : L2.St} {H : Hp} {Q : Str → Hp → Prop} (h : t σ H fun x H1 => ∃ y : Str, x = .str y ∧ (acc ++ y).length ≤ sizeLine ∧ tJs ts (acc ++ y) σ H1 Q) :
    tJs (t :: ts) acc σ H Q := h
theorem i_js0 {acc : Str} {σ : L2.St} {H : Hp} {Q : Str → Hp → Prop} (h : Q acc H) : tJs [] acc σ H Q := h
theorem i_jsS {y acc : Str} {P : Str → Prop} (hz : (acc ++ y).length ≤ sizeLine) (h : P y) : ∃ z : Str, V.str y = .str z ∧ (acc ++ z).length ≤ sizeLine ∧ P z := ⟨y, rfl, hz, h⟩
theorem i_fmtD {K : PySem.W.Frag} {te : TE} {σ : L2.St} {H : Hp} {Q : VK} (h : te σ H fun x H1 => ∃ (a : Addr) (d : PyData), x = .ref a ∧ Dp K H1 x d ∧ shw d = true ∧ d.depth ≤ 60 ∧ cw d ≤ sizeLine ∧ Q (.str d.shown) H1) :
    tFmtD K te σ H Q := h
theorem str_empty (d : Str) : PySem.Str.empty ++ d = d := by
  have e : (PySem.Str.empty ++ d).cps = d.cps := by
    rw [PySem.Str.cps_append]
    simp [PySem.Str.empty]
  exact congrArg PySem.Str.mk e
/-- how long shown pairs are -/
theorem shown_pairs {l : List (Int × Int)} (h : ∀ q ∈ l, okI q.1 ∧ okI q.2) (hl : l.length ≤ 4000) :
    shw (.list (l.map d2)) = true ∧ (PyData.list (l.map d2)).depth ≤ 60 ∧ cw (.list (l.map d2)) ≤ 15472002 := by
  refine ⟨?_, depth_list l, ?_⟩
  · simp only [shw]
    exact shws_pairs l h
  · simp only [cw, cws_pairs]
    omega
def memText (cs : List Int) : Str := ("Memory(" : Str) ++ (PyData.list ((rle cs).map d2)).shown ++ (")" : Str)
theorem mem_short {cs : List Int} (h : ∀ q ∈ rle cs, okI q.1 ∧ okI q.2) (hl : (rle cs).length ≤ 4000) :
    (("Memory(" : Str) ++ (PyData.list ((rle cs).map d2)).shown).length ≤ 15472009 ∧ (memText cs).length ≤ 15472010 := by
  obtain ⟨h1, _, h3⟩ := shown_pairs h hl
  have e := Nat.le_trans (shown_len _ h1) h3
  have e1 : ("Memory(" : Str).length = 7 := by decide +kernel
  have e2 : (")" : Str).length = 1 := by decide +kernel
  have a1 := strLen_append ("Memory(" : Str) (PyData.list ((rle cs).map d2)).shown
  have a2 := strLen_append (("Memory(" : Str) ++ (PyData.list ((rle cs).map d2)).shown) (")" : Str)
  refine ⟨?_, ?_⟩
  · rw [a1, e1]
    omega
  · show ((("Memory(" : Str) ++ (PyData.list ((rle cs).map d2)).shown) ++ (")" : Str)).length ≤ _
    rw [a2, a1, e1, e2]
    omega
theorem line_of {n : Nat} (h : n ≤ 15472010) : n ≤ sizeLine := Nat.le_trans h (by decide)
def sp_mrepr (K : PySem.W.Frag) (C : Addr) : Sp := fun vs H Q _ => ∃ (m : Addr) (cs : List Int), vs = [.ref m] ∧ MemAt K C H m cs ∧ (∀ q ∈ rle cs, okI q.1 ∧ okI q.2) ∧
  (rle cs).length ≤ 4000 ∧ Q (.str (memText cs)) H
theorem sc_Memory_repr : FnScope ["self"] ["self"] (defScope s_Memory_repr) :=
  ⟨rfl, rfl, rfl, by decide +kernel, rfl, by decide +kernel, by decide +kernel⟩
theorem ok_Memory_repr {P : Program} {w : World} {K : PySem.W.Frag} {mg : Str → Option Value} {base : Heap} (T : Txt K mg) :
    FnG P w K mg base 1 T.a_Memory_repr T.d_Memory_repr ["self"] (sp_mrepr K T.c_Memory) := by
  refine okD T.F_Memory_repr sc_Memory_repr (fun vs H Q E h => ?_) (fun cdv A outer s H vs Q E hr h => ?_)
  · first
      | (obtain ⟨_, rfl, _⟩ := h; rfl)
      | (obtain ⟨_, _, rfl, _⟩ := h; rfl)
      | (obtain ⟨_, _, _, rfl, _⟩ := h; rfl)
      | (obtain ⟨_, _, _, _, rfl, _⟩ := h; rfl)
      | (obtain ⟨_, _, _, _, _, rfl, _⟩ := h; rfl)
      | (obtain ⟨_, _, _, _, _, _, rfl, _⟩ := h; rfl)
      | (obtain ⟨_, _, _, _, _, _, _, rfl, _⟩ := h; rfl)
      | (obtain ⟨_, _, _, _, _, _, _, _, rfl, _⟩ := h; rfl)
      | (obtain ⟨_, _, _, _, _, _, _, _, _, rfl, _⟩ := h; rfl)
      | (obtain ⟨_, _, _, _, _, _, _, _, _, _, rfl, _⟩ := h; rfl)
      | (obtain ⟨_, _, _, _, _, _, _, _, _, _, _, rfl, _⟩ := h; rfl)
  · obtain ⟨m, cs, rfl, ⟨dx, l, hm, ld⟩, hok, hn, k⟩ := h
    obtain ⟨s1, s2, s3⟩ := shown_pairs hok hn
    obtain ⟨z1, z2⟩ := mem_short hok hn
    have cl_Memory := T.cl_Memory
    have na_Memory_pairs := T.na_Memory_pairs
    have na_Memory_wide := T.na_Memory_wide
    refine ⟨_, (pss_one (ps_ret (pe_joined (PJ.cons pe_str (PJ.cons (k_fmtD (K := K) rfl hr.g hr.r.units (k_fld (K := K) rfl (pv 0) rfl)) (PJ.cons pe_str PJ.nil)))))), ?_⟩
    dsimp only [cxOf, st_1, st_2, st_3, st_4, st_5, st_6, List.length_cons, List.length_nil, List.replicate_succ, List.replicate_zero, Nat.reduceAdd, Nat.reduceSub]
    walk_at "gs"
    refine i_js ?_
    walk_at "gs"
    refine i_jsS (P := fun z => tJs _ (PySem.Str.empty ++ z) _ _ _) (by rw [str_empty]; decide +kernel) ?_
    rw [str_empty]
    refine i_js ?_
    refine i_fmtD ?_
    walk_at "gs"
    refine ⟨l, _, rfl, ld.dp, s1, s2, line_of (Nat.le_trans s3 (by decide)), ?_⟩
    refine i_jsS (P := fun z => tJs _ (("Memory(" : Str) ++ z) _ _ _) (line_of (Nat.le_trans z1 (by decide))) ?_
    refine i_js ?_
    walk_at "gs"
    refine i_jsS (P := fun z => tJs _ (("Memory(" : Str) ++ (PyData.list ((rle cs).map d2)).shown ++ z) _ _ _) (line_of (Nat.le_trans z2 (by decide))) ?_
    exact i_js0 k

/-! ### repr of a list of two own instances -/
section
open PySem.Calls PyProof.Rows
/-- all guards are of the one list -/
def GuardOf (a0 : Addr) (g : List Code) : Prop := ∀ id v rest kw, Code.builtin id ⟨v :: rest, kw⟩ ∈ g → v = .ref a0
theorem GuardOf.clear {a0 b : Addr} {g : List Code} (h : GuardOf a0 g) (hne : b ≠ a0) : Clear g b := fun id v rest kw hm e => by
  rw [h id v rest kw hm] at e
  exact hne (Value.ref.inj e).symm
structure RoomL (a0 : Addr) (k : Nat) (A : Around) : Prop where
  r : Room k A
  g : ∃ g, A.guards = some g ∧ GuardOf a0 g
theorem RoomL.deeper {a0 : Addr} {k : Nat} {A : Around} (z : RoomL a0 (k + 1) A) (env : Env) : RoomL a0 k (A.deeper env) := ⟨z.r.deeper env, z.g⟩
structure FnL (a0 : Addr) (P : Program) (w : World) (K : PySem.W.Frag) (mg : Str → Option Value) (base : Heap)
    (k : Nat) (f : Addr) (fd : FuncData) (ps : List Str) (sp : Sp) : Prop where
  len : ∀ vs H Q E, sp vs H Q E → vs.length = ps.length
  run : ∀ (A : Around) (outer : List Env) (s : Shared) (H : Hp) (args : Args) (us : List Value)
    (vs : List V) (Q : VK) (E : XK), RoomL a0 k A → Env0 P w K mg base A outer s H →
    BindsTo s fd args (ps.zip us) → Vals vs us → sp vs H Q E →
    codeAny (model P w) A (.call (.ref f) args) (CR (L2.CX P w) outer P w H s Q E) s
section
variable {P : Program} {w : World} {K : PySem.W.Frag} {mg : Str → Option Value} {base : Heap} {a0 : Addr}
theorem FnL.body {k : Nat} {f : Addr} {name qual : Str} {params : Arguments} {body : List Stmt}
    {sc : Scope} {dV kV doc pm cdv ct oc : Value} {an od : Option Addr} {osl : Array (Option Value)}
    {N ps : List Str} {sp : Sp}
    (lk : K.lookup f = some ⟨oc, od, .func (PySem.W.fnOf name qual params body sc dV kV doc pm an cdv ct), osl⟩)
    (hcd : PySem.W.codeIn K cdv qual = true) (S : FnScope N ps sc)
    (len : ∀ vs H Q E, sp vs H Q E → vs.length = ps.length)
    (hb : ∀ (A : Around) (outer : List Env) (s : Shared) (H : Hp) (vs : List V) (Q : VK) (E : XK),
      RoomL a0 k (A.deeper (envOfC qual sc s.heap.objs.size f cdv)) → sp vs H Q E →
      ∃ t, PSs (cxOf (L2.CX P w) P w K mg base N qual sc f cdv A outer s H E) body t ∧
        t { nx := fun _ H' => Q .non H', rt := Q } (start N vs) H) :
    FnL a0 P w K mg base (k + 1) f
      (PySem.W.fnOf name qual params body sc dV kV doc pm an cdv ct) ps sp := by
  refine ⟨len, ?_⟩
  intro A outer s H args us vs Q E z e0 bd rv hsp
  have n0 := len _ _ _ _ hsp
  have kin : K.In s.heap :=
    e0.mod.kin.keeps (fun b o e => (e0.bs b o e).1)
  have lim : s.heap.NoLimit :=
    e0.mod.nolimit.keeps (fun b o e => (e0.bs b o e).1)
  have kinds : ∀ y ∈ ps.zip us, sc.names.lookup y.1 = some .local ∨
      (sc.names.lookup y.1 = some .cell ∧
        ((cellsFrom (s.heap.objs.size + 1) sc.names []).lookup y.1).isSome = true) := by
    intro y hy
    obtain ⟨m, v⟩ := y
    cases S.par m (List.of_mem_zip hy).1 with
    | inl q => exact Or.inl q
    | inr q => exact Or.inr ⟨q, PySem.W.cellsFrom_some _ _ _ (Or.inl q)⟩
  refine codeAny_call_function z.r.depth (kin _ _ lk) rfl S.co S.gen rfl
    (PySem.W.codeRec_of kin hcd) (bd _ _ _ _ ?_)
  refine wpAny_newFunctionEnv_cells S.kind kinds ?_
  intro env he s1 x
  subst he
  refine ⟨lim.keeps x.toInCall.keep, ?_⟩
  refine codeAny_func ?_
  obtain ⟨t, ht, hq⟩ := hb A outer s H vs Q E (z.deeper _) hsp
  have I := inv_start (CX := L2.CX P w) (K := K) (mg := mg) (base := base) (E := E)
    S z.r.hd e0 n0 rv x
  refine wpAny_mono (ht.run [] s1 (start N vs) H _ I hq) ?_ (fun e s' hs => hs)
  intro fl s' hs
  have fin : ∀ {τ : L2.St} {G : Hp} {v : V} {u : Value},
      Inv (cxOf (L2.CX P w) P w K mg base N qual sc f cdv A outer s H E) [] τ G s' →
      RelV v u → Q v G → CE outer P w H s Q u s' := by
    intro τ G v u J r q
    exact ⟨v, G, J.os, J.bare, J.base, J.hok, r, q⟩
  match fl, hs with
  | .ret u, ⟨v, τ, G, J, r, q⟩ => exact fin J r q
  | .next, ⟨τ, G, J, q⟩ => exact fin (v := .non) (u := Value.none) J rfl q
  | .brk, ⟨_, _, _, q⟩ => exact False.elim q
  | .cont, ⟨_, _, _, q⟩ => exact False.elim q
theorem okL {x qual : Str} {params : Arguments} {body : List Stmt} {scope : Scope} {dvs : List V} {kws : List (Str × V)}
    {f : Addr} {fd : FuncData} {N ps : List Str} {k : Nat} {sp : Sp}
    (F : FunD K x qual params body scope dvs kws f fd) (S : FnScope N ps scope)
    (len : ∀ vs H Q E, sp vs H Q E → vs.length = ps.length)
    (hb : ∀ (cdv : Value) (A : Around) (outer : List Env) (s : Shared) (H : Hp) (vs : List V)
      (Q : VK) (E : XK), RoomL a0 k (A.deeper (envOfC qual scope s.heap.objs.size f cdv)) →
      sp vs H Q E →
      ∃ t, PSs (cxOf (L2.CX P w) P w K mg base N qual scope f cdv A outer s H E) body t ∧
        t { nx := fun _ H' => Q .non H', rt := Q } (start N vs) H) :
    FnL a0 P w K mg base (k + 1) f fd ps sp := by
  obtain ⟨oc, od, dV, kV, doc, pm, an, cdv, ct, osl, rfl, lk, hcd, _, _⟩ := F.ex
  exact FnL.body lk hcd S len fun A outer s H vs Q E z h => hb cdv A outer s H vs Q E z h
end
theorem run_inL {a0 : Addr} {X : Cx} {k : Nat} {f : Addr} {fd : FuncData} {ps : List Str} {sp : Sp} {E : XK} {A : Around} {pins : List (Addr × Obj)} {σ : L2.St} {H : Hp} {s : Shared} {Q : VK} {vs : List V} {us : List Value}
    (F : FnL a0 X.prog X.w X.K X.mg X.base k f fd ps sp) (z : RoomL a0 k A) (hA : A.frames = X.A.frames) (hb : BindsD X.K fd ps []) (hx : Ps X E)
    (I : Inv X pins σ H s) (r : Vals vs us) (h : sp vs H Q E) :
    wpAny (model X.prog X.w) A (call (.ref f) us) (EP X pins σ Q) X.xe s := by
  obtain ⟨ds, hd, hb⟩ := hb
  cases hd
  have e := I.env0
  have e0 : Env0 X.prog X.w X.K X.mg X.base A X.stack s H :=
    ⟨by rw [hA]; exact e.frames, e.mod, e.bs, e.bsz, e.funs, e.frf, e.hok, e.bare⟩
  have hl : (us ++ []).length = ps.length := by
    rw [List.append_nil, ← r.length]
    exact F.len _ _ _ _ h
  have b := hb s us I.kIn hl
  rw [List.append_nil] at b
  refine wpAny_call (codeAny_mono (F.run A X.stack s H ⟨us, []⟩ us vs Q E z e0 b r h) ?_)
  intro r s' hq
  match r, hq with
  | .error e, hq => exact hx pins σ H s e s' I hq
  | .ok (.ret u), hq => exact I.after hq
  | .ok .next, hq => exact False.elim hq
  | .ok .brk, hq => exact False.elim hq
  | .ok .cont, hq => exact False.elim hq
/-- a list's repr under guards of another one -/
theorem repr_readsL {prog : Program} {w : World} {A : Around} {E : Value → Shared → Prop} {s : Shared} {Q : Value → Shared → Prop} {a : Addr} {xs : List PyData} {as : List Addr} {g : List Code}
    (r : Reads s.heap (.ref a) (.list xs) as) (hs : (PyData.list xs).showable = true) (nd : (PyData.list xs).hasDict = false) (hg : A.guards = some g) (hcl : ∀ b d as, Reads s.heap (.ref b) d as → Clear g b)
    (hu : A.units + (PyData.list xs).depth < cLine) (hQ : ∀ h' u tk, (∀ b o, s.heap.get? b = some o → h'.get? b = some o) → Q (.str (PyData.list xs).shown u) { s with heap := h', toks := tk })
    (hsz : (PyData.list xs).shown.length ≤ sizeLine) : wpAny (model prog w) A (pyReprObj (.ref a)) Q E s := by
  cases r with
  | list h1 h2 h3 h4 =>
    rename_i o vs n bs₀
    have hz' : (listText (PyData.shownAll xs)).length ≤ sizeLine := by simpa only [PyData.shown] using hsz
    obtain ⟨bs, hb, hk⟩ := ReprAllK.of_readsAll (prog := prog) (w := w) h4 (by simpa [PyData.showable] using hs) (fun hx => by
      simp only [PyData.hasDict] at nd
      rw [nd] at hx
      cases hx) (fun t ht => Nat.le_trans (listText_mem_le ht) hz')
    have hna : a ∉ bs := not_mem_of_deeper (.list h1 h2 h3 h4) (by simp only [PyData.depth]; omega) hb
    have ca : Clear g a := hcl a _ _ (.list h1 h2 h3 h4)
    have cb : ∀ b ∈ bs, Clear g b := fun b hm => let ⟨_, _, r, _⟩ := hb b hm; hcl b _ _ r
    simp only [PyData.depth] at hu
    simp only [PyData.shown] at hQ
    refine wpAny_pyReprObj_slot (by omega) ⟨o, h1, h2⟩ PySem.F.slot_list_repr.toG ?_
    obtain ⟨l⟩ := vs
    cases l with
    | nil =>
      have h4' : ReadsAll s.heap [] xs _ := h4
      cases h4'
      simp only [PyData.shownAll, listText_nil] at hQ
      exact call_list_repr_empty ⟨o, h1, h2⟩ h1 h3 ⟨_, _, rfl, hQ s.heap _ _ fun _ _ e => e⟩
    | cons x l =>
      exact call_list_reprK h1 h2 h3 hna (by simpa using hk.length_eq) (fun i y e => hk.item i y (by simpa using e)) hg (fun b hm => (List.mem_cons.mp hm).elim (fun e => e ▸ ca) (cb b)) hu (fun _ _ e => e)
        (fun h' u tk hk => ⟨_, _, rfl, hQ h' u tk hk⟩) hz'
/-- a list with an own instance in it is no data -/
theorem no_read {X : Cx} {pins : List (Addr × Obj)} {σ : L2.St} {H : Hp} {s : Shared} {a0 m C dx : Addr} {vs : List V} {fs : List (Str × V)} (I : Inv X pins σ H s) (h0 : H a0 = some (.lst (.ref m :: vs)))
    (hm : H m = some (.ins C dx fs)) {d : PyData} {as : List Addr} : ¬ Reads s.heap (.ref a0) d as := by
  obtain ⟨its, n, rv, ho, _⟩ := I.lst h0
  obtain ⟨mA, ⟨hob, _, _⟩, _⟩ := ins_get I.hok hm
  cases rv with
  | cons r1 rv =>
  cases r1
  have bad : ∀ {d2 : PyData} {as2 : List Addr}, ¬ Reads s.heap (.ref m) d2 as2 := fun r => by
    cases r with
    | list h1 h2 _ _ => rw [hob] at h1; cases h1; cases h2
    | tuple h1 h2 _ _ => rw [hob] at h1; cases h1; cases h2
    | dict h1 h2 _ _ _ => rw [hob] at h1; cases h1; cases h2
  intro r
  cases r with
  | list h1 h2 h3 h4 =>
    rw [ho] at h1
    cases h1
    cases h3
    cases h4 with
    | cons r1 _ => exact bad r1
  | tuple h1 h2 _ _ => rw [ho] at h1; cases h1; simp at h2
  | dict h1 h2 _ _ _ => rw [ho] at h1; cases h1; simp at h2
def tFmtL (K : PySem.W.Frag) (a0 : Addr) (te : TE) : TE := fun σ H Q => te σ H fun x H1 => ∃ (a : Addr) (ds : List PyData), x = .ref a ∧ Dp K H1 x (.list ds) ∧ shw (.list ds) = true ∧ (PyData.list ds).depth ≤ 60 ∧ cw (.list ds) ≤ sizeLine ∧
  (∃ (m C dx : Addr) (vs : List V) (fs : List (Str × V)), H1 a0 = some (.lst (.ref m :: vs)) ∧ H1 m = some (.ins C dx fs)) ∧ Q (.str (PyData.list ds).shown) H1
theorem k_fmtL {X : Cx} {K : PySem.W.Frag} {a0 : Addr} {e : Expr} {te : TE} {pos : Pos} (h : X.K = K) (hg : ∃ g, X.A.guards = some g ∧ GuardOf a0 g) (hu : X.A.units + 64 < cLine) (he : PE X e te) : PE X (.FormattedValue e 114 none pos) (tFmtL K a0 te) := by
  subst h
  refine ⟨fun pins s σ H Q I h => ?_⟩
  refine wpAny_FormattedValue_repr (thn (he.run pins s σ H _ I h) fun v s1 hv => ?_)
  obtain ⟨x, H1, I1, r1, a, ds, rfl, hd, hs, hdp, hz, ⟨m, C, dx, vs, fs, h0, hm⟩, q⟩ := hv
  obtain ⟨hs1, hs2⟩ := shw_showable _ hs
  have hz2 := Nat.le_trans (shown_len _ hs) hz
  cases r1
  obtain ⟨as, hr⟩ := Dp.reads I1 _ _ _ hd rfl
  obtain ⟨g, hg1, hg2⟩ := hg
  refine repr_readsL hr hs1 hs2 hg1 (fun b d as r => hg2.clear fun z => by rw [z] at r; exact no_read I1 h0 hm r) (by omega) (fun h' u tk hk => ?_) hz2
  have I2 := I1.kept (t' := tk) hk
  exact wpAny_formatField_str ⟨.str _, H1, I2, ⟨_, rfl⟩, q⟩ ⟨.str _, H1, I2.tok _, ⟨_, rfl⟩, q⟩ hz2
theorem i_fmtL {K : PySem.W.Frag} {a0 : Addr} {te : TE} {σ : L2.St} {H : Hp} {Q : VK} (h : te σ H fun x H1 => ∃ (a : Addr) (ds : List PyData), x = .ref a ∧ Dp K H1 x (.list ds) ∧ shw (.list ds) = true ∧ (PyData.list ds).depth ≤ 60 ∧ cw (.list ds) ≤ sizeLine ∧
  (∃ (m C dx : Addr) (vs : List V) (fs : List (Str × V)), H1 a0 = some (.lst (.ref m :: vs)) ∧ H1 m = some (.ins C dx fs)) ∧ Q (.str (PyData.list ds).shown) H1) : tFmtL K a0 te σ H Q := h
/-- an own instance's repr, called for a list's -/
theorem under_inst {prog : Program} {w : World} {A : Around} {E : Value → Shared → Prop} {s : Shared} {K : PySem.W.Frag} {x C f : Addr} {ox : Obj} {od : Option Obj} {Q : Str → Shared → Prop} {b : Nat}
    (inn : K.In s.heap) (J : PySem.W.InstAt s.heap x ox C od) (hs : PySem.W.findIn K (.ref C) "__repr__" = some (some (.ref f))) (hf : PySem.W.isFn K (.ref f) = true) (hu : A.units < cLine) (hb : b ≤ sizeLine)
    (h : wpAny (model prog w) A (call (.ref f) [.ref x]) (fun v s' => ∃ t u, v = .str t u ∧ Q t s') E s) : wpAny (model prog w) A (pyReprUnder b (.ref x)) Q E s := by
  refine wpAny_pyReprUnder_ref hb ?_
  unfold pyReprObjUnder pyReprObjBy
  refine wpAny_bind (wpAny_cRoomFor hu ?_)
  refine wpAny_bind (wpAny_bind (J.type.here ((PySem.W.looks_findIn inn hs).here ?_)))
  show wpAny _ _ (if (some (Value.ref f)).isNone = true then _ else _) _ _ _
  rw [if_neg (by simp)]
  apply wpAny_bind
  simp only [callSpecialIfBoundBy?, bindSpecialIfBound?]
  refine wpAny_holding (wpAny_bind (wpAny_bind (wpAny_bind (J.type.here ((PySem.W.looks_findIn inn hs).here ?_)))))
  refine wpAny_bind (wpAny_askSetting (wpAny_ite ?_))
  have fin : ∀ {P : Option Value → Shared → Prop}, (∀ t u s', Q t s' → P (some (.str t u)) s') → wpAny (model prog w) A (call (.ref f) ([.ref x] ++ []) >>= fun v => pure (some v)) P E s := fun k =>
    wpAny_bind (wpAny_mono h (fun v s' ⟨t, u, e, q⟩ => wpAny_pure (by rw [e]; exact k t u s' q)) fun _ _ z => z)
  have put : ∀ t u s', Q t s' → wpAny (model prog w) A (do if ← isInstance (.str t u) (.type "str") then pure (Value.str t u) else raiseError "TypeError" s!"__repr__ returned non-string (type {← typeNameOf (.str t u)})") (fun v s' => ∃ t u, v = .str t u ∧ Q t s') E s' := fun t u s' q => by
    refine wpAny_bind (wpAny_isInstance (typeIs_str _ _ _) isSubtype_str_str ?_)
    first
      | exact wpAny_pure ⟨t, u, rfl, q⟩
      | (rw [if_pos rfl]; exact wpAny_pure ⟨t, u, rfl, q⟩)
      | (simp only [if_true]; exact wpAny_pure ⟨t, u, rfl, q⟩)
  split
  · exact wpAny_bind ((PySem.W.bind_fn inn _ (beq_iff_eq.mp hf)).here (wpAny_pure (by exact fin put)))
  · exact wpAny_tryCatch (wpAny_bind ((PySem.W.bind_fn inn _ (beq_iff_eq.mp hf)).here (wpAny_pure (by exact fin put))))
theorem room_loop {a0 : Addr} {k : Nat} {A : Around} {rest : List Value} {kw : List (Str × Value)} (z : RoomG (k + 1) A) : RoomL a0 k (A.under (.builtin "list.__repr__.loop" ⟨.ref a0 :: rest, kw⟩)) := by
  refine ⟨⟨z.r.hd, ?_, ?_⟩, _, guards_under_guard (isGuard_list_loop _) z.g, ?_⟩
  · have e : (A.under (.builtin "list.__repr__.loop" ⟨.ref a0 :: rest, kw⟩)).depth ≤ A.depth + 1 := by
      first
        | exact Nat.le_refl _
        | simp [Around.under, Code.weight, Code.isCreation, Code.isGuard, Code.isCaller, Code.frames, Code.isFrame, guardIds]
    have := z.r.dp
    omega
  · rw [units_under_list_loop]
    have := z.r.un
    omega
  · intro id v rest2 kw2 h
    rcases List.mem_cons.mp h with h | h
    · cases h
      rfl
    · cases h
theorem strs_of {ts : List Str} : ∀ {its : List Value}, Vals (ts.map V.str) its → ∃ done : List (Str × Tok), its = strValues done ∧ done.map (·.1) = ts := by
  induction ts with
  | nil =>
    intro its h
    cases h
    exact ⟨[], rfl, rfl⟩
  | cons t ts ih =>
    intro its h
    cases h with
    | cons r h =>
      obtain ⟨k, rfl⟩ := r
      obtain ⟨done, rfl, e⟩ := ih h
      exact ⟨(t, k) :: done, rfl, by rw [List.map_cons, e]⟩
section
variable {X : Cx} {pins : List (Addr × Obj)} {σ : L2.St} {H : Hp} {s : Shared} {k : Nat} {C f a P : Addr} {fd : FuncData} {ps : List Str} {sp : Sp} {E : XK} {xs : List V} {Q : Value → Shared → Prop} {A : Around}
theorem loop_end {i b : Nat} {ts : List Str} (I : Inv X pins σ H s) (hP : H P = some (.lst (ts.map V.str))) (ha : H a = some (.lst xs)) (hi : xs.length = i) (hz : (listText ts).length ≤ sizeLine)
    (q : ∀ u s', Inv X pins σ H s' → Q (.str (listText ts) u) s') :
    codeAny (model X.prog X.w) A (.builtin "list.__repr__.loop" ⟨[.ref a, rawInt i, .ref P, rawInt b], []⟩) (callEnd Q X.xe) s := by
  obtain ⟨its, n, rv, ho, _⟩ := I.lst ha
  obtain ⟨jts, n2, rP, hoP, _⟩ := I.lst hP
  obtain ⟨done, rfl, hdone⟩ := strs_of rP
  have hl := rv.length
  refine codeAny_builtin PySem.F.entry_list_repr_loop ?_
  show wpAny _ _ (Builtin.«list.__repr__.loop» ⟨[.ref a, .int i 0, .ref P, .int b 0], []⟩) _ _ s
  rw [repr_loop_tree]
  refine wpAny_bind (wpAny_listItems ho rfl ?_)
  have hnone : its.toArray[(i : Int).toNat]? = none := by
    rw [Int.toNat_natCast]
    simp
    omega
  simp only [hnone]
  unfold reprEnd
  refine wpAny_bind (wpAny_listItems hoP rfl ?_)
  rw [repr_fold]
  refine wpAny_bind (wpAny_pure ?_)
  rw [hdone]
  refine wpAny_bind (wpAny_mkStr (wpAny_pure ?_) hz)
  exact q _ _ (I.tok _)
theorem loop_item {i b : Nat} {ts : List Str} {t : Str} {x dx : Addr} {fs : List (Str × V)} (I : Inv X pins σ H s) (hP : H P = some (.lst (ts.map V.str))) (ha : H a = some (.lst xs)) (hi : xs[i]? = some (.ref x))
    (hx0 : H x = some (.ins C dx fs)) (hm : Meth X.K C "__repr__" f) (F : FnL a X.prog X.w X.K X.mg X.base k f fd ps sp) (z : RoomG (k + 1) A) (hA : A.frames = X.A.frames) (hb : BindsD X.K fd ps []) (hx : Ps X E)
    (hsp : sp [.ref x] H (fun v H2 => v = .str t ∧ H2 = H) E) (hz : b + t.length + 2 ≤ sizeLine) (hn : ts.length + 1 ≤ 100)
    (next : ∀ s', Inv X pins σ (upd H P (.lst ((ts ++ [t]).map V.str))) s' →
      codeAny (model X.prog X.w) A (.builtin "list.__repr__.loop" ⟨[.ref a, rawInt ((i + 1 : Nat) : Int), .ref P, rawInt ((b + (t.length + 2) : Nat) : Int)], []⟩) (callEnd Q X.xe) s') :
    codeAny (model X.prog X.w) A (.builtin "list.__repr__.loop" ⟨[.ref a, rawInt i, .ref P, rawInt b], []⟩) (callEnd Q X.xe) s := by
  obtain ⟨its, n, rv, ho, _⟩ := I.lst ha
  obtain ⟨v, hv, rx⟩ := rv.get hi
  cases rx
  obtain ⟨mA, J, _⟩ := ins_get I.hok hx0
  obtain ⟨od, J, _⟩ := J.look
  refine codeAny_builtin PySem.F.entry_list_repr_loop ?_
  show wpAny _ _ (Builtin.«list.__repr__.loop» ⟨[.ref a, .int i 0, .ref P, .int b 0], []⟩) _ _ s
  rw [repr_loop_tree]
  refine wpAny_bind (wpAny_listItems ho rfl ?_)
  have hsome : its.toArray[(i : Int).toNat]? = some (.ref x) := by
    rw [Int.toNat_natCast]
    simpa using hv
  simp only [hsome]
  rw [Int.toNat_natCast]
  have zl : RoomL a k (A.under (.builtin "list.__repr__.loop" ⟨[.ref a, rawInt i, .ref P, rawInt b], []⟩)) := room_loop z
  have r0 : Vals [V.ref x] [Value.ref x] := .cons rfl .nil
  have hF : (A.under (.builtin "list.__repr__.loop" ⟨[.ref a, rawInt i, .ref P, rawInt b], []⟩)).frames = X.A.frames := by
    rw [← hA]
    first
      | rfl
      | simp [Around.under, Code.frames, Code.isFrame]
  refine wpAny_bind (wpAny_holding (under_inst I.kIn J hm.at_ hm.fn zl.r.units0 (by omega) ?_))
  refine wpAny_mono (run_inL F zl hF hb hx I r0 hsp) ?_ (fun e s' q => q)
  rintro u s1 ⟨v, H', I1, rv2, rfl, rfl⟩
  obtain ⟨tk, rfl⟩ := rv2
  refine ⟨t, tk, rfl, ?_⟩
  refine wpAny_bind (wpAny_mkStr ?_ (by omega))
  refine wpAny_bind ?_
  obtain ⟨jts, n2, rP, hoP, _⟩ := I1.lst hP
  have hj := rP.length
  rw [List.length_map] at hj
  show wpAny _ _ (updateSeq P _) _ _ _
  have h100 : (100 : Nat) ≤ sizeLine := by decide
  refine wpAny_updateSeq hoP rfl (wpAny_pure ⟨PySem.F.quiet_list_repr_loop _, ?_⟩) (by simp; omega)
  have e1 : ((i : Int) + 1) = ((i + 1 : Nat) : Int) := by omega
  rw [e1]
  refine next _ ?_
  exact I1.lset (its' := jts ++ [.str t s1.toks]) hP hoP (by simp) (by rw [List.map_append]; exact rP.append (.cons ⟨_, rfl⟩ .nil)) (by
    rw [List.length_map, List.length_append, List.length_singleton]
    omega)
end
/-- repr([m, n]) of two own instances -/
def rReprL (C : Addr) (sp : Addr → Sp) (E : XK) : List V → Hp → VK → Prop := fun xs H Q => ∃ (a m n d1 d2 : Addr) (f1 f2 : List (Str × V)) (t u : Str), xs = [.ref a] ∧ H a = some (.lst [.ref m, .ref n]) ∧
  H m = some (.ins C d1 f1) ∧ H n = some (.ins C d2 f2) ∧ (∀ H1, Kp [] H H1 → sp a [.ref m] H1 (fun v H2 => v = .str t ∧ H2 = H1) E) ∧ (∀ H1, Kp [] H H1 → sp a [.ref n] H1 (fun v H2 => v = .str u ∧ H2 = H1) E) ∧
  t.length + u.length + 10 ≤ sizeLine ∧ ∀ H1, Kp [] H H1 → Q (.str (listText [t, u])) H1
theorem listText2 (t u : Str) : (listText [t, u]).length = t.length + u.length + 4 := by
  have e1 : (("[" : String) : Str).length = 1 := rfl
  have e2 : (("]" : String) : Str).length = 1 := rfl
  have e3 : ((", " : String) : Str).length = 2 := rfl
  have e4 : (("" : String) : Str).length = 0 := rfl
  simp only [listText, textFrom, strLen_append, Nat.lt_irrefl, if_false, Nat.zero_add, gt_iff_lt, Nat.lt_one_iff, Nat.zero_lt_one, if_true, e1, e2, e3, e4]
  omega
theorem k_reprL {X : Cx} {K : PySem.W.Frag} {k : Nat} {C f : Addr} {fd : FuncData} {ps : List Str} {sp : Addr → Sp} {E : XK} (h : X.K = K) (hm : Meth X.K C "__repr__" f) (F : ∀ a0, FnL a0 X.prog X.w X.K X.mg X.base k f fd ps (sp a0)) (z : RoomG (k + 2) X.A)
    (hb : BindsD X.K fd ps []) (hx : Ps X E) : CallR X (.builtin "repr") (rReprL C sp E) := by
  subst h
  intro pins s σ H xs us Q I r h
  obtain ⟨a, m, n, d1, d2, f1, f2, t, u, rfl, ha, hm1, hn1, k1, k2, hz, q⟩ := h
  obtain ⟨ua, rfl, rx⟩ := vals1 r
  cases rx
  obtain ⟨its, nn, rv, ho, _⟩ := I.lst ha
  cases rv with
  | cons r1 rv =>
  cases rv with
  | cons r2 rv =>
  cases rv
  cases r1
  cases r2
  have z1 := RoomG.in1 z
  have lt := listText2 t u
  refine call_repr_slot (T := "list") (idr := "list.__repr__") z1.r.units0 ⟨_, ho, rfl⟩ PySem.F.slot_list_repr.toG ?_
  refine wpAny_call (codeAny_call_builtin PySem.F.slot_list_repr.plain PySem.F.entry_list_repr (PySem.F.slot_list_repr.check _ _ _ _ _ _ _ _ ⟨_, ho, rfl⟩ (PySem.F.args_list_repr_1 _) ?_))
  refine wpAny_list_repr_head (b := 0) (g := []) z.g (fun _ _ _ h => nomatch h) ho rfl ?_
  refine wpAny_bind (m := newList []) (wpAny_newObj_type ?_)
  refine wpAny_pure ⟨PySem.F.quiet_list_repr_loop _, ?_⟩
  have I1 : Inv X pins σ (upd H s.heap.objs.size (.lst ([] : List V))) { s with heap := s.heap.push { cls := .type "list", data := .seq #[] } } := I.lnew (ys := []) (its := []) (t' := s.toks) .nil (Nat.zero_le _)
  obtain ⟨P, hPe⟩ : ∃ P, P = s.heap.objs.size := ⟨_, rfl⟩
  rw [← hPe] at I1 ⊢
  have fP : Fr H P := ⟨by rw [hPe]; exact I.fresh⟩
  have kP : ∀ ys : List V, Kp [] H (upd H P (.lst ys)) := fun ys => Kp.new fP
  refine loop_item (i := 0) (b := 0) (ts := []) (t := t) (x := m) I1 upd_same ((kP []).at_ _ _ ha not_nil) rfl ((kP []).at_ _ _ hm1 not_nil) hm (F a) z1 rfl hb hx (k1 _ (kP [])) (by omega) (by simp) ?_
  intro s1 I2
  rw [upd_upd] at I2
  refine loop_item (i := 1) (ts := [t]) (t := u) (x := n) I2 upd_same ((kP _).at_ _ _ ha not_nil) rfl ((kP _).at_ _ _ hn1 not_nil) hm (F a) z1 rfl hb hx (k2 _ (kP _)) (by omega) (by simp) ?_
  intro s2 I3
  rw [upd_upd] at I3
  refine loop_end (i := 2) (ts := [t, u]) I3 upd_same ((kP _).at_ _ _ ha not_nil) rfl (by omega) ?_
  intro v s3 I4
  exact ⟨_, _, rfl, .str _, _, I4, ⟨_, rfl⟩, q _ (kP _)⟩
theorem i_reprL {C : Addr} {sp : Addr → Sp} {E : XK} {H : Hp} {Q : VK} {a m n d1 d2 : Addr} {f1 f2 : List (Str × V)} {t u : Str} (ha : H a = some (.lst [.ref m, .ref n])) (hm : H m = some (.ins C d1 f1)) (hn : H n = some (.ins C d2 f2))
    (k1 : ∀ H1, Kp [] H H1 → sp a [.ref m] H1 (fun v H2 => v = .str t ∧ H2 = H1) E) (k2 : ∀ H1, Kp [] H H1 → sp a [.ref n] H1 (fun v H2 => v = .str u ∧ H2 = H1) E) (hz : t.length + u.length + 10 ≤ sizeLine)
    (q : ∀ H1, Kp [] H H1 → Q (.str (listText [t, u])) H1) : rReprL C sp E [.ref a] H Q := ⟨a, m, n, d1, d2, f1, f2, t, u, rfl, ha, hm, hn, k1, k2, hz, q⟩
end

/-! ### dict of pairs; sorted of a dict of numbers -/
section
open PySem.Calls PyProof.Rows
variable {X : Cx}
/-- sorted(d), d a dict of numbers -/
def rSortedD : List V → Hp → VK → Prop := fun xs H Q => ∃ (a : Addr) (kvs : List (Key × V)) (ns : List Int), xs = [.ref a] ∧ Rd H a (.dK kvs) ∧ (kvs.map fun kv => kV kv.1) = ns.map V.int ∧
  ∀ (ns' : List Int) (p : Addr), ns'.Perm ns → ns'.Pairwise (· ≤ ·) → H p = none → Q (.ref p) (upd H p (.lst (ns'.map V.int)))
theorem k_sortedD (hcalm : X.calm = true) : CallR X (.builtin "sorted") rSortedD := by
  intro pins s σ H xs us Q I r q
  obtain ⟨a, kvs, ns, rfl, hd, en, q⟩ := q
  obtain ⟨u, rfl, rx⟩ := vals1 r
  cases rx
  obtain ⟨z, lo, vs, rel, dd⟩ := dk_rd I.hok hd
  obtain ⟨ep, hat⟩ := dd.dictAt
  have ek : (kvs.map fun kv => kV kv.1) = vs.map fun p => kV p.1 := by
    have e := congrArg (List.map kV) rel.keys
    rw [List.map_map, List.map_map] at e
    exact e
  refine call_function_entry kind_sorted plain_sorted entry_sorted (args_sorted1 _) ?_
  unfold Builtin.«sorted»
  refine wpAny_bind (m := checkCount "sorted" 1 1 _) (wpAny_pure ?_)
  refine wpAny_bind (PySem.W.kdu_collect (A := X.A.in1) (PySem.W.kdl_dict (knd := mixKind X.prog X.w) (kvs := vs) (ep := ep) lo) (I.ok.hd hcalm) hat (by rw [← rel.length]; exact z) fun h' tk acc hk hacc => ?_)
  have hv : Vals (vs.map fun p => kV p.1) acc.toList := keys_at (by rw [Array.length_toList]; exact hacc.1) fun j v e => hacc.2 j v (by rw [← Array.getElem?_toList]; exact e)
  rw [← ek, en] at hv
  have hz : ns.length ≤ sizeLine := by
    have e := congrArg List.length en
    rw [List.length_map, List.length_map] at e
    omega
  have hl : acc.toList.length = ns.length := by rw [← hv.length, List.length_map]
  refine wpAny_bind (wpAny_newList ?_ (by rw [hl]; exact hz))
  have I0 : Inv X pins σ H { s with heap := h', toks := tk } := I.kept hk
  obtain ⟨D, hD⟩ : ∃ D, D = h'.objs.size := ⟨_, rfl⟩
  have I1 : Inv X pins σ (upd H h'.objs.size (.lst (ns.map V.int))) { s with heap := h'.push { cls := .type "list", data := .seq acc.toList.toArray }, toks := tk } :=
    I0.lnew (its := acc.toList) (t' := tk) hv (by rw [List.length_map]; exact hz)
  have fD : H h'.objs.size = none := I0.fresh
  rw [← hD] at I1 fD ⊢
  have hi := hv.ints
  obtain ⟨zl, its, n, rv, hob⟩ := I1.hok D _ upd_same
  have hi2 := rv.ints
  refine wpAny_bind (wpAny_holding (wpAny_call_entry PyProof.Rows.slot_list_sort ⟨_, hob, rfl⟩ PyProof.Rows.entry_list_sort
    (SrtO.list_sort_ord SrtO.swo_int hob (by rw [← rv.length]; exact zl) (fun h2 => SrtO.ints_sortable hi2 h2) fun out h1 h2 => ⟨.none, rfl, ?_⟩) (PyProof.Rows.args_list_sort _)))
  obtain ⟨k1, k2, k3⟩ := SrtO.ints_out hi2 h1 h2
  obtain ⟨ep2, he'⟩ := PyProof.Rows.sortedHeap_at (vs := its) (out := out.toArray) hob
  have hlen : ((out.map SrtO.iv).map V.int).length ≤ sizeLine := by
    rw [List.length_map, k2.length_eq]
    exact hz
  have I2 := I1.write (x := D) (e := D) (o := .lst ((out.map SrtO.iv).map V.int)) (t' := tk) (by rw [upd_same]; trivial) (.inl rfl) (fun b u hb hu => by
    rw [PyProof.Rows.sortedHeap_old hb (Heap.lt_size hu)]; exact hu) ⟨_, he'⟩ ⟨hlen, out, ep2, vals_of_ints k1, he'⟩
  rw [upd_upd] at I2
  exact wpAny_pure ⟨_, rfl, .ref D, _, I2, rfl, q _ _ k2 k3 fD⟩
def rDictP (K : PySem.W.Frag) : List V → Hp → VK → Prop := fun xs H Q => ∃ (a : Addr) (ps : List Addr) (kvs : List (Key × V)), xs = [.ref a] ∧ SqL K H a (ps.map V.ref) ∧ Paired (fun p kv => SqT K H p [kV kv.1, kv.2]) ps kvs ∧
    ∀ p, H p = none → Q (.ref p) (upd H p (.dK (mergeK [] kvs)))
theorem k_dictP {K : PySem.W.Frag} (h : X.K = K) (hcalm : X.calm = true) : CallR X (.type "dict") (rDictP K) := h ▸ call_dictP hcalm
end
section
variable {K : PySem.W.Frag} {H : Hp} {Q : VK} {a : Addr} {ns : List Int}
theorem i_sortedD (h : H a = some (.dK (ns.map kT))) (q : ∀ (ns' : List Int) (p : Addr), ns'.Perm ns → ns'.Pairwise (· ≤ ·) → Fr H p → Q (.ref p) (upd H p (.lst (ns'.map V.int)))) : rSortedD [.ref a] H Q := by
  refine ⟨a, _, ns, rfl, Rd.of h, ?_, fun ns' p h1 h2 h3 => q ns' p h1 h2 ⟨h3⟩⟩
  rw [List.map_map]
  rfl
abbrev dT (n : Int) : PyData := .tuple [.int n, .bool true]
theorem imms_dT : ∀ l : List Int, imms (l.map dT) = true
  | [] => rfl
  | _ :: l => by
    simp only [List.map_cons, imms, G.imm, imms_dT l]
    rfl
theorem dp_dT {v : V} {n : Int} (h : Dp K H v (dT n)) : ∃ t, v = .ref t ∧ SqT K H t [.int n, .bl true] := by
  cases h with
  | tup hs ha =>
    cases ha with
    | cons a1 ha =>
    cases ha with
    | cons a2 ha =>
    cases ha
    cases a1
    cases a2
    exact ⟨_, rfl, hs⟩
theorem dp_mkT {t : Addr} {n : Int} (h : SqT K H t [.int n, .bl true]) : Dp K H (.ref t) (dT n) := .tup h (.cons (.int _) (.cons (.bl _) .nil))
theorem merge_kT : ∀ (ns ms : List Int), mergeK (ms.map kT) (ns.map kT) = (ns.foldl addK ms).map kT
  | [], ms => rfl
  | n :: ns, ms => by
    have ih := merge_kT ns (addK ms n)
    rw [← put_kT] at ih
    exact ih
theorem pairs_kT : ∀ {ns : List Int} {vs : List V}, DpAll K H vs (ns.map dT) → ∃ ps : List Addr, vs = ps.map V.ref ∧ Paired (fun p kv => SqT K H p [kV kv.1, kv.2]) ps (ns.map kT)
  | [], _, h => by
    cases h
    exact ⟨[], rfl, .nil⟩
  | n :: ns, _, h => by
    cases h with
    | cons h1 h2 =>
      obtain ⟨ps, rfl, hp⟩ := pairs_kT h2
      obtain ⟨t, rfl, hs⟩ := dp_dT h1
      exact ⟨t :: ps, rfl, .cons hs hp⟩
theorem i_dictP (h : LD K H a (ns.map dT)) (q : New H fun p => Q (.ref p) (upd H p (.dK ((ns.foldl addK []).map kT)))) : rDictP K [.ref a] H Q := by
  obtain ⟨vs, hv, ha⟩ := h
  obtain ⟨ps, rfl, hp⟩ := pairs_kT ha
  refine ⟨a, ps, ns.map kT, rfl, SqL.of hv, hp, fun p hp => ?_⟩
  have e := merge_kT ns []
  rw [List.map_nil] at e
  rw [e]
  exact q p hp
end

/-! ### the cells of a run -/
theorem had_bound (f : Nat → Int) (w B : Int) (hf : ∀ j, -B ≤ f j ∧ f j ≤ B)
    (hB : 1000000000000000000000000000000000000000000000000000000000000 ≤ B) : ∀ (r : List Deed), (∀ d ∈ r, d.Ok w) → ∀ (j : Nat) (x : Int), -B ≤ hadR f r j x ∧ hadR f r j x ≤ B
  | [], _, j, _ => hf j
  | .fill i lo hi v :: r, h, j, x => by
    have ih := had_bound f w B hf hB r fun d hd => h d (List.mem_cons_of_mem _ hd)
    obtain ⟨_, _, a, b⟩ := h _ List.mem_cons_self
    show -B ≤ (if i = j ∧ lo ≤ x ∧ x < hi then v else hadR f r j x) ∧ (if i = j ∧ lo ≤ x ∧ x < hi then v else hadR f r j x) ≤ B
    split
    · omega
    · exact ih j x
  | .copy i lo hi g o :: r, h, j, x => by
    have ih := had_bound f w B hf hB r fun d hd => h d (List.mem_cons_of_mem _ hd)
    show -B ≤ (if i = j ∧ g ≤ x ∧ x < g + hi - lo then hadR f r o (x - g + lo) else hadR f r j x) ∧ (if i = j ∧ g ≤ x ∧ x < g + hi - lo then hadR f r o (x - g + lo) else hadR f r j x) ≤ B
    split
    · exact ih _ _
    · exact ih j x

theorem ok_cells {f : Nat → Int} {w : Nat} {r : List Deed} (h : ∀ d ∈ r, d.Ok w)
    (hf : ∀ j, -1000000000000000000000000000000000000000000000000000000000000 ≤ f j ∧ f j ≤ 1000000000000000000000000000000000000000000000000000000000000) {j : Nat} (hj : j < 2) :
    ∀ v ∈ cellsR f w r j, okI v := by
  intro v hv
  obtain ⟨x, hx⟩ := List.getElem?_of_mem hv
  obtain ⟨hl, hg⟩ := had_cells f w r h j hj
  have hxw := (List.getElem?_eq_some_iff.mp hx).1
  rw [hg x (by omega)] at hx
  have e := Option.some.inj hx
  have b := had_bound f w _ hf (Int.le_refl _) r h j x
  rw [← e]
  exact okI_of (by omega) (by omega)
/-- pairs of runs may be shown -/
theorem ok_runs {cs : List Int} (h : ∀ v ∈ cs, okI v) (hl : cs.length ≤ 1000000000000000000) : ∀ q ∈ rle cs, okI q.1 ∧ okI q.2 := by
  intro q hq
  obtain ⟨i, hi⟩ := List.getElem?_of_mem hq
  have hp := rle_pos cs q hq
  have hw := wide_nn ((rle cs).take i) fun z hz => rle_pos cs z (List.mem_of_mem_take hz)
  have cell : ∀ x : Nat, wide ((rle cs).take i) ≤ x → (x : Int) < wide ((rle cs).take i) + q.1 → cs[x]? = some q.2 := fun x h0 h1 => by
    have z := run_cell (rle_pos cs) hi h0 h1
    rw [cells_rle] at z
    exact z
  refine ⟨?_, ?_⟩
  · have z := cell (wide ((rle cs).take i) + q.1 - 1).toNat (by omega) (by omega)
    have := (List.getElem?_eq_some_iff.mp z).1
    exact okI_of (by omega) (by omega)
  · have z := cell (wide ((rle cs).take i)).toNat (by omega) (by omega)
    exact h _ (List.mem_of_getElem? z)

/-! ### lists of parts, shown and compared -/
theorem lay_d4 : ∀ P : List Part, PyData.canLayAll0 (P.map d4) = true ∧ PyData.depthAll (P.map d4) ≤ 1
  | [] => ⟨rfl, Nat.zero_le _⟩
  | p :: P => by
    have ih := lay_d4 P
    simp only [List.map_cons, PyData.canLayAll0, PyData.canLay0, PyData.depthAll, PyData.depth, ih.1, Bool.and_self, true_and]
    have := ih.2
    omega
theorem shaped_d4 (P : List Part) : SeqAt.shaped (.list (P.map d4)) = true :=
  shaped_of (lay_d4 P).1 (by simp only [PyData.depth]; have := (lay_d4 P).2; omega)
theorem ne_d4 {K : PySem.W.Frag} {H : Hp} {Q : VK} {l q : Addr} {P : List Part} (h : LD K H l (P.map d4)) (hq : Fr H q) (k : Q (.bl (!P.isEmpty)) (upd H q (.lst []))) :
    uNe K (.ref l) (.ref q) (upd H q (.lst [])) Q := by
  have kq : Kp [] H (upd H q (.lst [])) := Kp.new hq
  refine i_neD (h.kp kq (imms_d4 _) not_nil).dp (.lst (SqL.of upd_same) .nil) (shaped_d4 P) shaped_nil ?_
  rw [eqv_nil]
  have e : (P.map d4).isEmpty = P.isEmpty := by cases P <;> rfl
  rw [e]
  exact k
theorem Diff.okP {cs ds : List Int} {P : List Part} (t : Diff cs ds P) (hc : ∀ v ∈ cs, okI v) (hd : ∀ v ∈ ds, okI v) (hl : cs.length ≤ 1000000000000000000) :
    ∀ p ∈ P, okI p.b ∧ okI p.e ∧ okI p.h ∧ okI p.g := by
  intro p hp
  obtain ⟨w1, w2, w3⟩ := t.wide p hp
  obtain ⟨e1, e2⟩ := t.here p hp p.b.toNat (by omega) (by omega)
  exact ⟨okI_of (by omega) (by omega), okI_of (by omega) (by omega), hc _ (List.mem_of_getElem? e1), hd _ (List.mem_of_getElem? e2)⟩
theorem shws_d4 : ∀ l : List Part, (∀ p ∈ l, okI p.b ∧ okI p.e ∧ okI p.h ∧ okI p.g) → shws (l.map d4) = true
  | [], _ => rfl
  | p :: l, h => by
    have a := h p List.mem_cons_self
    have b := shws_d4 l fun z hz => h z (List.mem_cons_of_mem _ hz)
    simp only [List.map_cons, shws, shw, b, Bool.and_true, Bool.and_eq_true, decide_eq_true_eq]
    exact a
theorem cws_d4 : ∀ l : List Part, cws (l.map d4) ≤ 8000 * l.length
  | [] => Nat.le_refl _
  | p :: l => by
    have ih := cws_d4 l
    simp only [List.map_cons, cws, cw, List.length_cons]
    omega
theorem repr_d4 {K : PySem.W.Frag} {H : Hp} {Q : VK} {x : V} {l : List Part} (hx : Dp K H x (.list (l.map d4))) (h : ∀ p ∈ l, okI p.b ∧ okI p.e ∧ okI p.h ∧ okI p.g)
    (hl : l.length ≤ 1900) (q : Q (.str (PyData.list (l.map d4)).shown) H) : rRepr K [x] H Q := by
  refine i_repr hx ?_ ?_ ?_ q
  · simp only [shw]
    exact shws_d4 l h
  · simp only [PyData.depth]
    have := (lay_d4 l).2
    omega
  · have e : cw (.list (l.map d4)) ≤ 8000 * l.length + 2 := by
      have := cws_d4 l
      simp only [cw]
      omega
    exact Nat.le_trans e (Nat.le_trans (show 8000 * l.length + 2 ≤ 15472002 by omega) (by decide))

/-! ### a difference written from left to right; there is but one -/
structure DiffTo (cs ds : List Int) (P : List Part) (at_ : Int) : Prop where
  row : P.Pairwise Beside
  wide : ∀ p ∈ P, 0 ≤ p.b ∧ p.b < p.e ∧ p.e ≤ at_
  un : ∀ p ∈ P, p.h ≠ p.g
  here : ∀ p ∈ P, ∀ x : Nat, p.b ≤ x → (x : Int) < p.e → cs[x]? = some p.h ∧ ds[x]? = some p.g
  all : ∀ x : Nat, (x : Int) < at_ → cs[x]? ≠ ds[x]? → ∃ p ∈ P, p.b ≤ x ∧ (x : Int) < p.e
section
variable {cs ds : List Int} {P : List Part} {a e h g : Int} {p : Part}
theorem DiffTo.diff (t : DiffTo cs ds P cs.length) : Diff cs ds P := ⟨t.row, t.wide, t.un, t.here, fun x hx ne => t.all x (by omega) ne⟩
theorem DiffTo.none : DiffTo cs ds [] 0 := ⟨.nil, fun _ h => (nomatch h), fun _ h => (nomatch h), fun _ h => (nomatch h), fun x hx => by omega⟩
theorem DiffTo.same (t : DiffTo cs ds P a) (h1 : a ≤ e) (hh : ∀ x : Nat, a ≤ x → (x : Int) < e → cs[x]? = ds[x]?) : DiffTo cs ds P e := by
  refine ⟨t.row, fun p hp => ?_, t.un, t.here, fun x hx ne => ?_⟩
  · obtain ⟨a1, a2, a3⟩ := t.wide p hp
    exact ⟨a1, a2, by omega⟩
  · by_cases c : (x : Int) < a
    · exact t.all x c ne
    · exact absurd (hh x (by omega) hx) ne
theorem DiffTo.app (t : DiffTo cs ds P a) (h0 : 0 ≤ a) (h1 : a < e) (n : h ≠ g) (hh : ∀ x : Nat, a ≤ x → (x : Int) < e → cs[x]? = some h ∧ ds[x]? = some g)
    (hl : ∀ p ∈ P, p.e = a → ¬ (p.h = h ∧ p.g = g)) : DiffTo cs ds (P ++ [⟨a, e, h, g⟩]) e := by
  refine ⟨?_, ?_, ?_, ?_, ?_⟩
  · refine List.pairwise_append.mpr ⟨t.row, List.pairwise_singleton _ _, fun p hp q hq => ?_⟩
    rw [List.mem_singleton.mp hq]
    exact ⟨(t.wide p hp).2.2, fun z => hl p hp z⟩
  · intro p hp
    rcases List.mem_append.mp hp with hp | hp
    · obtain ⟨a1, a2, a3⟩ := t.wide p hp
      exact ⟨a1, a2, by omega⟩
    · rw [List.mem_singleton.mp hp]
      exact ⟨h0, h1, Int.le_refl _⟩
  · intro p hp
    rcases List.mem_append.mp hp with hp | hp
    · exact t.un p hp
    · rw [List.mem_singleton.mp hp]
      exact n
  · intro p hp x x0 x1
    rcases List.mem_append.mp hp with hp | hp
    · exact t.here p hp x x0 x1
    · rw [List.mem_singleton.mp hp] at x0 x1 ⊢
      exact hh x x0 x1
  · intro x hx ne
    by_cases c : (x : Int) < a
    · obtain ⟨p, hp, q⟩ := t.all x c ne
      exact ⟨p, List.mem_append_left _ hp, q⟩
    · exact ⟨_, List.mem_append_right _ (List.mem_singleton.mpr rfl), by show a ≤ (x : Int); omega, hx⟩
theorem DiffTo.last (t : DiffTo cs ds (P ++ [p]) a) : ∀ q ∈ P, q.e < a := by
  intro q hq
  have r := (List.pairwise_append.mp t.row).2.2 q hq p (List.mem_singleton.mpr rfl)
  have w := t.wide p (List.mem_append_right _ (List.mem_singleton.mpr rfl))
  have := r.1
  omega
theorem DiffTo.long (t : DiffTo cs ds (P ++ [p]) a) (e0 : p.e = a) (h1 : a < e) (hh : ∀ x : Nat, a ≤ x → (x : Int) < e → cs[x]? = some p.h ∧ ds[x]? = some p.g) :
    DiffTo cs ds (P ++ [⟨p.b, e, p.h, p.g⟩]) e := by
  have lp : p ∈ P ++ [p] := List.mem_append_right _ (List.mem_singleton.mpr rfl)
  have w := t.wide p lp
  refine ⟨?_, ?_, ?_, ?_, ?_⟩
  · obtain ⟨r1, _, r3⟩ := List.pairwise_append.mp t.row
    refine List.pairwise_append.mpr ⟨r1, List.pairwise_singleton _ _, fun q hq r hr => ?_⟩
    rw [List.mem_singleton.mp hr]
    exact r3 q hq p (List.mem_singleton.mpr rfl)
  · intro q hq
    rcases List.mem_append.mp hq with hq | hq
    · obtain ⟨a1, a2, a3⟩ := t.wide q (List.mem_append_left _ hq)
      exact ⟨a1, a2, by omega⟩
    · rw [List.mem_singleton.mp hq]
      exact ⟨w.1, by show p.b < e; omega, Int.le_refl _⟩
  · intro q hq
    rcases List.mem_append.mp hq with hq | hq
    · exact t.un q (List.mem_append_left _ hq)
    · rw [List.mem_singleton.mp hq]
      exact t.un p lp
  · intro q hq x x0 x1
    rcases List.mem_append.mp hq with hq | hq
    · exact t.here q (List.mem_append_left _ hq) x x0 x1
    · rw [List.mem_singleton.mp hq] at x0 x1 ⊢
      by_cases c : (x : Int) < a
      · exact t.here p lp x x0 (by omega)
      · exact hh x (by omega) x1
  · intro x hx ne
    by_cases c : (x : Int) < a
    · obtain ⟨q, hq, q1, q2⟩ := t.all x c ne
      rcases List.mem_append.mp hq with hq | hq
      · exact ⟨q, List.mem_append_left _ hq, q1, q2⟩
      · rw [List.mem_singleton.mp hq] at q1 q2
        exact ⟨_, List.mem_append_right _ (List.mem_singleton.mpr rfl), q1, hx⟩
    · exact ⟨_, List.mem_append_right _ (List.mem_singleton.mpr rfl), by show p.b ≤ (x : Int); omega, hx⟩
/-- the parts from a cell on -/
structure DTail (cs ds : List Int) (P : List Part) (a : Int) : Prop where
  row : P.Pairwise Beside
  wide : ∀ p ∈ P, a ≤ p.b ∧ p.b < p.e ∧ p.e ≤ cs.length
  un : ∀ p ∈ P, p.h ≠ p.g
  here : ∀ p ∈ P, ∀ x : Nat, p.b ≤ x → (x : Int) < p.e → cs[x]? = some p.h ∧ ds[x]? = some p.g
  all : ∀ x : Nat, a ≤ x → x < cs.length → cs[x]? ≠ ds[x]? → ∃ p ∈ P, p.b ≤ x ∧ (x : Int) < p.e
variable {R : List Part} {r : Part}
theorem DTail.unlike (t : DTail cs ds P a) (h0 : 0 ≤ a) (hp : p ∈ P) {x : Nat} (x0 : p.b ≤ x) (x1 : (x : Int) < p.e) : cs[x]? ≠ ds[x]? := by
  obtain ⟨e1, e2⟩ := t.here p hp x x0 x1
  rw [e1, e2]
  exact fun z => t.un p hp (Option.some.inj z)
theorem DTail.begin (tP : DTail cs ds (p :: P) a) (tR : DTail cs ds (r :: R) a) (h0 : 0 ≤ a) : r.b ≤ p.b := by
  have wp := tP.wide p List.mem_cons_self
  have wr := tR.wide r List.mem_cons_self
  obtain ⟨q, hq, q0, q1⟩ := tR.all p.b.toNat (by omega) (by omega) (tP.unlike h0 List.mem_cons_self (by omega) (by omega))
  rcases List.mem_cons.mp hq with rfl | hq
  · omega
  · have := (List.rel_of_pairwise_cons tR.row hq).1
    omega
theorem DTail.same (tP : DTail cs ds (p :: P) a) (tR : DTail cs ds (r :: R) a) (h0 : 0 ≤ a) (e : p.b = r.b) : p.h = r.h ∧ p.g = r.g := by
  have wp := tP.wide p List.mem_cons_self
  have wr := tR.wide r List.mem_cons_self
  obtain ⟨a1, a2⟩ := tP.here p List.mem_cons_self p.b.toNat (by omega) (by omega)
  obtain ⟨b1, b2⟩ := tR.here r List.mem_cons_self p.b.toNat (by omega) (by omega)
  rw [a1] at b1
  rw [a2] at b2
  exact ⟨Option.some.inj b1, Option.some.inj b2⟩
theorem DTail.end_ (tP : DTail cs ds (p :: P) a) (tR : DTail cs ds (r :: R) a) (h0 : 0 ≤ a) (e : p.b = r.b) : ¬ p.e < r.e := by
  intro lt
  have wp := tP.wide p List.mem_cons_self
  have wr := tR.wide r List.mem_cons_self
  obtain ⟨s1, s2⟩ := tP.same tR h0 e
  obtain ⟨q, hq, q0, q1⟩ := tP.all p.e.toNat (by omega) (by omega) (tR.unlike h0 List.mem_cons_self (by omega) (by omega))
  rcases List.mem_cons.mp hq with rfl | hq2
  · omega
  · have b := List.rel_of_pairwise_cons tP.row hq2
    have b1 := b.1
    obtain ⟨a1, a2⟩ := tP.here q hq p.e.toNat q0 q1
    obtain ⟨c1, c2⟩ := tR.here r List.mem_cons_self p.e.toNat (by omega) (by omega)
    rw [a1] at c1
    rw [a2] at c2
    exact b.2 (by omega) ⟨by rw [s1, Option.some.inj c1], by rw [s2, Option.some.inj c2]⟩
theorem DTail.rest (t : DTail cs ds (p :: P) a) (h0 : 0 ≤ a) : DTail cs ds P p.e := by
  have wp := t.wide p List.mem_cons_self
  refine ⟨(List.pairwise_cons.mp t.row).2, fun q hq => ?_, fun q hq => t.un q (List.mem_cons_of_mem _ hq), fun q hq => t.here q (List.mem_cons_of_mem _ hq), fun x x0 x1 ne => ?_⟩
  · have := (List.rel_of_pairwise_cons t.row hq).1
    have := t.wide q (List.mem_cons_of_mem _ hq)
    omega
  · obtain ⟨q, hq, q0, q1⟩ := t.all x (by omega) x1 ne
    rcases List.mem_cons.mp hq with rfl | hq
    · omega
    · exact ⟨q, hq, q0, q1⟩
theorem DTail.uniq : ∀ (P R : List Part) (a : Int), 0 ≤ a → DTail cs ds P a → DTail cs ds R a → P = R
  | [], [], _, _, _, _ => rfl
  | [], r :: R, a, h0, tP, tR => by
    have wr := tR.wide r List.mem_cons_self
    obtain ⟨q, hq, _⟩ := tP.all r.b.toNat (by omega) (by omega) (tR.unlike h0 List.mem_cons_self (by omega) (by omega))
    cases hq
  | p :: P, [], a, h0, tP, tR => by
    have wr := tP.wide p List.mem_cons_self
    obtain ⟨q, hq, _⟩ := tR.all p.b.toNat (by omega) (by omega) (tP.unlike h0 List.mem_cons_self (by omega) (by omega))
    cases hq
  | p :: P, r :: R, a, h0, tP, tR => by
    have b1 := tP.begin tR h0
    have b2 := tR.begin tP h0
    have eb : p.b = r.b := by omega
    have e1 := tP.end_ tR h0 eb
    have e2 := tR.end_ tP h0 eb.symm
    have ee : p.e = r.e := by omega
    obtain ⟨s1, s2⟩ := tP.same tR h0 eb
    have wp := tP.wide p List.mem_cons_self
    have ih := DTail.uniq P R p.e (by omega) (tP.rest h0) (by
      rw [ee]
      exact tR.rest h0)
    have ep : p = r := by
      cases p
      cases r
      simp only at eb ee s1 s2
      rw [eb, ee, s1, s2]
    rw [ep, ih]
theorem Diff.uniq (t : Diff cs ds P) (u : Diff cs ds R) : P = R :=
  DTail.uniq P R 0 (Int.le_refl _) ⟨t.row, t.wide, t.un, t.here, fun x _ h => t.all x h⟩ ⟨u.row, u.wide, u.un, u.here, fun x _ h => u.all x h⟩
theorem Diff.self {cs : List Int} (t : Diff cs cs P) : P = [] := by
  cases P with
  | nil => rfl
  | cons p P =>
    have w := t.wide p List.mem_cons_self
    obtain ⟨e1, e2⟩ := t.here p List.mem_cons_self p.b.toNat (by omega) (by omega)
    rw [e1] at e2
    exact absurd (Option.some.inj e2) (t.un p List.mem_cons_self)
end
/-! ### both memories' points together -/
theorem merged_pts {f : Nat → Int} {w : Nat} {r : List Deed} (h : ∀ d ∈ r, d.Ok w) (hw : 1 ≤ w) {A B s : List Int} (hA : A.Perm ((ptsR r 0).filter fun x => decide (x < (w : Int))))
    (hB : B.Perm ((ptsR r 1).filter fun x => decide (x < (w : Int)))) (hp : s.Perm ((A ++ B).foldl addK [])) (hs : s.Pairwise (· ≤ ·)) :
    ∃ t, s = 0 :: t ∧ s.Pairwise (· < ·) ∧ (∀ x ∈ s, x < (w : Int)) ∧ ∀ j, j < 2 → ∀ x, 0 < x → x < (w : Int) → x ∉ s → hadR f r j x = hadR f r j (x - 1) := by
  have nd : s.Nodup := hp.nodup_iff.mpr (foldK_nd _ _ .nil)
  have lt : s.Pairwise (· < ·) := by
    have both := hs.and nd
    exact both.imp fun {a b} z => by
      have z1 : a ≤ b := z.1
      have z2 : a ≠ b := z.2
      omega
  have mem : ∀ x, x ∈ s ↔ (x ∈ ptsR r 0 ∨ x ∈ ptsR r 1) ∧ x < (w : Int) := fun x => by
    rw [hp.mem_iff, mem_foldK, List.mem_append, hA.mem_iff, hB.mem_iff, List.mem_filter, List.mem_filter]
    simp only [List.not_mem_nil, false_or, decide_eq_true_eq]
    constructor
    · rintro (⟨a, b⟩ | ⟨a, b⟩)
      · exact ⟨.inl a, b⟩
      · exact ⟨.inr a, b⟩
    · rintro ⟨a | a, b⟩
      · exact .inl ⟨a, b⟩
      · exact .inr ⟨a, b⟩
  have hz : (0 : Int) ∈ s := (mem 0).mpr ⟨.inl (ptsR_zero r 0), by omega⟩
  have nn : ∀ x ∈ s, 0 ≤ x := fun x hx => by
    rcases ((mem x).mp hx).1 with z | z
    · exact ptsR_nn r h 0 x z
    · exact ptsR_nn r h 1 x z
  cases s with
  | nil => cases hz
  | cons a t =>
    have ha : a = 0 := by
      have q := nn a List.mem_cons_self
      rcases List.mem_cons.mp hz with e | z
      · exact e.symm
      · have := (List.pairwise_cons.mp lt).1 0 z
        omega
    subst ha
    refine ⟨t, rfl, lt, fun x hx => ((mem x).mp hx).2, fun j hj x h1 h2 hn => had_same f w r h j x h1 h2 fun z => hn ((mem x).mpr ⟨?_, h2⟩)⟩
    have e : j = 0 ∨ j = 1 := by omega
    rcases e with rfl | rfl
    · exact .inl z
    · exact .inr z
theorem next_pt {s : List Int} {w : Int} {n : Nat} {b : Int} (hb : (s.tail ++ [w])[n]? = some b) (hn : n < s.length) : s.getD (n + 1) w = b := by
  cases s with
  | nil => cases hn
  | cons c t =>
    rw [List.tail_cons] at hb
    rw [List.length_cons] at hn
    rw [List.getD_cons_succ, List.getD_eq_getElem?_getD]
    by_cases c1 : n < t.length
    · rw [List.getElem?_append_left c1] at hb
      rw [hb]
      rfl
    · have e : n = t.length := by omega
      rw [List.getElem?_append_right (by omega), e, Nat.sub_self] at hb
      rw [List.getElem?_eq_none (by omega)]
      exact Option.some.inj hb
theorem between {h : Int → Int} {w : Int} {s : List Int} (lt : s.Pairwise (· < ·)) (hw : ∀ x ∈ s, x < w) (hc : ∀ x, 0 < x → x < w → x ∉ s → h x = h (x - 1)) {n : Nat} {a b : Int} (ha : s[n]? = some a)
    (hb : (s.tail ++ [w])[n]? = some b) (h0 : 0 ≤ a) : a < b ∧ b ≤ w ∧ ∀ x, a ≤ x → x < b → h x = h a := by
  obtain ⟨hn, ea⟩ := List.getElem?_eq_some_iff.mp ha
  have nx := next_pt hb hn
  have aw := hw a (List.mem_of_getElem? ha)
  have pw := List.pairwise_iff_getElem.mp lt
  have step : a < b ∧ b ≤ w ∧ ∀ x ∈ s, x ≤ a ∨ b ≤ x := by
    have low : ∀ (m : Nat) (hm : m < s.length), m ≤ n → s[m] ≤ a := fun m hm le => by
      by_cases e : m = n
      · subst e
        omega
      · have := pw m n hm hn (by omega)
        omega
    by_cases c : n + 1 < s.length
    · have eb : s[n + 1] = b := by
        rw [List.getD_eq_getElem?_getD, List.getElem?_eq_getElem c] at nx
        exact nx
      refine ⟨?_, ?_, fun x hx => ?_⟩
      · have := pw n (n + 1) hn c (by omega)
        omega
      · have := hw _ (List.getElem_mem c)
        omega
      · obtain ⟨m, hm, rfl⟩ := List.mem_iff_getElem.mp hx
        by_cases le : m ≤ n
        · exact .inl (low m hm le)
        · by_cases e : m = n + 1
          · subst e
            exact .inr (by omega)
          · have := pw (n + 1) m c hm (by omega)
            exact .inr (by omega)
    · have eb : w = b := by
        rw [List.getD_eq_getElem?_getD, List.getElem?_eq_none (by omega)] at nx
        exact nx
      refine ⟨by omega, by omega, fun x hx => ?_⟩
      obtain ⟨m, hm, rfl⟩ := List.mem_iff_getElem.mp hx
      exact .inl (low m hm (by omega))
  obtain ⟨s1, s2, s3⟩ := step
  refine ⟨s1, s2, fun x x0 x1 => ?_⟩
  have f := flat_same (h := h) (a := a) (b - a).toNat (fun y y0 y1 => hc y (by omega) (by omega) fun z => by
    rcases s3 y z with q | q
    · omega
    · omega) (x - a).toNat (by omega)
  have e : a + ((x - a).toNat : Int) = x := by omega
  rw [e] at f
  exact f
theorem foldK_le (A B : List Int) : ((A ++ B).foldl addK []).length ≤ A.length + B.length := by
  have := foldK_len (A ++ B) []
  rw [List.length_append, List.length_nil] at this
  omega
/-- no more runs than points -/
theorem rle_le_pts {f : Nat → Int} {w : Nat} {r : List Deed} (h : ∀ d ∈ r, d.Ok w) (hw : 1 ≤ w) {j : Nat} (hj : j < 2) : (rle (cellsR f w r j)).length ≤ (ptsR r j).length := by
  have pm := List.mergeSort_perm ((ptsR r j).filter fun x => decide (x < (w : Int))) (fun a b => decide (a ≤ b))
  have ps := List.pairwise_mergeSort (le := fun a b : Int => decide (a ≤ b)) (fun a b c h1 h2 => by
    simp only [decide_eq_true_eq] at h1 h2 ⊢
    omega) (fun a b => by
    simp only [Bool.or_eq_true, decide_eq_true_eq]
    omega) ((ptsR r j).filter fun x => decide (x < (w : Int)))
  obtain ⟨t, _, _, _, e⟩ := segs_right (f := f) h hw hj pm (ps.imp fun {a b} z => by
    simpa using z)
  rw [← e]
  refine Nat.le_trans (jnd_few _) ?_
  rw [seg_len, pm.length_eq]
  exact List.length_filter_le _ _

/-! ### a memory's repr, called for a list's -/
def sp_mreprL (K : PySem.W.Frag) (C : Addr) (a0 : Addr) : Sp := fun vs H Q _ => ∃ (m : Addr) (cs : List Int), vs = [.ref m] ∧ MemAt K C H m cs ∧ (∀ q ∈ rle cs, okI q.1 ∧ okI q.2) ∧
  (rle cs).length ≤ 4000 ∧ (∃ (m C dx : Addr) (vs : List V) (fs : List (Str × V)), H a0 = some (.lst (.ref m :: vs)) ∧ H m = some (.ins C dx fs)) ∧ Q (.str (memText cs)) H
theorem okL_Memory_repr {P : Program} {w : World} {K : PySem.W.Frag} {mg : Str → Option Value} {base : Heap} (T : Txt K mg) (a0 : Addr) :
    FnL a0 P w K mg base 1 T.a_Memory_repr T.d_Memory_repr ["self"] (sp_mreprL K T.c_Memory a0) := by
  refine okL T.F_Memory_repr sc_Memory_repr (fun vs H Q E h => ?_) (fun cdv A outer s H vs Q E hr h => ?_)
  · obtain ⟨_, _, rfl, _⟩ := h
    rfl
  · obtain ⟨m, cs, rfl, ⟨dx, l, hm, ld⟩, hok, hn, h0, k⟩ := h
    obtain ⟨s1, s2, s3⟩ := shown_pairs hok hn
    obtain ⟨z1, z2⟩ := mem_short hok hn
    have cl_Memory := T.cl_Memory
    have na_Memory_pairs := T.na_Memory_pairs
    have na_Memory_wide := T.na_Memory_wide
    refine ⟨_, (pss_one (ps_ret (pe_joined (PJ.cons pe_str (PJ.cons (k_fmtL (K := K) (a0 := a0) rfl hr.g hr.r.units (k_fld (K := K) rfl (pv 0) rfl)) (PJ.cons pe_str PJ.nil)))))), ?_⟩
    dsimp only [cxOf, st_1, st_2, st_3, st_4, st_5, st_6, List.length_cons, List.length_nil, List.replicate_succ, List.replicate_zero, Nat.reduceAdd, Nat.reduceSub]
    walk_at "gs"
    refine i_js ?_
    walk_at "gs"
    refine i_jsS (P := fun z => tJs _ (PySem.Str.empty ++ z) _ _ _) (by rw [str_empty]; decide +kernel) ?_
    rw [str_empty]
    refine i_js ?_
    refine i_fmtL ?_
    walk_at "gs"
    refine ⟨l, _, rfl, ld.dp, s1, s2, line_of (Nat.le_trans s3 (by decide)), h0, ?_⟩
    refine i_jsS (P := fun z => tJs _ (("Memory(" : Str) ++ z) _ _ _) (line_of (Nat.le_trans z1 (by decide))) ?_
    refine i_js ?_
    walk_at "gs"
    refine i_jsS (P := fun z => tJs _ (("Memory(" : Str) ++ (PyData.list ((rle cs).map d2)).shown ++ z) _ _ _) (line_of (Nat.le_trans z2 (by decide))) ?_
    exact i_js0 k
/-- how long a memory's text is -/
theorem mem_len {cs : List Int} (h : ∀ q ∈ rle cs, okI q.1 ∧ okI q.2) : (memText cs).length ≤ 3868 * (rle cs).length + 16 := by
  have s : shw (.list ((rle cs).map d2)) = true := by
    simp only [shw]
    exact shws_pairs _ h
  have e := shown_len _ s
  have c : cw (.list ((rle cs).map d2)) ≤ 3868 * (rle cs).length + 4 := by
    simp only [cw, cws_pairs]
    omega
  have e1 : ("Memory(" : Str).length = 7 := by decide +kernel
  have e2 : (")" : Str).length = 1 := by decide +kernel
  show ((("Memory(" : Str) ++ (PyData.list ((rle cs).map d2)).shown) ++ (")" : Str)).length ≤ _
  rw [strLen_append, strLen_append, e1, e2]
  omega
/-- repr of the two memories -/
theorem repr_duo {K : PySem.W.Frag} {C B : Addr} {m : Nat → Addr} {w : Nat} {c : Nat → List Int} {H : Hp} {Q : VK} {E : XK} (D : Duo K C B m w c H) (ok : ∀ j, j < 2 → ∀ q ∈ rle (c j), okI q.1 ∧ okI q.2) (few : ∀ j, j < 2 → (rle (c j)).length ≤ 900)
    (q : ∀ H1, Kp [] H H1 → Q (.str (listText [memText (c 0), memText (c 1)])) H1) : rReprL C (sp_mreprL K C) E [.ref B] H Q := by
  obtain ⟨d0, f0, e0⟩ := D.ins (j := 0) (by decide)
  obtain ⟨d1, f1, e1⟩ := D.ins (j := 1) (by decide)
  have n0 := few 0 (by decide)
  have n1 := few 1 (by decide)
  refine i_reprL D.hB e0 e1 (fun H1 k1 => ?_) (fun H1 k1 => ?_) ?_ q
  · exact ⟨m 0, c 0, rfl, mem_kp0 (D.mem 0 (by decide)) k1, ok 0 (by decide), by omega, ⟨_, _, _, _, _, k1.at_ _ _ D.hB not_nil, k1.at_ _ _ e0 not_nil⟩, rfl, rfl⟩
  · exact ⟨m 1, c 1, rfl, mem_kp0 (D.mem 1 (by decide)) k1, ok 1 (by decide), by omega, ⟨_, _, _, _, _, k1.at_ _ _ D.hB not_nil, k1.at_ _ _ e0 not_nil⟩, rfl, rfl⟩
  · have a := mem_len (ok 0 (by decide))
    have b := mem_len (ok 1 (by decide))
    have z : 2 * (3868 * 900 + 16) + 10 ≤ sizeLine := by decide
    omega

section
variable {K : PySem.W.Frag} {H : Hp} {Q : VK}
theorem i_slT4 {t : Addr} {p : Part} (h : SqT K H t [.int p.b, .int p.e, .int p.h, .int p.g]) (q : New H fun x => Q (.ref x) (upd H x (.tup [.int p.e, .int p.h, .int p.g]))) : rSlT K (.ref t) (some 1) none H Q :=
  ⟨t, _, rfl, h, fun z => absurd (show (1 : Nat) = 0 from z.1) (by decide), q⟩
theorem dp_mk3 {t : Addr} {a b c : Int} (h : SqT K H t [.int a, .int b, .int c]) : Dp K H (.ref t) (.tuple [.int a, .int b, .int c]) := .tup h (.cons (.int _) (.cons (.int _) (.cons (.int _) .nil)))
theorem shaped_3 {a b c : Int} : SeqAt.shaped (.tuple [.int a, .int b, .int c]) = true :=
  shaped_of rfl (by simp only [PyData.depth, PyData.depthAll]; omega)
theorem eq_three {x y : Addr} {a b c d e g : Int} (hx : SqT K H x [.int a, .int b, .int c]) (hy : SqT K H y [.int d, .int e, .int g]) (h : Q (.bl (decide (a = d ∧ b = e ∧ c = g))) H) : uEq K (.ref x) (.ref y) H Q := by
  refine i_eqD (dp_mk3 hx) (dp_mk3 hy) shaped_3 shaped_3 ?_
  have q : PyData.eqv (.tuple [.int a, .int b, .int c]) (.tuple [.int d, .int e, .int g]) = decide (a = d ∧ b = e ∧ c = g) := by
    simp only [PyData.eqv, PyData.eqvAll, Bool.and_true]
    rw [Bool.eq_iff_iff]
    simp
  rw [q]
  exact h
end
def sp_law_written (K : PySem.W.Frag) : Sp := fun vs H Q _ => ∃ (l a : Addr) (f : Nat → Int) (ds : List Deed) (w j1 j2 : Nat),
  vs = [.ref l, .ref a, .int w, .int j1, .int j2] ∧ LD K H l (ds.map Deed.pd) ∧ SqL K H a [.int (f 0), .int (f 1)] ∧ j1 < 2 ∧ j2 < 2 ∧ 1 ≤ w ∧ (∀ d ∈ ds, d.Ok w) ∧ ds.length ≤ 1000 ∧
  (∀ i j, j < 2 → (pts (ds.take i) j).length ≤ 10000) ∧
  ∀ R H' P, Fr H R → Kp [] H H' → LD K H' R (P.map d4) → Diff (cellsR f w ds.reverse j1) (cellsR f w ds.reverse j2) P → Q (.ref R) H'
theorem sc_law_written : FnScope ["_law_deeds", "_law_firsts", "_law_wide", "_law_which", "_law_then_which", "_law_sides", "_law_points_here", "_law_found", "_law_at", "_law_then", "_law_had_here", "_law_has"] ["_law_deeds", "_law_firsts", "_law_wide", "_law_which", "_law_then_which"] (defScope s_law_written) :=
  ⟨rfl, rfl, rfl, by decide +kernel, rfl, by decide +kernel, by decide +kernel⟩
theorem ok_law_written {P : Program} {w : World} {K : PySem.W.Frag} {mg : Str → Option Value} {base : Heap} (T : Txt K mg) :
    FnG P w K mg base 2 T.a_law_written T.d_law_written ["_law_deeds", "_law_firsts", "_law_wide", "_law_which", "_law_then_which"] (sp_law_written K) := by
  refine okD T.F_law_written sc_law_written (fun vs H Q E h => ?_) (fun cdv A outer s H vs Q E hr h => ?_)
  · first
      | (obtain ⟨_, rfl, _⟩ := h; rfl)
      | (obtain ⟨_, _, rfl, _⟩ := h; rfl)
      | (obtain ⟨_, _, _, rfl, _⟩ := h; rfl)
      | (obtain ⟨_, _, _, _, rfl, _⟩ := h; rfl)
      | (obtain ⟨_, _, _, _, _, rfl, _⟩ := h; rfl)
      | (obtain ⟨_, _, _, _, _, _, rfl, _⟩ := h; rfl)
      | (obtain ⟨_, _, _, _, _, _, _, rfl, _⟩ := h; rfl)
      | (obtain ⟨_, _, _, _, _, _, _, _, rfl, _⟩ := h; rfl)
      | (obtain ⟨_, _, _, _, _, _, _, _, _, rfl, _⟩ := h; rfl)
      | (obtain ⟨_, _, _, _, _, _, _, _, _, _, rfl, _⟩ := h; rfl)
      | (obtain ⟨_, _, _, _, _, _, _, _, _, _, _, rfl, _⟩ := h; rfl)
  · obtain ⟨l, a, f, ds, w, j1, j2, rfl, ld, ha, hj1, hj2, hw, hok, hn, hpl, k⟩ := h
    have cl_Memory := T.cl_Memory
    have na_Memory_pairs := T.na_Memory_pairs
    have na_Memory_wide := T.na_Memory_wide
    refine ⟨_, (pss_cons (ps_set (i := 5) sc_law_written.nd rfl (Or.inl rfl) (d1 (ok_law_points T) (hr.mono (by decide)) (by rfl) T.m_law_points T.F_law_points.kp T.b_law_points passL (pa_cons (pv 0) (pa_cons (pv 2) pa_nil))))
      (pss_cons (ps_set (i := 6) sc_law_written.nd rfl (Or.inl rfl) (pe_callB (k_sortedD rfl) (by rfl) T.n_sorted (by decide +kernel) (pa_cons (pe_callTy (k_dictP (K := K) rfl rfl) (by rfl) T.n_dict (by decide +kernel) (pa_cons (pe_lc (own := [("_law_at", 8)]) (g := (gName 8)) (tt := tYes) rfl sc_law_written.nd (k_plist (K := K) rfl (pe_op (k_add (K := K) rfl) (pe_ix (k_ix (K := K) rfl) (pv 5) pe_int (fun _ _ => rfl)) (pe_ix (k_ix (K := K) rfl) (pv 5) pe_int (fun _ _ => rfl)))) (blkOk_by (own := [("_law_at", 8)]) (N := ["_law_deeds", "_law_firsts", "_law_wide", "_law_which", "_law_then_which", "_law_sides", "_law_points_here", "_law_found", "_law_at", "_law_then", "_law_had_here", "_law_has"]) (sc := defScope s_law_written) (by decide +kernel)) (fun _ _ _ _ _ => (pg_name (i := 8) sc_law_written.nd rfl (Or.inl rfl))) (fun _ _ _ _ _ => pts_nil) (fun _ _ _ _ _ => (pe_tup (pa_cons (pv 8) (pa_cons pe_bl pa_nil))))) pa_nil)) pa_nil)))
      (pss_cons (ps_set (i := 7) sc_law_written.nd rfl (Or.inl rfl) (pe_lst pa_nil))
      (pss_cons (ps_for (passes_of rfl) rfl (k_pzip (K := K) rfl (by rfl) T.n_zip (pa_cons (pv 6) (pa_cons (pe_op (k_add (K := K) rfl) (pe_slice (k_sl (K := K) rfl) (pv 6) (po_some pe_int) po_none) (pe_lst (pa_cons (pv 2) pa_nil))) pa_nil))) (k_gtup (K := K) 2 rfl rfl (pgs_cons (pg_name (i := 8) sc_law_written.nd rfl (Or.inl rfl)) (pgs_cons (pg_name (i := 9) sc_law_written.nd rfl (Or.inl rfl)) pgs_nil)))
      (pss_cons (ps_par (i := 10) (j := 11) (by rfl) sc_law_written.nd rfl rfl (by decide) rfl rfl (pa_cons (d1 (ok_law_had T) (hr.mono (by decide)) (by rfl) T.m_law_had T.F_law_had.kp T.b_law_had passL (pa_cons (pv 0) (pa_cons (pv 1) (pa_cons (pv 3) (pa_cons (pv 8) pa_nil))))) (pa_cons (d1 (ok_law_had T) (hr.mono (by decide)) (by rfl) T.m_law_had T.F_law_had.kp T.b_law_had passL (pa_cons (pv 0) (pa_cons (pv 1) (pa_cons (pv 4) (pa_cons (pv 8) pa_nil))))) pa_nil)) (by rfl))
      (pss_one (ps_if (PW.pt (pw_and (pt_cmpR (k_ne (K := K) rfl hr.r.units) (pv 10) (pv 11) (nomark _)) (pw_and (pt_cmpR (k_ne (K := K) rfl hr.r.units) (pv 7) (pe_lst pa_nil) (nomark _)) (pw_and1 (pt_cmpR (k_eq (K := K) rfl hr.r.units) (pe_slice (k_slT (K := K) rfl) (pe_ix (k_ix (K := K) rfl) (pv 7) (pe_un un_neg pe_int) (fun _ _ => rfl)) (po_some pe_int) po_none) (pe_tup (pa_cons (pv 8) (pa_cons (pv 10) (pa_cons (pv 11) pa_nil)))) (nomark _)))))) (pss_one (ps_asg (pe_tup (pa_cons (pe_ix (k_ix (K := K) rfl) (pe_ix (k_ix (K := K) rfl) (pv 7) (pe_un un_neg pe_int) (fun _ _ => rfl)) pe_int (fun _ _ => rfl)) (pa_cons (pv 9) (pa_cons (pv 10) (pa_cons (pv 11) pa_nil))))) (pg_sub (pv 7) (pe_un un_neg pe_int) set_list))) (pss_one (ps_if (pt_cmpR (k_ne (K := K) rfl hr.r.units) (pv 10) (pv 11) (nomark _)) (pss_one (ps_expr (pe_bm PySem.F.plainAttrs_list PySem.F.slot_list_append PySem.F.type_list_append mt_append (pv 7) (pa_cons (pe_tup (pa_cons (pv 8) (pa_cons (pv 9) (pa_cons (pv 10) (pa_cons (pv 11) pa_nil))))) pa_nil)))) pss_nil))))))
      (pss_one (ps_ret (pv 7))))))), ?_⟩
    dsimp only [cxOf, st_1, st_2, st_3, st_4, st_5, st_6, List.length_cons, List.length_nil, List.replicate_succ, List.replicate_zero, Nat.reduceAdd, Nat.reduceSub]
    walk_at "gs"
    refine ⟨l, w, ds, rfl, ld, hok, hpl, fun r s sr H1 k1 hr1 hs => ?_⟩
    obtain ⟨hs0, hA, _⟩ := hs 0 (by decide)
    obtain ⟨hs1, hB, _⟩ := hs 1 (by decide)
    have hpl0 := hpl ds.length 0 (by decide)
    have hpl1 := hpl ds.length 1 (by decide)
    rw [List.take_length] at hpl0 hpl1
    have hl0 : (sr 0).length ≤ 10000 := Nat.le_trans (Nat.le_of_eq hA.length_eq) (Nat.le_trans (List.length_filter_le _ _) hpl0)
    have hl1 : (sr 1).length ≤ 10000 := Nat.le_trans (Nat.le_of_eq hB.length_eq) (Nat.le_trans (List.length_filter_le _ _) hpl1)
    rw [pts_rev] at hA hB
    walk_at "gs"
    refine i_new fun M fM => ?_
    have eM : (sr 0).map V.int ++ (sr 1).map V.int = (sr 0 ++ sr 1).map V.int := by rw [List.map_append]
    rw [eM]
    walk_at "gs"
    refine i_mapD (SqL.of upd_same) ((sr 0 ++ sr 1).map dT) (imms_dT _) (by rw [List.length_map, List.length_map]) (by rw [List.length_map, List.length_append]; omega) ?_ ?_
    · intro D i x d H' Q' fD hx hd k2 q
      obtain ⟨n0, hn0, rfl⟩ := map_get hx
      rw [List.getElem?_map, hn0] at hd
      cases hd
      walk_at "gs"
      refine i_new fun u hu => ?_
      exact q (.ref u) _ (Kp.new hu) (dp_mkT (SqT.of upd_same))
    intro D H2 fD k2 ldD
    walk_at "gs"
    refine i_dictP ldD ?_
    refine i_new fun d fd => ?_
    walk_at "gs"
    refine i_sortedD upd_same fun s' p pm ps fp => ?_
    walk_at "gs"
    have hok' : ∀ d ∈ ds.reverse, d.Ok w := fun d hd => hok d (List.mem_reverse.mp hd)
    obtain ⟨t, e1, lt, hsw, hflat⟩ := merged_pts (f := f) hok' hw hA hB pm ps
    have hsl : s'.length ≤ 20000 := Nat.le_trans (Nat.le_of_eq pm.length_eq) (Nat.le_trans (foldK_le _ _) (by omega))
    have htl : t.length ≤ 20000 := by
      rw [e1, List.length_cons] at hsl
      omega
    have ec : cutV (s'.map V.int) (some 1) none = t.map V.int := by
      rw [e1, List.map_cons]
      exact cutV_tail _ _
    refine i_new fun F fF => ?_
    walk_at "gs"
    rw [ec]
    refine i_new fun y hy => ?_
    walk_at "gs"
    refine i_new fun z hz => ?_
    walk_at "gs"
    refine i_new fun u hu => ?_
    walk_at "gs"
    obtain ⟨H3, hH3⟩ : ∃ H3, H3 = upd (upd (upd (upd (upd (upd H2 d (.dK (((sr 0 ++ sr 1).foldl addK []).map kT))) p (.lst (s'.map V.int))) F (.lst [])) y (.lst (t.map V.int))) z (.lst [.int w])) u (.lst (t.map V.int ++ [.int w])) := ⟨_, rfl⟩
    have hu3 : H3 u = some (.lst (t.map V.int ++ [.int w])) := by
      rw [hH3]
      exact upd_same
    have hF3 : H3 F = some (.lst []) := by
      rw [hH3]
      walk_at "g_hp"
    have hp3 : H3 p = some (.lst (s'.map V.int)) := by
      rw [hH3]
      walk_at "g_hp"
    have k23 : Kp [] H2 H3 := by
      rw [hH3]
      walk_at "g_kp"
    have k13 : Kp [] H H3 := Kp.trans (Kp.trans (Kp.trans k1 (Kp.new fM)) k2) k23
    have fFH : Fr H F := by
      have q : Fr H2 F := by walk_at "g_fr"
      exact k1.free ((Kp.new fM (ws := [])).free (k2.free q))
    rw [← hH3]
    have npF : p ≠ F := two_ne hp3 hF3 fun q => by
      injection q with q
      rw [e1] at q
      cases q
    have nFu : u ≠ F := two_ne hu3 hF3 fun q => by
      injection q with q
      cases ht : t with
      | nil => rw [ht] at q; cases q
      | cons a b => rw [ht] at q; cases q
    have hu4 : (t.map V.int ++ [V.int w]) = (t ++ [(w : Int)]).map V.int := by rw [List.map_append]; rfl
    rw [hu4] at hu3
    obtain ⟨c1, hc1⟩ : ∃ c1, c1 = cellsR f w ds.reverse j1 := ⟨_, rfl⟩
    obtain ⟨c2, hc2⟩ : ∃ c2, c2 = cellsR f w ds.reverse j2 := ⟨_, rfl⟩
    have g1 := had_cells f w ds.reverse hok' j1 hj1
    have g2 := had_cells f w ds.reverse hok' j2 hj2
    rw [← hc1] at g1
    rw [← hc2] at g2
    rw [← hc1, ← hc2] at k
    refine i_both (SqL.of hp3) (SqL.of hu3) (fun n σ H4 => ∃ v8 v9 v10 v11, σ = [some (.ref l), some (.ref a), some (.int w), some (.int j1), some (.int j2), some (.ref r), some (.ref p), some (.ref F), v8, v9, v10, v11] ∧
      Kp [F] H3 H4 ∧ ∃ P : List Part, LD K H4 F (P.map d4) ∧ P.length ≤ n ∧ DiffTo c1 c2 P (s'.getD n w)) ?_ ?_ ?_ ?_
    · refine ⟨none, none, none, none, rfl, Kp.refl, [], ⟨[], hF3, .nil⟩, Nat.le_refl _, ?_⟩
      rw [e1]
      exact DiffTo.none
    · rintro n σ H4 ⟨v8, v9, v10, v11, rfl, k4, _⟩
      exact ⟨SqL.of (k4.at_ _ _ hp3 (not_one npF)), SqL.of (k4.at_ _ _ hu3 (not_one nFu))⟩
    · rintro n x y T σ H4 hx hy ⟨v8, v9, v10, v11, rfl, k4, P, lf, pl, df⟩ fT
      obtain ⟨xa, hxa, rfl⟩ := map_get hx
      obtain ⟨xb, hxb, rfl⟩ := map_get hy
      have hnl := (List.getElem?_eq_some_iff.mp hxa).1
      have hxb' : (s'.tail ++ [(w : Int)])[n]? = some xb := by
        rw [e1]
        exact hxb
      have nx := next_pt hxb' hnl
      have at0 : s'.getD n w = xa := by
        rw [List.getD_eq_getElem?_getD, hxa]
        rfl
      have x0 : 0 ≤ xa := by
        have q := List.mem_of_getElem? hxa
        rw [e1] at q
        rcases List.mem_cons.mp q with q | q
        · omega
        · rw [e1] at lt
          have := (List.pairwise_cons.mp lt).1 xa q
          omega
      obtain ⟨b1, b2, b3⟩ := between lt hsw (hflat j1 hj1) hxa hxb' x0
      obtain ⟨_, _, b4⟩ := between lt hsw (hflat j2 hj2) hxa hxb' x0
      obtain ⟨h1, hh1⟩ : ∃ h1, h1 = hadR f ds.reverse j1 xa := ⟨_, rfl⟩
      obtain ⟨h2, hh2⟩ : ∃ h2, h2 = hadR f ds.reverse j2 xa := ⟨_, rfl⟩
      have vals : ∀ x : Nat, xa ≤ x → (x : Int) < xb → c1[x]? = some h1 ∧ c2[x]? = some h2 := fun x y0 y1 => by
        rw [g1.2 x (by omega), g2.2 x (by omega), b3 x y0 y1, b4 x y0 y1, hh1, hh2]
        exact ⟨rfl, rfl⟩
      rw [at0] at df
      have kH4 : Kp [] H H4 := Kp.drop (Kp.trans (Kp.wide k13) k4) fFH
      have kH5 : Kp [] H (upd H4 T (.tup [.int xa, .int xb])) := Kp.trans kH4 (Kp.new fT)
      walk_at "gs"
      refine ⟨l, a, f, ds, j1, xa, w, rfl, ld.kp kH5 (imms_pd _) not_nil, kH5.seqL not_nil ha, hj1, hok, hn, fun H5 k5 => ?_⟩
      have kH6 : Kp [] H H5 := Kp.trans kH5 k5
      walk_at "gs"
      refine ⟨l, a, f, ds, j2, xa, w, rfl, ld.kp kH6 (imms_pd _) not_nil, kH6.seqL not_nil ha, hj2, hok, hn, fun H6 k6 => ?_⟩
      rw [← hh1, ← hh2]
      have k46 : Kp [] H4 H6 := Kp.trans (Kp.new fT) (Kp.trans k5 k6)
      have lf6 : LD K H6 F (P.map d4) := lf.kp k46 (imms_d4 _) not_nil
      have k36 : Kp [F] H3 H6 := Kp.trans k4 (Kp.wide k46)
      obtain ⟨lv, hlv, hla⟩ := id lf6
      have hll := dpa_len hla
      rw [List.length_map] at hll
      walk_at "gs"
      refine i_decN (fun c => ?_) (fun c => ?_)
      · walk_at "gs"
        refine i_new fun q hq => ?_
        walk_at "gs"
        refine ne_nil lf6 (imms_d4 _) (shaped_d4 _) hq ?_
        walk_at "gs"
        refine i_boN (fun e => ?_) (fun e => ?_)
        · obtain ⟨P0, p0, hP⟩ := list_last (l := P) (by
            intro z
            rw [z] at e
            cases e)
          rw [hP, List.map_append] at hla
          obtain ⟨us, x1, rfl, hus, hx1⟩ := dpa_last hla
          obtain ⟨t0, rfl, ht0⟩ := dp_four hx1
          rw [hP] at df pl lf6 hll
          rw [List.length_append, List.length_singleton] at pl
          rw [List.length_append, List.length_append, List.length_singleton, List.length_singleton] at hll
          walk_at "gs"
          refine i_slT4 (p := p0) (by walk_at "g_st") ?_
          refine i_new fun x2 fx2 => ?_
          walk_at "gs"
          refine i_new fun x3 fx3 => ?_
          walk_at "gs"
          refine eq_three (by walk_at "g_st") (by walk_at "g_st") ?_
          walk_at "gs"
          refine i_dec (fun c4 => ?_) (fun c4 => ?_)
          · walk_at "gs"
            refine i_new fun t2 ht2 => ?_
            walk_at "gs"
            rw [set_last]
            refine ⟨_, _, _, _, rfl, by walk_at "g_kp", P0 ++ [⟨p0.b, xb, h1, h2⟩], ?_, ?_, ?_⟩
            · rw [List.map_append]
              exact ld_push (ws := [F]) (H0 := H6) (by walk_at "g_kp") hus (imms_d4 _) upd_same (dp_mk4 (p := ⟨p0.b, xb, h1, h2⟩) (by walk_at "g_st"))
            · rw [List.length_append, List.length_singleton]
              omega
            · rw [nx]
              obtain ⟨r1, r2, r3⟩ := c4
              have q := df.long (e := xb) r1 b1 (fun x y0 y1 => by
                rw [r2, r3]
                exact vals x y0 y1)
              rw [r2, r3] at q
              exact q
          · walk_at "gs"
            refine i_decN (fun _ => ?_) (fun z => absurd z c)
            walk_at "gs"
            refine i_new fun t2 ht2 => ?_
            walk_at "gs"
            refine ⟨_, _, _, _, rfl, by walk_at "g_kp", P0 ++ [p0] ++ [⟨xa, xb, h1, h2⟩], ?_, ?_, ?_⟩
            · rw [List.map_append, List.map_append]
              exact ld_push (ws := [F]) (H0 := H6) (by walk_at "g_kp") hla (by rw [← List.map_append]; exact imms_d4 _) upd_same (dp_mk4 (p := ⟨xa, xb, h1, h2⟩) (by walk_at "g_st"))
            · rw [List.length_append, List.length_append, List.length_singleton, List.length_singleton]
              omega
            · rw [nx]
              refine df.app x0 b1 c vals fun q hq qe z => ?_
              rcases List.mem_append.mp hq with hq | hq
              · have := df.last q hq
                omega
              · rw [List.mem_singleton.mp hq] at qe z
                exact c4 ⟨qe, z⟩
        · walk_at "gs"
          refine i_decN (fun _ => ?_) (fun z => absurd z c)
          walk_at "gs"
          refine i_new fun t2 ht2 => ?_
          walk_at "gs"
          have hP : P = [] := by
            cases P with
            | nil => rfl
            | cons a b => cases e
          subst hP
          cases hla
          refine ⟨_, _, _, _, rfl, by walk_at "g_kp", [⟨xa, xb, h1, h2⟩], ⟨_, upd_same, dpa_one (dp_mk4 (p := ⟨xa, xb, h1, h2⟩) (by walk_at "g_st"))⟩, ?_, ?_⟩
          · show 1 ≤ n + 1
            omega
          · rw [nx]
            exact df.app x0 b1 c vals fun q hq => nomatch hq
      · walk_at "gs"
        refine i_decN (fun z => absurd c z) (fun _ => ?_)
        walk_at "gs"
        refine ⟨_, _, _, _, rfl, k36, P, lf6, by omega, ?_⟩
        rw [nx]
        exact df.same (by omega) fun x y0 y1 => by
          rw [(vals x y0 y1).1, (vals x y0 y1).2, c]
    · rintro σ H4 ⟨v8, v9, v10, v11, rfl, k4, P, lf, pl, df⟩
      walk_at "gs"
      have el : min (s'.map V.int).length ((t ++ [(w : Int)]).map V.int).length = s'.length := by
        rw [e1, List.length_map, List.length_map, List.length_append, List.length_cons, List.length_singleton]
        omega
      rw [el] at df
      have ew : s'.getD s'.length (w : Int) = c1.length := by
        rw [List.getD_eq_getElem?_getD, List.getElem?_eq_none (Nat.le_refl _), g1.1]
        rfl
      rw [ew] at df
      exact k F H4 P fFH (Kp.drop (Kp.trans (Kp.wide k13) k4) fFH) lf df.diff

def sp_law_one_cell : Sp := fun vs H Q _ => ∃ (p : Addr) (w : Int), vs = [.ref p, .int w] ∧ PotAt H p ∧ (1 ≤ w ∧ w ≤ 1000000000000000000) ∧
  ∀ t j c v H', Fr H t → H' t = some (.tup (Deed.vs (.fill j c (c + 1) v))) → (Deed.fill j c (c + 1) v).Ok w → PotAt H' p → Kp [p] H H' → Q (.ref t) H'
theorem sc_law_one_cell : FnScope ["_law_pot_here", "_law_wide", "_law_at"] ["_law_pot_here", "_law_wide"] (defScope s_law_one_cell) :=
  ⟨rfl, rfl, rfl, by decide +kernel, rfl, by decide +kernel, by decide +kernel⟩
theorem ok_law_one_cell {P : Program} {w : World} {K : PySem.W.Frag} {mg : Str → Option Value} {base : Heap} (T : Txt K mg) :
    FnG P w K mg base 2 T.a_law_one_cell T.d_law_one_cell ["_law_pot_here", "_law_wide"] sp_law_one_cell := by
  refine okD T.F_law_one_cell sc_law_one_cell (fun vs H Q E h => ?_) (fun cdv A outer s H vs Q E hr h => ?_)
  · first
      | (obtain ⟨_, rfl, _⟩ := h; rfl)
      | (obtain ⟨_, _, rfl, _⟩ := h; rfl)
      | (obtain ⟨_, _, _, rfl, _⟩ := h; rfl)
      | (obtain ⟨_, _, _, _, rfl, _⟩ := h; rfl)
      | (obtain ⟨_, _, _, _, _, rfl, _⟩ := h; rfl)
      | (obtain ⟨_, _, _, _, _, _, rfl, _⟩ := h; rfl)
      | (obtain ⟨_, _, _, _, _, _, _, rfl, _⟩ := h; rfl)
      | (obtain ⟨_, _, _, _, _, _, _, _, rfl, _⟩ := h; rfl)
      | (obtain ⟨_, _, _, _, _, _, _, _, _, rfl, _⟩ := h; rfl)
      | (obtain ⟨_, _, _, _, _, _, _, _, _, _, rfl, _⟩ := h; rfl)
      | (obtain ⟨_, _, _, _, _, _, _, _, _, _, _, rfl, _⟩ := h; rfl)
  · obtain ⟨p, w, rfl, hp, hw, k⟩ := h
    refine ⟨_, (pss_cons (ps_set (i := 2) sc_law_one_cell.nd rfl (Or.inl rfl) (d1 (ok_law_draw T) (hr.mono (by decide)) (by rfl) T.m_law_draw T.F_law_draw.kp T.b_law_draw passL (pa_cons (pv 0) (pa_cons (pv 1) pa_nil))))
      (pss_one (ps_ret (pe_tup (pa_cons pe_str (pa_cons (d1 (ok_law_draw T) (hr.mono (by decide)) (by rfl) T.m_law_draw T.F_law_draw.kp T.b_law_draw passL (pa_cons (pv 0) (pa_cons pe_int pa_nil))) (pa_cons (pv 2) (pa_cons (pe_op (k_add (K := K) rfl) (pv 2) pe_int) (pa_cons (d1 (ok_law_draw T) (hr.mono (by decide)) (by rfl) T.m_law_draw T.F_law_draw.kp T.b_law_draw passL (pa_cons (pv 0) (pa_cons pe_int pa_nil))) pa_nil))))))))), ?_⟩
    dsimp only [cxOf, st_1, st_2, st_3, st_4, st_5, st_6, List.length_cons, List.length_nil, List.replicate_succ, List.replicate_zero, Nat.reduceAdd, Nat.reduceSub]
    walk_at "gs"
    refine use_draw hp (by omega) (by omega) (fun c H1 a1 a2 hp1 k1 => ?_)
    walk_at "gs"
    refine use_draw hp1 (by decide) (by decide) (fun j0 H2 b1 b2 hp2 k2 => ?_)
    obtain ⟨j, rfl⟩ := Int.eq_ofNat_of_zero_le b1
    walk_at "gs"
    refine use_draw hp2 (by decide) (by decide) (fun v H3 c1 c2 hp3 k3 => ?_)
    walk_at "gs"
    refine i_new fun t ht => ?_
    walk_at "gs"
    exact k t j c v _ (k1.free (k2.free (k3.free ht))) upd_same ⟨by omega, by omega, by omega, by omega⟩ (by walk_at "g_pot") (by walk_at "g_kp")
theorem kit_ty {K : PySem.W.Frag} {D : Addr} {n : String} {b : Bool} (h : PySem.W.subIn K (.ref D) (.type n) = some b) (hm : PySem.W.kitMeta n = true) : PySem.W.kitOne K (.ref D) (.type n) = some b := by
  unfold PySem.W.kitOne PySem.W.kitCls
  rw [if_neg (by simp)]
  simp only [hm, h, if_true]
theorem kit_off {K : PySem.W.Frag} {D C : Addr} (hc : PySem.W.hasDictIn K C = true) (ht : PySem.W.typeIn K (.ref C) = some (.type "type")) (hne : D ≠ C) (h : PySem.W.subIn K (.ref D) (.ref C) = some false) :
    PySem.W.kitOne K (.ref D) (.ref C) = some false := by
  obtain ⟨cd, e, _⟩ := PySem.W.any_some hc
  unfold PySem.W.kitOne PySem.W.kitCls
  rw [if_neg (by simp [hne])]
  simp only [e, ht, h, Option.isSome_some, beq_self_eq_true, Bool.and_self, if_true]
def sp_law_unlike (K : PySem.W.Frag) (C : Addr) : Sp := fun vs H Q _ => ∃ (m n : Addr) (cs ds : List Int), vs = [.ref m, .ref n] ∧ MemAt K C H m cs ∧ MemAt K C H n ds ∧
  1 ≤ cs.length ∧ (rle cs).length ≤ 10000 ∧ (rle ds).length ≤ 10000 ∧ cs.length ≠ ds.length ∧ ∀ H', Kp [] H H' → Q (.bl true) H'
theorem sc_law_unlike : FnScope ["_law_one", "_law_other", "_law_told", "e"] ["_law_one", "_law_other"] (defScope s_law_unlike) :=
  ⟨rfl, rfl, rfl, by decide +kernel, rfl, by decide +kernel, by decide +kernel⟩
theorem ok_law_unlike {P : Program} {w : World} {K : PySem.W.Frag} {mg : Str → Option Value} {base : Heap} (T : Txt K mg) :
    FnG P w K mg base 3 T.a_law_unlike T.d_law_unlike ["_law_one", "_law_other"] (sp_law_unlike K T.c_Memory) := by
  refine okD T.F_law_unlike sc_law_unlike (fun vs H Q E h => ?_) (fun cdv A outer s H vs Q E hr h => ?_)
  · first
      | (obtain ⟨_, rfl, _⟩ := h; rfl)
      | (obtain ⟨_, _, rfl, _⟩ := h; rfl)
      | (obtain ⟨_, _, _, rfl, _⟩ := h; rfl)
      | (obtain ⟨_, _, _, _, rfl, _⟩ := h; rfl)
      | (obtain ⟨_, _, _, _, _, rfl, _⟩ := h; rfl)
      | (obtain ⟨_, _, _, _, _, _, rfl, _⟩ := h; rfl)
      | (obtain ⟨_, _, _, _, _, _, _, rfl, _⟩ := h; rfl)
      | (obtain ⟨_, _, _, _, _, _, _, _, rfl, _⟩ := h; rfl)
      | (obtain ⟨_, _, _, _, _, _, _, _, _, rfl, _⟩ := h; rfl)
      | (obtain ⟨_, _, _, _, _, _, _, _, _, _, rfl, _⟩ := h; rfl)
      | (obtain ⟨_, _, _, _, _, _, _, _, _, _, _, rfl, _⟩ := h; rfl)
  · obtain ⟨m, n, cs, ds, rfl, M, N, hw, na, nb, ne, k⟩ := h
    refine ⟨_, (pss_cons (ps_set (i := 2) sc_law_unlike.nd rfl (Or.inl rfl) pe_bl)
      (pss_cons (ps_try_as (i := 3) rfl rfl sc_law_unlike.nd rfl rfl ⟨rfl, by decide, .inl T.mx_ForkError⟩ takes0 (fun W pn xe tk _ => (pss_one (ps_expr (s1 (ok_difference T) (hr.mono (by decide)) (by rfl) T.m_difference T.F_difference.kp T.b_difference (passAt tk) (pa_cons (pv 0) (pa_cons (pv 1) pa_nil)))))) (fun ea eo ecl ed epn hz hf => (pss_one (ps_set (i := 2) sc_law_unlike.nd rfl (Or.inl rfl) (pe_and (pe_callB (k_isX (K := K) rfl hz hf) (by rfl) T.n_isinstance (by decide +kernel) (pa_cons (pv 3) (pa_cons (pe_glob (v := .ref T.x_Unlike) rfl T.mx_Unlike rfl) pa_nil))) (pe_and (pe_callB (k_isX (K := K) rfl hz hf) (by rfl) T.n_isinstance (by decide +kernel) (pa_cons (pv 3) (pa_cons (pe_bltn (v := .ty "ValueError") (by rfl) T.n_ValueError (by decide +kernel) rfl) pa_nil))) (pe_one (pe_not (pe_callB (k_isXT (K := K) rfl hz hf) (by rfl) T.n_isinstance (by decide +kernel) (pa_cons (pv 3) (pa_cons (pe_tup (pa_cons (pe_glob (v := .ref T.x_NoDifference) rfl T.mx_NoDifference rfl) (pa_cons (pe_glob (v := .ref T.x_NoSize) rfl T.mx_NoSize rfl) pa_nil))) pa_nil)))))))))))
      (pss_one (ps_ret (pv 2))))), ?_⟩
    dsimp only [cxOf, st_1, st_2, st_3, st_4, st_5, st_6, List.length_cons, List.length_nil, List.replicate_succ, List.replicate_zero, Nat.reduceAdd, Nat.reduceSub]
    walk_at "gs"
    refine i_callX0 ?_
    walk_at "gs"
    refine ⟨m, n, cs, ds, rfl, M, N, hw, na, nb, fun _ H' k1 => ?_, fun z => absurd z ne⟩
    refine ⟨true, PySem.W.exm_ref T.ec_ForkError.hs T.ec_ForkError.hd T.et_ForkError T.is_Unlike_ForkError, fun _ a ha => ?_, fun z => nomatch z⟩
    have kU : PySem.W.kitOne K (.ref T.x_Unlike) (.ref T.x_Unlike) = some true := kit_me
    have kV : PySem.W.kitOne K (.ref T.x_Unlike) (.type "ValueError") = some true := kit_ty T.is_Unlike_ValueError (by kernel_rfl)
    have off : ∀ {D : Addr}, PySem.W.hasDictIn K D = true → PySem.W.typeIn K (.ref D) = some (.type "type") → PySem.W.subIn K (.ref T.x_Unlike) (.ref D) = some false → PySem.W.kitOne K (.ref T.x_Unlike) (.ref D) = some false := by
      intro D h1 h2 h3
      refine kit_off h1 h2 (fun e => ?_) h3
      rw [← e, T.is_Unlike_Unlike] at h3
      cases h3
    have kD := off T.ec_NoDifference.hd T.et_NoDifference T.is_Unlike_NoDifference
    have kS := off T.ec_NoSize.hd T.et_NoSize T.is_Unlike_NoSize
    walk_at "gs"
    refine ⟨_, _, _, _, rfl, T.ec_Unlike, .inl rfl, rfl, .own _, kU, ?_⟩
    refine ⟨_, rfl, ?_⟩
    walk_at "gs"
    refine ⟨_, _, _, _, rfl, T.ec_Unlike, .inl rfl, rfl, .ty _, kV, ?_⟩
    refine ⟨_, rfl, ?_⟩
    walk_at "gs"
    refine i_new fun t ft => ?_
    walk_at "gs"
    refine ⟨_, t, _, _, false, rfl, T.ec_Unlike, .inl rfl, rfl, upd_same, .cons (.own _) (.cons (.own _) .nil), ?_, ?_⟩
    · simp only [PySem.W.kitAny, kD, kS]
    walk_at "gs"
    exact k _ (Kp.trans k1 (Kp.new ft))

def pick (a b : Addr) : Nat → Addr
  | 0 => a
  | _ => b
def pickI (a b : Int) : Nat → Int
  | 0 => a
  | _ => b
def four (p L : Addr) (m : Nat → Addr) : List Addr := [p, L, m 0, m 1]
/-- all deeds are fills, or there are few -/
def Small (ds : List Deed) : Prop := ds.length ≤ 8 ∨ (ds.length ≤ 30 ∧ ∀ d ∈ ds, ∃ j lo hi v, d = .fill j lo hi v)
structure Sta (K : PySem.W.Frag) (C p B L a : Addr) (m : Nat → Addr) (w : Nat) (f : Nat → Int) (ds : List Deed) (H : Hp) : Prop where
  pot : PotAt H p
  duo : Duo K C B m w (cellsR f w ds.reverse) H
  ld : LD K H L (ds.map Deed.pd)
  ha : H a = some (.lst [.int (f 0), .int (f 1)])
  ok : ∀ d ∈ ds, d.Ok w
  off : ∀ j, j < 2 → Off H (m j) L
theorem ptsR_len {w : Int} : ∀ r : List Deed, (∀ d ∈ r, d.Ok w) → ∀ j, j < 2 → (ptsR r j).length + 2 ≤ 3 * 2 ^ r.length
  | [], _, j, _ => by
    show 1 + 2 ≤ 3 * 1
    omega
  | d :: r, h, j, hj => by
    have ih := ptsR_len r fun d hd => h d (List.mem_cons_of_mem _ hd)
    have hd := h d List.mem_cons_self
    have hp : 1 ≤ 2 ^ r.length := Nat.one_le_pow _ 2 (by decide)
    have hj0 := ih j hj
    rw [List.length_cons, Nat.pow_succ]
    show (if j = d.j then (moreP (ptsR r) d).foldl addK (ptsR r d.j) else ptsR r j).length + 2 ≤ _
    split
    · have k := foldK_len (moreP (ptsR r) d) (ptsR r d.j)
      cases d with
      | fill i lo hi v =>
        have hi0 := ih i hd.1
        have e : (moreP (ptsR r) (.fill i lo hi v)).length = 2 := rfl
        have e2 : (Deed.fill i lo hi v).j = i := rfl
        rw [e, e2] at k
        rw [e2]
        omega
      | copy i lo hi g o =>
        have hi0 := ih i hd.1
        have ho0 := ih o hd.2.2.2
        have e2 : (Deed.copy i lo hi g o).j = i := rfl
        have e : (moreP (ptsR r) (.copy i lo hi g o)).length ≤ 2 + (ptsR r o).length := by
          show ([g, g + hi - lo] ++ _).length ≤ _
          rw [List.length_append, List.length_map]
          have := List.length_filter_le (fun x => decide (lo ≤ x ∧ x < hi)) (ptsR r o)
          show 2 + _ ≤ _
          omega
        rw [e2] at k
        rw [e2]
        omega
    · omega
theorem ptsR_fills : ∀ r : List Deed, (∀ d ∈ r, ∃ j lo hi v, d = Deed.fill j lo hi v) → ∀ j, (ptsR r j).length ≤ 1 + 2 * r.length
  | [], _, j => Nat.le_refl _
  | d :: r, h, j => by
    have ih := ptsR_fills r fun d hd => h d (List.mem_cons_of_mem _ hd)
    obtain ⟨i, lo, hi, v, rfl⟩ := h d List.mem_cons_self
    rw [List.length_cons]
    show (if j = i then (moreP (ptsR r) (.fill i lo hi v)).foldl addK (ptsR r i) else ptsR r j).length ≤ _
    split
    · have k := foldK_len (moreP (ptsR r) (.fill i lo hi v)) (ptsR r i)
      have e : (moreP (ptsR r) (.fill i lo hi v)).length = 2 := rfl
      have := ih i
      rw [e] at k
      omega
    · have := ih j
      omega
theorem pts_some {w : Int} {ds : List Deed} (h : ∀ d ∈ ds, d.Ok w) (sm : Small ds) (i j : Nat) (hj : j < 2) : (pts (ds.take i) j).length ≤ 800 := by
  rw [pts_rev]
  have ht : ∀ d ∈ (ds.take i).reverse, d ∈ ds := fun d hd => List.mem_of_mem_take (List.mem_reverse.mp hd)
  have l : (ds.take i).length ≤ ds.length := by rw [List.length_take]; omega
  rcases sm with n | ⟨n, fl⟩
  · have k := ptsR_len (ds.take i).reverse (fun d hd => h d (ht d hd)) j hj
    rw [List.length_reverse] at k
    have p := Nat.pow_le_pow_right (n := 2) (by decide) (Nat.le_trans l n)
    have e : 2 ^ 8 = 256 := by decide
    omega
  · have k := ptsR_fills (ds.take i).reverse (fun d hd => fl d (ht d hd)) j
    rw [List.length_reverse] at k
    omega
theorem rle_some {f : Nat → Int} {w : Nat} {ds : List Deed} (h : ∀ d ∈ ds, d.Ok w) (hw : 1 ≤ w) (sm : Small ds) (j : Nat) (hj : j < 2) : (rle (cellsR f w ds.reverse j)).length ≤ 800 := by
  have k := pts_some h sm ds.length j hj
  rw [List.take_length, pts_rev] at k
  exact Nat.le_trans (rle_le_pts (fun d hd => h d (List.mem_reverse.mp hd)) hw hj) k
theorem i_bl {b : Bool} {A B : Prop} (h1 : b = true → A) (h2 : b = false → B) : if b = true then A else B := by
  cases b
  · exact iteF (h2 rfl)
  · exact iteT (h1 rfl)
theorem Sta.kp0 {K : PySem.W.Frag} {C p B L a : Addr} {m : Nat → Addr} {w : Nat} {f : Nat → Int} {ds : List Deed} {H H' : Hp} (s : Sta K C p B L a m w f ds H) (k : Kp [] H H') : Sta K C p B L a m w f ds H' :=
  ⟨s.pot.kp k not_nil, s.duo.kp0 k, s.ld.kp k (imms_pd _) not_nil, k.at_ _ _ s.ha not_nil, s.ok, fun j hj => off_kp k (tr_mem (s.duo.mem j hj)) not_nil (s.off j hj)⟩
def sp_law (K : PySem.W.Frag) : Sp := fun vs H Q _ => ∃ (a : Addr) (ns : List Int),
  vs = [.ref a] ∧ SqL K H a (ns.map V.int) ∧ ns.length ≤ 63 ∧ ∀ H', Q (.bl true) H'
theorem sc_law : FnScope ["_law_script", "_law_k", "_law_pot_here", "_law_wide", "_law_firsts", "_law_both", "_law_deeds", "_law_is_many", "_law_turn", "_law_stood", "_law_which", "_law_then_which", "_law_told", "_law_due", "_law_third"] ["_law_script"] (defScope s_law) :=
  ⟨rfl, rfl, rfl, by decide +kernel, rfl, by decide +kernel, by decide +kernel⟩
theorem ok_law {P : Program} {w : World} {K : PySem.W.Frag} {mg : Str → Option Value} {base : Heap} (T : Txt K mg) :
    FnG P w K mg base 9 T.a_law T.d_law ["_law_script"] (sp_law K) := by
  refine okD T.F_law sc_law (fun vs H Q E h => ?_) (fun cdv A outer s H vs Q E hr h => ?_)
  · first
      | (obtain ⟨_, rfl, _⟩ := h; rfl)
      | (obtain ⟨_, _, rfl, _⟩ := h; rfl)
      | (obtain ⟨_, _, _, rfl, _⟩ := h; rfl)
      | (obtain ⟨_, _, _, _, rfl, _⟩ := h; rfl)
      | (obtain ⟨_, _, _, _, _, rfl, _⟩ := h; rfl)
      | (obtain ⟨_, _, _, _, _, _, rfl, _⟩ := h; rfl)
      | (obtain ⟨_, _, _, _, _, _, _, rfl, _⟩ := h; rfl)
      | (obtain ⟨_, _, _, _, _, _, _, _, rfl, _⟩ := h; rfl)
      | (obtain ⟨_, _, _, _, _, _, _, _, _, rfl, _⟩ := h; rfl)
      | (obtain ⟨_, _, _, _, _, _, _, _, _, _, rfl, _⟩ := h; rfl)
      | (obtain ⟨_, _, _, _, _, _, _, _, _, _, _, rfl, _⟩ := h; rfl)
  · obtain ⟨s, ns, rfl, hsq, hns, k⟩ := h
    have cl_Memory := T.cl_Memory
    have na_Memory_pairs := T.na_Memory_pairs
    have na_Memory_wide := T.na_Memory_wide
    refine ⟨_, (pss_cons (ps_for (passes_of rfl) rfl (pi_range1 (by rfl) T.n_range (pa_cons (pe_callB (c_max2 rfl) (by rfl) T.n_max (by decide +kernel) (pa_cons pe_int (pa_cons (pe_callB (c_min2 rfl) (by rfl) T.n_min (by decide +kernel) (pa_cons (pe_callB (k_len (K := K) rfl) (by rfl) T.n_len (by decide +kernel) (pa_cons (pv 0) pa_nil)) (pa_cons pe_int pa_nil))) pa_nil))) pa_nil)) (pg_name (i := 1) sc_law.nd rfl (Or.inl rfl))
      (pss_cons (ps_set (i := 2) sc_law.nd rfl (Or.inl rfl) (d1 (ok_law_pot T) (hr.mono (by decide)) (by rfl) T.m_law_pot T.F_law_pot.kp T.b_law_pot passL (pa_cons (pv 0) (pa_cons (pv 1) pa_nil))))
      (pss_cons (ps_par (i := 3) (j := 4) (by rfl) sc_law.nd rfl rfl (by decide) rfl rfl (pa_cons (d1 (ok_law_size T) (hr.mono (by decide)) (by rfl) T.m_law_size T.F_law_size.kp T.b_law_size passL (pa_cons (pv 2) pa_nil)) (pa_cons (pe_lst (pa_cons pe_int (pa_cons (d1 (ok_law_draw T) (hr.mono (by decide)) (by rfl) T.m_law_draw T.F_law_draw.kp T.b_law_draw passL (pa_cons (pv 2) (pa_cons pe_int pa_nil))) pa_nil))) pa_nil)) (by rfl))
      (pss_cons (ps_set (i := 5) sc_law.nd rfl (Or.inl rfl) (pe_lst (pa_cons (mk1 T.mk_Memory (ok_Memory_init T) (hr.mono (by decide)) (by rfl) T.mg_Memory T.b_Memory_init passL (pa_cons (pv 3) pa_nil)) (pa_cons (mkK T.mk_Memory (ok_Memory_init T) (hr.mono (by decide)) (by rfl) T.mg_Memory T.kb_Memory_init_2_number passL (pa_cons (pv 3) pa_nil) (pk_cons (pe_ix (k_ix (K := K) rfl) (pv 4) pe_int (fun _ _ => rfl)) pk_nil)) pa_nil))))
      (pss_cons (ps_set (i := 6) sc_law.nd rfl (Or.inl rfl) (pe_lst pa_nil))
      (pss_cons (ps_set (i := 7) sc_law.nd rfl (Or.inl rfl) (pe_cmpR (k_eq (K := K) rfl hr.r.units) (d1 (ok_law_draw T) (hr.mono (by decide)) (by rfl) T.m_law_draw T.F_law_draw.kp T.b_law_draw passL (pa_cons (pv 2) (pa_cons pe_int pa_nil))) pe_int (nomark _)))
      (pss_cons (ps_for (passes_of rfl) rfl (pi_range1 (by rfl) T.n_range (pa_cons (pe_ix (k_ix (K := K) rfl) (pe_lst (pa_cons (pe_op (k_add (K := K) rfl) pe_int (d1 (ok_law_draw T) (hr.mono (by decide)) (by rfl) T.m_law_draw T.F_law_draw.kp T.b_law_draw passL (pa_cons (pv 2) (pa_cons pe_int pa_nil)))) (pa_cons pe_int pa_nil))) (pe_callTy call_int1 (by rfl) T.n_int (by decide +kernel) (pa_cons (pv 7) pa_nil)) (fun _ _ => rfl)) pa_nil)) (pg_name (i := 8) sc_law.nd rfl (Or.inl rfl))
      (pss_cons (ps_expr (pe_bm PySem.F.plainAttrs_list PySem.F.slot_list_append PySem.F.type_list_append mt_append (pv 6) (pa_cons (pe_ifExp (pt_val (pv 7)) (d1 (ok_law_one_cell T) (hr.mono (by decide)) (by rfl) T.m_law_one_cell T.F_law_one_cell.kp T.b_law_one_cell passL (pa_cons (pv 2) (pa_cons (pv 3) pa_nil))) (d1 (ok_law_deed T) (hr.mono (by decide)) (by rfl) T.m_law_deed T.F_law_deed.kp T.b_law_deed passL (pa_cons (pv 2) (pa_cons (pv 3) pa_nil)))) pa_nil)))
      (pss_one (ps_expr (d1 (ok_law_do T) (hr.mono (by decide)) (by rfl) T.m_law_do T.F_law_do.kp T.b_law_do passL (pa_cons (pv 5) (pa_cons (pe_ix (k_ix (K := K) rfl) (pv 6) (pe_un un_neg pe_int) (fun _ _ => rfl)) pa_nil)))))))
      (pss_cons (ps_set (i := 9) sc_law.nd rfl (Or.inl rfl) (pe_callB (k_reprL (K := K) rfl T.me_Memory_repr (okL_Memory_repr T) (hr.mono (by decide)) T.b_Memory_repr passL) (by rfl) T.n_repr (by decide +kernel) (pa_cons (pv 5) pa_nil)))
      (pss_cons (ps_for (passes_of rfl) rfl (k_plist (K := K) rfl (pe_lst (pa_cons (pe_tup (pa_cons pe_int (pa_cons pe_int pa_nil))) (pa_cons (pe_tup (pa_cons pe_int (pa_cons pe_int pa_nil))) (pa_cons (pe_tup (pa_cons pe_int (pa_cons pe_int pa_nil))) pa_nil))))) (k_gtup (K := K) 2 rfl rfl (pgs_cons (pg_name (i := 10) sc_law.nd rfl (Or.inl rfl)) (pgs_cons (pg_name (i := 11) sc_law.nd rfl (Or.inl rfl)) pgs_nil)))
      (pss_cons (ps_set (i := 12) sc_law.nd rfl (Or.inl rfl) (s1 (ok_difference T) (hr.mono (by decide)) (by rfl) T.m_difference T.F_difference.kp T.b_difference (passAt (takes_of rfl rfl rfl rfl)) (pa_cons (pe_ix (k_ix (K := K) rfl) (pv 5) (pv 10) (fun _ _ => rfl)) (pa_cons (pe_ix (k_ix (K := K) rfl) (pv 5) (pv 11) (fun _ _ => rfl)) pa_nil))))
      (pss_cons (ps_set (i := 13) sc_law.nd rfl (Or.inl rfl) (d1 (ok_law_written T) (hr.mono (by decide)) (by rfl) T.m_law_written T.F_law_written.kp T.b_law_written passL (pa_cons (pv 6) (pa_cons (pv 4) (pa_cons (pv 3) (pa_cons (pv 10) (pa_cons (pv 11) pa_nil)))))))
      (pss_cons (ps_if (PW.pt (pw_or (pt_not (pt_val (pe_callB (k_isi (K := K) rfl) (by rfl) T.n_isinstance (by decide +kernel) (pa_cons (pv 12) (pa_cons (pe_bltn (v := .ty "list") (by rfl) T.n_list (by decide +kernel) rfl) pa_nil))))) (pw_or1 (pt_cmpR (k_ne (K := K) rfl hr.r.units) (pe_callB (k_repr (K := K) rfl hr.g hr.r.units) (by rfl) T.n_repr (by decide +kernel) (pa_cons (pv 12) pa_nil)) (pe_callB (k_repr (K := K) rfl hr.g hr.r.units) (by rfl) T.n_repr (by decide +kernel) (pa_cons (pv 13) pa_nil)) (nomark _))))) (pss_one (ps_ret pe_bl)) pss_nil)
      (pss_cons (ps_expr (pe_bm PySem.F.plainAttrs_list PySem.F.slot_list_append PySem.F.type_list_append mt_append (pv 12) (pa_cons pe_non pa_nil)))
      (pss_one (ps_if (pt_cmpR (k_ne (K := K) rfl hr.r.units) (pe_callB (k_repr (K := K) rfl hr.g hr.r.units) (by rfl) T.n_repr (by decide +kernel) (pa_cons (s1 (ok_difference T) (hr.mono (by decide)) (by rfl) T.m_difference T.F_difference.kp T.b_difference (passAt (takes_of rfl rfl rfl rfl)) (pa_cons (pe_ix (k_ix (K := K) rfl) (pv 5) (pv 10) (fun _ _ => rfl)) (pa_cons (pe_ix (k_ix (K := K) rfl) (pv 5) (pv 11) (fun _ _ => rfl)) pa_nil))) pa_nil)) (pe_callB (k_repr (K := K) rfl hr.g hr.r.units) (by rfl) T.n_repr (by decide +kernel) (pa_cons (pv 13) pa_nil)) (nomark _)) (pss_one (ps_ret pe_bl)) pss_nil)))))))
      (pss_cons (ps_if (PW.pt (pw_or (pt_cmpR (k_ne (K := K) rfl hr.r.units) (s1 (ok_difference T) (hr.mono (by decide)) (by rfl) T.m_difference T.F_difference.kp T.b_difference (passAt (takes_of rfl rfl rfl rfl)) (pa_cons (pe_ix (k_ix (K := K) rfl) (pv 5) pe_int (fun _ _ => rfl)) (pa_cons (dm0 T.cl_Memory T.me_Memory_copied (ok_Memory_copied T) (hr.mono (by decide)) T.b_Memory_copied passL (pe_ix (k_ix (K := K) rfl) (pv 5) pe_int (fun _ _ => rfl))) pa_nil))) (pe_lst pa_nil) (nomark _)) (pw_or1 (pt_cmpR (k_ne (K := K) rfl hr.r.units) (pe_callB (k_reprL (K := K) rfl T.me_Memory_repr (okL_Memory_repr T) (hr.mono (by decide)) T.b_Memory_repr passL) (by rfl) T.n_repr (by decide +kernel) (pa_cons (pv 5) pa_nil)) (pv 9) (nomark _))))) (pss_one (ps_ret pe_bl)) pss_nil)
      (pss_cons (ps_set (i := 14) sc_law.nd rfl (Or.inl rfl) (mk1 T.mk_Memory (ok_Memory_init T) (hr.mono (by decide)) (by rfl) T.mg_Memory T.b_Memory_init passL (pa_cons (pe_ifExp (pt_cmpR op_gt (pv 3) pe_int (nomark _)) (pe_op op_sub (pv 3) pe_int) pe_int) pa_nil)))
      (pss_one (ps_if (PW.pt (pw_or (pt_not (pt_val (d1 (ok_law_unlike T) (hr.mono (by decide)) (by rfl) T.m_law_unlike T.F_law_unlike.kp T.b_law_unlike passL (pa_cons (pe_ix (k_ix (K := K) rfl) (pv 5) pe_int (fun _ _ => rfl)) (pa_cons (pv 14) pa_nil))))) (pw_or1 (pt_not (pt_val (d1 (ok_law_unlike T) (hr.mono (by decide)) (by rfl) T.m_law_unlike T.F_law_unlike.kp T.b_law_unlike passL (pa_cons (pv 14) (pa_cons (pe_ix (k_ix (K := K) rfl) (pv 5) pe_int (fun _ _ => rfl)) pa_nil)))))))) (pss_one (ps_ret pe_bl)) pss_nil)))))))))))))
      (pss_one (ps_ret pe_bl))), ?_⟩
    dsimp only [cxOf, st_1, st_2, st_3, st_4, st_5, st_6, List.length_cons, List.length_nil, List.replicate_succ, List.replicate_zero, Nat.reduceAdd, Nat.reduceSub]
    walk_at "gs"
    rw [List.length_map]
    refine i_turns (by omega) (by omega) (fun i σ H' => ∃ x1 x2 x3 x4 x5 x6 x7 x8 x9 x10 x11 x12 x13 x14, σ = [some (.ref s), x1, x2, x3, x4, x5, x6, x7, x8, x9, x10, x11, x12, x13, x14] ∧ Kp [] H H') ?_ ?_ ?_
    · exact ⟨none, none, none, none, none, none, none, none, none, none, none, none, none, none, rfl, Kp.refl⟩
    · rintro i σ H' hi ⟨x1, x2, x3, x4, x5, x6, x7, x8, x9, x10, x11, x12, x13, x14, rfl, kp⟩
      walk_at "gs"
      refine ⟨s, ns, i, rfl, kp.seqL not_nil hsq, by omega, fun p H1 hp k1 hpot => ?_⟩
      walk_at "gs"
      refine use_size hpot (fun w0 H2 a1 a2 hp2 k2 => ?_)
      obtain ⟨w, rfl⟩ := Int.eq_ofNat_of_zero_le (show 0 ≤ w0 by omega)
      walk_at "gs"
      refine use_draw hp2 (by decide) (by decide) (fun v H3 b1 b2 hp3 k3 => ?_)
      walk_at "gs"
      refine i_new fun a fa => ?_
      walk_at "gs"
      refine i_made fun m0 d0 hm0 hd0 nd0 => ?_
      refine ⟨m0, d0, w, 0, rfl, upd_same, by omega, fun H4 k4 M0 _ => ⟨rfl, ?_⟩⟩
      have k34 := kp_made hm0 hd0 k4
      have ha4 : H4 a = some (.lst [.int 0, .int v]) := k34.at_ _ _ upd_same not_nil
      walk_at "gs"
      refine i_made fun m1 d1 hm1 hd1 nd1 => ?_
      refine ⟨m1, d1, w, v, rfl, upd_same, by omega, fun H5 k5 M1 _ => ⟨rfl, ?_⟩⟩
      have k45 := kp_made hm1 hd1 k5
      walk_at "gs"
      refine i_new fun B fB => ?_
      walk_at "gs"
      refine i_new fun L fL => ?_
      walk_at "gs"
      obtain ⟨f, hf⟩ : ∃ f : Nat → Int, f = pickI 0 v := ⟨_, rfl⟩
      obtain ⟨m, hm⟩ : ∃ m : Nat → Addr, m = pick m0 m1 := ⟨_, rfl⟩
      have em0 : m 0 = m0 := by rw [hm]; rfl
      have em1 : m 1 = m1 := by rw [hm]; rfl
      have ef0 : f 0 = 0 := by rw [hf]; rfl
      have ef1 : f 1 = v := by rw [hf]; rfl
      have two : ∀ {P : Nat → Prop}, P 0 → P 1 → ∀ j, j < 2 → P j := fun {P} a b j hj => by
        have e : j = 0 ∨ j = 1 := by omega
        rcases e with rfl | rfl
        · exact a
        · exact b
      have hfb : ∀ j, -1000000000000000000000000000000000000000000000000000000000000 ≤ f j ∧ f j ≤ 1000000000000000000000000000000000000000000000000000000000000 := by
        intro j
        rw [hf]
        cases j with
        | zero =>
          show -1000000000000000000000000000000000000000000000000000000000000 ≤ (0 : Int) ∧ (0 : Int) ≤ 1000000000000000000000000000000000000000000000000000000000000
          decide
        | succ j =>
          show -1000000000000000000000000000000000000000000000000000000000000 ≤ v ∧ v ≤ 1000000000000000000000000000000000000000000000000000000000000
          omega
      obtain ⟨HS, hHS⟩ : ∃ HS, HS = upd (upd H5 B (.lst [.ref m0, .ref m1])) L (.lst []) := ⟨_, rfl⟩
      have k5S : Kp [] H5 HS := by
        rw [hHS]
        walk_at "g_kp"
      have n01 : m0 ≠ m1 := fr_tr (tr_mem M0) hm1
      have ap : Two2 m := by
        intro i j hi hj n
        have e : (i = 0 ∧ j = 1) ∨ (i = 1 ∧ j = 0) := by omega
        rcases e with ⟨rfl, rfl⟩ | ⟨rfl, rfl⟩
        · rw [em0, em1]
          exact n01
        · rw [em0, em1]
          exact Ne.symm n01
      have hp4 : PotAt H4 p := (hp3.kp (Kp.new fa (ws := [])) not_nil).kp k34 not_nil
      have hpS : PotAt HS p := (hp4.kp k45 not_nil).kp k5S not_nil
      have st0 : Sta K T.c_Memory p B L a m w f [] HS := by
        refine ⟨hpS, ⟨two ?_ ?_, fun _ _ => List.length_replicate, ?_⟩, ⟨[], ?_, .nil⟩, ?_, (fun d hd => nomatch hd), ?_⟩
        · show MemAt K T.c_Memory HS (m 0) (List.replicate w (f 0))
          rw [em0, ef0]
          rw [Int.toNat_natCast] at M0
          exact mem_kp0 (mem_kp0 M0 k45) k5S
        · show MemAt K T.c_Memory HS (m 1) (List.replicate w (f 1))
          rw [em1, ef1]
          rw [Int.toNat_natCast] at M1
          exact mem_kp0 M1 k5S
        · rw [em0, em1, hHS]
          walk_at "g_hp"
        · rw [hHS]
          exact upd_same
        · rw [ef0, ef1]
          exact k5S.at_ _ _ (k45.at_ _ _ ha4 not_nil) not_nil
        · have q : ∀ {x cs}, MemAt K T.c_Memory H5 x cs → Off HS x L := by
            rintro x cs ⟨dx, l, e1, e2⟩
            have t1 : Tr (upd H5 B (.lst [.ref m0, .ref m1])) l := tr_upd (tr_ld e2)
            exact off_mk (k5S.at_ _ _ e1 not_nil) (fr_tr t1 fL)
          refine two ?_ ?_
          · rw [em0]
            exact q (mem_kp0 M0 k45)
          · rw [em1]
            exact q M1
      have kS : Kp (four p L m) H' HS := by
        have q1 : Kp [p] H' H3 := Kp.trans (Kp.wide k1) (Kp.trans k2 k3)
        have q2 : Kp [] H3 HS := Kp.trans (Kp.trans (Kp.new fa) k34) (Kp.trans k45 k5S)
        exact Kp.trans (q1.mono fun b hb => by rw [List.mem_singleton.mp hb]; exact List.mem_cons_self) (Kp.wide q2)
      have frL : Fr H3 L := by
        have : Fr H5 L := by walk_at "g_fr"
        exact (Kp.new fa (ws := [])).free (k34.free (k45.free this))
      have fr4 : ∀ b ∈ four p L m, b ∈ ([] : List Addr) ∨ Fr H' b := by
        have q1 : Kp [p] H' H3 := Kp.trans (Kp.wide k1) (Kp.trans k2 k3)
        intro b hb
        refine .inr ?_
        simp only [four, List.mem_cons, List.not_mem_nil, or_false, em0, em1] at hb
        rcases hb with rfl | rfl | rfl | rfl
        · exact hp
        · exact q1.free frL
        · exact q1.free ((Kp.new fa (ws := [])).free hm0)
        · exact q1.free ((Kp.new fa (ws := [])).free (k34.free hm1))
      have nLp : L ≠ p := by
        have : PotAt H5 p := hp4.kp k45 not_nil
        have := this.kp (Kp.new fB (ws := []) (o := .lst [.ref m0, .ref m1])) not_nil
        exact Ne.symm (this.ne fL)
      have nap : a ≠ p := Ne.symm (hp3.ne fa)
      have nLm : ∀ j, j < 2 → L ≠ m j := by
        have t5 : Tr H5 m0 := tr_mem (mem_kp0 M0 k45)
        have t6 : Tr H5 m1 := tr_mem M1
        refine two ?_ ?_
        · rw [em0]
          exact Ne.symm (fr_tr (tr_upd t5) fL)
        · rw [em1]
          exact Ne.symm (fr_tr (tr_upd t6) fL)
      have naL : a ≠ L := by
        have : H5 a = some (.lst [.int 0, .int v]) := k45.at_ _ _ ha4 not_nil
        exact fr_tr (tr_upd (tr_of this)) fL
      have nBL : B ≠ L := fr_tr tr_same fL
      rw [← hHS]
      refine use_draw st0.pot (by decide) (by decide) (fun r0 H6 c1 c2 hp6 k6 => ?_)
      have keep : ∀ {ds H1 H2}, Sta K T.c_Memory p B L a m w f ds H1 → Kp [p] H1 H2 → PotAt H2 p → Sta K T.c_Memory p B L a m w f ds H2 :=
        fun s k q => ⟨q, s.duo.kpp k s.pot, s.ld.kp k (imms_pd _) (not_one nLp), k.at_ _ _ s.ha (not_one nap), s.ok,
          fun j hj => off_kp k (tr_mem (s.duo.mem j hj)) (not_one (Ne.symm (pot_ne_mem s.pot (s.duo.mem j hj)))) (s.off j hj)⟩
      have in4 : ∀ {H1 H2}, Kp [p] H1 H2 → Kp (four p L m) H1 H2 := fun k => k.mono fun b hb => by rw [List.mem_singleton.mp hb]; exact List.mem_cons_self
      have st6 := keep st0 k6 hp6
      walk_at "gs"
      obtain ⟨many, hmany⟩ : ∃ b : Bool, b = decide (r0 = 0) := ⟨_, rfl⟩
      refine use_draw hp6 (by decide) (by decide) (fun r H7 e1 e2 hp7 k7 => ?_)
      have st7 := keep st6 k7 hp7
      walk_at "gs"
      refine i_new fun Z fZ => ?_
      walk_at "gs"
      refine .inr ⟨_, rfl, ?_⟩
      rw [← hmany]
      obtain ⟨n, hn1, hn2, hn3, hat⟩ : ∃ n : Int, 1 ≤ n ∧ n ≤ 30 ∧ (many = false → n ≤ 8) ∧ atI [V.int (1 + r), V.int 30] (if many = true then 1 else 0) = some (.int n) := by
        cases many with
        | true => exact ⟨30, by omega, by omega, fun z => (nomatch z), rfl⟩
        | false => exact ⟨1 + r, by omega, by omega, fun _ => by omega, rfl⟩
      have kZ : Kp [] H7 (upd H7 Z (.lst [.int (1 + r), .int 30])) := Kp.new fZ
      have stZ := keep st7 kZ.wide (hp7.kp kZ not_nil)
      walk_at "gs"
      refine i_turns (by omega) (by omega) (fun j σ H8 => ∃ y9 y8 y10 y11 y12 y13 y14 ds, σ = [some (.ref s), some (.int i), some (.ref p), some (.int w), some (.ref a), some (.ref B), some (.ref L), some (.bl many), y8, y9, y10, y11, y12, y13, y14] ∧
        Sta K T.c_Memory p B L a m w f ds H8 ∧ ds.length = j ∧ (many = true → ∀ d ∈ ds, ∃ j lo hi v, d = Deed.fill j lo hi v) ∧ Kp (four p L m) H' H8) ?_ ?_ ?_
      · exact ⟨_, _, _, _, _, _, _, _, rfl, stZ, rfl, (fun _ d hd => nomatch hd), Kp.trans kS (Kp.trans (in4 k6) (Kp.trans (in4 k7) (Kp.wide kZ)))⟩
      · rintro j σ H8 hj ⟨y9, y8, y10, y11, y12, y13, y14, ds, rfl, st, hdl, hfl, k8⟩
        walk_at "gs"
        obtain ⟨lv, hlv, hla⟩ := id st.ld
        have hll := dpa_len hla
        rw [List.length_map] at hll
        walk_at "gs"
        refine i_bl (fun hb => ?yes) (fun hb => ?no)
        case' yes =>
          walk_at "gs"
          refine ⟨p, w, rfl, st.pot, by omega, fun t i0 c0 v0 H9 ft ht hd hp9 k9 => ?_⟩
          obtain ⟨d, hdd⟩ : ∃ d, d = Deed.fill i0 c0 (c0 + 1) v0 := ⟨_, rfl⟩
          rw [← hdd] at ht hd
          have hfl' : many = true → ∀ e ∈ ds ++ [d], ∃ j lo hi v, e = Deed.fill j lo hi v := fun z e he => by
            rcases List.mem_append.mp he with he | he
            · exact hfl z e he
            · rw [List.mem_singleton.mp he]
              exact ⟨_, _, _, _, hdd⟩
          clear hdd
        case' no =>
          walk_at "gs"
          refine use_deed st.pot (by omega) (by omega) (fun t d H9 ft ht hd hp9 k9 => ?_)
          have hfl' : many = true → ∀ e ∈ ds ++ [d], ∃ j lo hi v, e = Deed.fill j lo hi v := fun z => by
            rw [hb] at z
            cases z
        all_goals
          have st9 := keep st k9 hp9
          have hlv9 := k9.at_ _ _ hlv (not_one nLp)
          walk_at "gs"
          obtain ⟨HA, hA⟩ : ∃ HA, HA = upd H9 L (.lst (lv ++ [.ref t])) := ⟨_, rfl⟩
          have k9A : Kp [L] H9 HA := by
            rw [hA]
            exact Kp.mut hlv9 (fun z => z) List.mem_cons_self
          have ntL : t ≠ L := Ne.symm (fr_tr (tr_of hlv) ft)
          have htA : SqT K HA t d.vs := k9A.seqT (SqT.of ht)
          have hLA : HA L = some (.lst (lv ++ [.ref t])) := by
            rw [hA]
            exact upd_same
          have hBA : HA B = some (.lst [.ref (m 0), .ref (m 1)]) := k9A.at_ _ _ st9.duo.hB (not_one nBL)
          have DA : Duo K T.c_Memory B m w (cellsR f w ds.reverse) HA :=
            ⟨fun j hj => mem_kp1 (st9.duo.mem j hj) k9A (oth_lst hlv9 (st9.off j hj)), st9.duo.len, hBA⟩
          have hpA : PotAt HA p := hp9.kp k9A (not_one (Ne.symm nLp))
          have ofA : ∀ j, j < 2 → Off HA (m j) L := fun j hj => off_kp k9A (tr_mem (st9.duo.mem j hj)) (not_one (Ne.symm (nLm j hj))) (st9.off j hj)
          have haA := k9A.at_ _ _ st9.ha (not_one naL)
          have laA : DpAll K HA (lv ++ [.ref t]) ((ds ++ [d]).map Deed.pd) := by
            rw [List.map_append]
            exact dpa_app (dpa_imm k9A _ _ (imms_pd _) (dpa_imm k9 _ _ (imms_pd _) hla)) (dpa_one (dp_mkD htA))
          have hokA : ∀ e ∈ ds ++ [d], e.Ok w := fun e he => by
            rcases List.mem_append.mp he with he | he
            · exact st.ok e he
            · rw [List.mem_singleton.mp he]
              exact hd
          have few : ∀ j, j < 2 → (rle (cellsR f w ds.reverse j)).length ≤ 10000 := fun j hj => by
            have sm : Small ds := by
              cases hm2 : many with
              | true => exact .inr ⟨by omega, hfl hm2⟩
              | false =>
                have := hn3 hm2
                exact .inl (by omega)
            have := rle_some (f := f) st.ok (by omega) sm j hj
            omega
          rw [← hA]
          refine ⟨B, t, m, w, cellsR f w ds.reverse, d, rfl, DA, ap, htA, hd, few, fun H10 k10 D10 of10 => ?_⟩
          have two' : ∀ {x : Addr}, x ≠ m 0 → x ≠ m 1 → x ∉ duoW m := fun h0 h1 => not_two h0 h1
          have hp10 := duo_pot DA hpA k10
          have erev : (ds ++ [d]).reverse = d :: ds.reverse := by simp
          have la10 : LD K H10 L ((ds ++ [d]).map Deed.pd) := by
            have l9 : LD K HA L ((ds ++ [d]).map Deed.pd) := ⟨_, hLA, laA⟩
            exact l9.kp k10 (imms_pd _) (two' (nLm 0 (by decide)) (nLm 1 (by decide)))
          have ha10 : H10 a = some (.lst [.int (f 0), .int (f 1)]) := by
            obtain ⟨x0, y0, e0⟩ := DA.ins (j := 0) (by decide)
            obtain ⟨x1, y1, e1⟩ := DA.ins (j := 1) (by decide)
            exact k10.at_ _ _ haA (two' (two_ne haA e0 fun z => nomatch z) (two_ne haA e1 fun z => nomatch z))
          have st10 : Sta K T.c_Memory p B L a m w f (ds ++ [d]) H10 := by
            refine ⟨hp10, ?_, la10, ha10, hokA, fun j hj => of10 j L hj (tr_of hLA) (ofA j hj)⟩
            rw [erev]
            exact D10
          walk_at "gs"
          refine ⟨_, _, _, _, _, _, _, ds ++ [d], rfl, st10, by rw [List.length_append, List.length_singleton]; omega, hfl', ?_⟩
          have i1 : Kp (four p L m) H9 HA := k9A.mono fun b hb => by rw [List.mem_singleton.mp hb]; exact List.mem_cons_of_mem _ List.mem_cons_self
          have i2 : Kp (four p L m) HA H10 := k10.mono fun b hb => List.mem_cons_of_mem _ (List.mem_cons_of_mem _ hb)
          exact Kp.trans k8 (Kp.trans (in4 k9) (Kp.trans i1 i2))
      rintro σ HB ⟨y9, y8, y10, y11, y12, y13, y14, ds, rfl, st, hdl, hfl, kB⟩
      have sm : Small ds := by
        cases hm2 : many with
        | true => exact .inr ⟨by omega, hfl hm2⟩
        | false =>
          have := hn3 hm2
          exact .inl (by omega)
      obtain ⟨c, hc⟩ : ∃ c, c = cellsR f w ds.reverse := ⟨_, rfl⟩
      have few : ∀ j, j < 2 → (rle (c j)).length ≤ 800 := fun j hj => by
        rw [hc]
        exact rle_some st.ok (by omega) sm j hj
      have okc : ∀ j, j < 2 → ∀ v ∈ c j, okI v := fun j hj => by
        rw [hc]
        exact ok_cells (fun d hd => st.ok d (List.mem_reverse.mp hd)) hfb hj
      have lenc : ∀ j, j < 2 → (c j).length = w := fun j hj => by
        rw [hc]
        exact st.duo.len j hj
      have okr : ∀ j, j < 2 → ∀ q ∈ rle (c j), okI q.1 ∧ okI q.2 := fun j hj => ok_runs (okc j hj) (by rw [lenc j hj]; omega)
      have duoB : Duo K T.c_Memory B m w c HB := by
        rw [hc]
        exact st.duo
      walk_at "gs"
      refine repr_duo duoB okr (fun j hj => Nat.le_trans (few j hj) (by decide)) (fun HC kC => ?_)
      have stC := st.kp0 kC
      walk_at "gs"
      refine i_new fun t1 ft1 => ?_
      walk_at "gs"
      refine i_new fun t2 ft2 => ?_
      walk_at "gs"
      refine i_new fun t3 ft3 => ?_
      walk_at "gs"
      refine i_new fun Z2 fZ2 => ?_
      walk_at "gs"
      obtain ⟨HD, hHD⟩ : ∃ HD, HD = upd (upd (upd (upd HC t1 (.tup [.int 0, .int 1])) t2 (.tup [.int 1, .int 0])) t3 (.tup [.int 0, .int 0])) Z2 (.lst [.ref t1, .ref t2, .ref t3]) := ⟨_, rfl⟩
      have kD : Kp [] HC HD := by
        rw [hHD]
        walk_at "g_kp"
      have stD := stC.kp0 kD
      have kBD : Kp [] HB HD := Kp.trans kC kD
      obtain ⟨prs, hprs⟩ : ∃ prs : List (Int × Int), prs = [(0, 1), (1, 0), (0, 0)] := ⟨_, rfl⟩
      have ldZ : LD K HD Z2 (prs.map d2) := by
        rw [hprs]
        refine ⟨[.ref t1, .ref t2, .ref t3], by rw [hHD]; exact upd_same, ?_⟩
        refine .cons (dp_mk2 (a := t1) (m := 0) (n := 1) ?_) (.cons (dp_mk2 (a := t2) (m := 1) (n := 0) ?_) (.cons (dp_mk2 (a := t3) (m := 0) (n := 0) ?_) .nil))
        · rw [hHD]
          walk_at "g_st"
        · rw [hHD]
          walk_at "g_st"
        · rw [hHD]
          walk_at "g_st"
      rw [← hHD]
      obtain ⟨zv, hzv, hza⟩ := id ldZ
      have hzl := dpa_len hza
      rw [List.length_map] at hzl
      have ez : zv = [.ref t1, .ref t2, .ref t3] := by
        have e : HD Z2 = some (.lst [.ref t1, .ref t2, .ref t3]) := by
          rw [hHD]
          exact upd_same
        rw [hzv] at e
        injection e with e
        injection e
      refine i_each (SqL.of hzv) (fun n σ HE => ∃ z10 z11 z12 z13 z14, σ = [some (.ref s), some (.int i), some (.ref p), some (.int w), some (.ref a), some (.ref B), some (.ref L), some (.bl many), y8, some (.str (listText [memText (c 0), memText (c 1)])), z10, z11, z12, z13, z14] ∧
        Kp [] HD HE) ?_ ?_ ?_ ?_
      · exact ⟨_, _, _, _, _, rfl, Kp.refl⟩
      · rintro n σ HE _ ⟨z10, z11, z12, z13, z14, rfl, kE⟩
        exact SqL.of (kE.at_ _ _ hzv not_nil)
      · rintro n x σ HE hx ⟨z10, z11, z12, z13, z14, rfl, kE⟩
        obtain ⟨d0, hd0, hdp⟩ := dpa_getV hza hx
        obtain ⟨q, hq, rfl⟩ := map_get hd0
        obtain ⟨tq, rfl, hTq⟩ := dp_pair (dp_imm kE _ _ rfl hdp)
        obtain ⟨j1, j2, hj1, hj2, e1q, e2q⟩ : ∃ j1 j2 : Nat, j1 < 2 ∧ j2 < 2 ∧ q.1 = j1 ∧ q.2 = j2 := by
          rw [hprs] at hq
          match n, hq with
          | 0, hq => cases hq; exact ⟨0, 1, by decide, by decide, rfl, rfl⟩
          | 1, hq => cases hq; exact ⟨1, 0, by decide, by decide, rfl, rfl⟩
          | 2, hq => cases hq; exact ⟨0, 0, by decide, by decide, rfl, rfl⟩
        rw [e1q, e2q] at hTq
        have stE := stD.kp0 kE
        have duoE : Duo K T.c_Memory B m w c HE := by
          rw [hc]
          exact stE.duo
        have hBE := duoE.hB
        have hat1 : atI [V.ref (m 0), V.ref (m 1)] (j1 : Int) = some (.ref (m j1)) := at_twoN (f := fun j => .ref (m j)) hj1
        have hat2 : atI [V.ref (m 0), V.ref (m 1)] (j2 : Int) = some (.ref (m j2)) := at_twoN (f := fun j => .ref (m j)) hj2
        have n1 := few j1 hj1
        have n2 := few j2 hj2
        have l1 := lenc j1 hj1
        have l2 := lenc j2 hj2
        walk_at "gs"
        refine i_callX0 ?_
        walk_at "gs"
        refine ⟨m j1, m j2, c j1, c j2, rfl, duoE.mem j1 hj1, duoE.mem j2 hj2, by omega, by omega, by omega, fun z => absurd (by omega) z, fun _ l HF P fl kF ldF dfF fewF => ?_⟩
        have stF := stE.kp0 kF
        have okP := dfF.okP (okc j1 hj1) (okc j2 hj2) (by omega)
        walk_at "gs"
        refine ⟨L, a, f, ds, w, j1, j2, rfl, stF.ld, SqL.of stF.ha, hj1, hj2, by omega, st.ok, by omega, fun i2 j hj => Nat.le_trans (pts_some st.ok sm i2 j hj) (by decide), fun R HG P2 fR kG ldR dfR => ?_⟩
        rw [← hc] at dfR
        obtain rfl : P2 = P := dfR.uniq dfF
        have ldG := ldF.kp kG (imms_d4 _) not_nil
        have stG := stF.kp0 kG
        walk_at "gs"
        refine i_isD (b := true) ldG.dp (by first | rfl | decide | kernel_rfl) ?_
        walk_at "gs"
        refine repr_d4 ldG.dp okP (by omega) ?_
        walk_at "gs"
        refine repr_d4 ldR.dp okP (by omega) ?_
        walk_at "gs"
        refine i_decN (fun z => absurd rfl z) (fun _ => ?_)
        walk_at "gs"
        obtain ⟨lv, hlv, hla⟩ := id ldG
        have hll := dpa_len hla
        rw [List.length_map] at hll
        walk_at "gs"
        obtain ⟨HH, hHH⟩ : ∃ HH, HH = upd HG l (.lst (lv ++ [.non])) := ⟨_, rfl⟩
        have kGH : Kp [l] HG HH := by
          rw [hHH]
          exact Kp.mut hlv (fun z => z) List.mem_cons_self
        have kEH : Kp [] HE HH := Kp.drop (Kp.trans (Kp.wide (Kp.trans kF kG)) kGH) fl
        have nlR : R ≠ l := Ne.symm (fr_tr (tr_ld ldF) fR)
        have ldRH := ldR.kp kGH (imms_d4 _) (not_one nlR)
        have stH := stE.kp0 kEH
        have duoH := duoE.kp0 kEH
        have hBH := duoH.hB
        rw [← hHH]
        refine i_callX0 ?_
        walk_at "gs"
        refine ⟨m j1, m j2, c j1, c j2, rfl, duoH.mem j1 hj1, duoH.mem j2 hj2, by omega, by omega, by omega, fun z => absurd (by omega) z, fun _ l3 HI P3 f3 k3 ld3 df3 few3 => ?_⟩
        obtain rfl : P3 = P2 := df3.uniq dfR
        walk_at "gs"
        refine repr_d4 ld3.dp okP (by omega) ?_
        walk_at "gs"
        refine repr_d4 (ldRH.kp k3 (imms_d4 _) not_nil).dp okP (by omega) ?_
        walk_at "gs"
        refine i_decN (fun z => absurd rfl z) (fun _ => ?_)
        walk_at "gs"
        exact ⟨_, _, _, _, _, rfl, Kp.trans kE (Kp.trans kEH k3)⟩
      rintro σ HE ⟨z10, z11, z12, z13, z14, rfl, kE⟩
      have kBE : Kp [] HB HE := Kp.trans kBD kE
      have duoE := duoB.kp0 kBE
      have hBE := duoE.hB
      have f0 := few 0 (by decide)
      have f1 := few 1 (by decide)
      have l0 := lenc 0 (by decide)
      have l1 := lenc 1 (by decide)
      have M0E := duoE.mem 0 (by decide)
      walk_at "gs"
      refine i_callX0 ?_
      walk_at "gs"
      refine ⟨m 0, c 0, rfl, M0E, ⟨by omega, by omega⟩, by omega, fun x HF fx kF MF _ => ?_⟩
      have duoF := duoE.kp0 kF
      walk_at "gs"
      refine ⟨m 0, x, c 0, c 0, rfl, duoF.mem 0 (by decide), MF, by omega, by omega, by omega, fun z => absurd rfl z, fun _ l HG P fl kG ldG dfG _ => ?_⟩
      obtain rfl : P = [] := dfG.self
      have duoG := duoF.kp0 kG
      walk_at "gs"
      refine i_new fun q fq => ?_
      walk_at "gs"
      refine ne_d4 ldG fq ?_
      have kq : Kp [] HG (upd HG q (.lst [])) := Kp.new fq
      have duoH := duoG.kp0 kq
      obtain ⟨HH, hHH⟩ : ∃ HH, HH = upd HG q (.lst []) := ⟨_, rfl⟩
      rw [← hHH] at kq duoH ⊢
      walk_at "gs"
      refine i_boN (fun z => nomatch z) (fun _ => ?_)
      walk_at "gs"
      refine repr_duo duoH okr (fun j hj => Nat.le_trans (few j hj) (by decide)) (fun HI kI => ?_)
      have duoI := duoH.kp0 kI
      have hBI := duoI.hB
      walk_at "gs"
      refine i_decN (fun z => absurd rfl z) (fun _ => ?_)
      have kHI : Kp [] HE HI := Kp.trans kF (Kp.trans kG (Kp.trans kq kI))
      walk_at "gs"
      refine i_dec (fun big => ?wide) (fun big => ?slim)
      case' wide =>
        walk_at "gs"
        refine i_made fun x3 d3 hx3 hd3 nd3 => ?_
        refine ⟨x3, d3, (w : Int) - 1, 0, rfl, upd_same, by omega, fun HJ kJ MJ _ => ⟨rfl, ?_⟩⟩
        obtain ⟨u, hu0, hu1, hu⟩ : ∃ u : Nat, 1 ≤ u ∧ u ≠ w ∧ ((w : Int) - 1).toNat = u := ⟨w - 1, by omega, by omega, by omega⟩
      case' slim =>
        walk_at "gs"
        refine i_made fun x3 d3 hx3 hd3 nd3 => ?_
        refine ⟨x3, d3, 2, 0, rfl, upd_same, by omega, fun HJ kJ MJ _ => ⟨rfl, ?_⟩⟩
        obtain ⟨u, hu0, hu1, hu⟩ : ∃ u : Nat, 1 ≤ u ∧ u ≠ w ∧ (2 : Int).toNat = u := ⟨2, by omega, by omega, rfl⟩
      all_goals
        rw [hu] at MJ
        have kIJ := kp_made hx3 hd3 kJ
        have duoJ := duoI.kp0 kIJ
        have hBJ := duoJ.hB
        have lu : (List.replicate u (0 : Int)).length = u := List.length_replicate
        have fu : (rle (List.replicate u (0 : Int))).length ≤ 1 := by
          have e := rle_one (n := (u : Int)) (v := 0) (by omega)
          rw [Int.toNat_natCast] at e
          rw [e]
          exact Nat.le_refl _
        walk_at "gs"
        refine ⟨m 0, x3, c 0, List.replicate u 0, rfl, duoJ.mem 0 (by decide), MJ, by omega, by omega, by omega, by omega, fun HK kK => ?_⟩
        have duoK := duoJ.kp0 kK
        have hBK := duoK.hB
        walk_at "gs"
        refine ⟨x3, m 1, List.replicate u 0, c 1, rfl, mem_kp0 MJ kK, duoK.mem 1 (by decide), by omega, by omega, by omega, by omega, fun HL kL => ?_⟩
        walk_at "gs"
        refine ⟨_, _, _, _, _, _, _, _, _, _, _, _, _, _, rfl, Kp.trans kp ((Kp.trans kB (Kp.wide (Kp.trans kBE (Kp.trans kHI (Kp.trans kIJ (Kp.trans kK kL)))))).dropAll fr4)⟩
    · rintro σ H' ⟨x1, x2, x3, x4, x5, x6, x7, x8, x9, x10, x11, x12, x13, x14, rfl, kp⟩
      walk_at "gs"
      exact k _
theorem law_end {K : PySem.W.Frag} {H : Hp} {a : Addr} {ns : List Int} (hl : ns.length ≤ 63)
    (_ : ∀ z ∈ ns, Builtin.Int.intBits z ≤ 1048576) (_ : Only H) (hs : SqL K H a (ns.map V.int)) :
    sp_law K [.ref a] H (fun v _ => v = .bl true) fun _ _ _ => False :=
  ⟨a, ns, rfl, hs, hl, fun _ => rfl⟩
theorem all_mk {l : PySem.W.OpenLaw} {w : World} {K : PySem.W.Frag} {h : Heap}
    {mg : Str → Option Value} {fa : Addr} (X : K.In h) (N : h.Ns mainGlobals mg)
    (hfa : mg "law" = some (.ref fa))
    {C0 : Addr} (ac0 : PySem.W.nsIn K mainGlobals "Memory" = some (some (.ref C0)))
    {X0 : Addr} (xm0 : PySem.W.nsIn K mainGlobals "ForkError" = some (some (.ref X0)))
    {X1 : Addr} (xm1 : PySem.W.nsIn K mainGlobals "NoDifference" = some (some (.ref X1)))
    {X2 : Addr} (xm2 : PySem.W.nsIn K mainGlobals "NoSize" = some (some (.ref X2)))
    {X3 : Addr} (xm3 : PySem.W.nsIn K mainGlobals "Unlike" = some (some (.ref X3)))
    {f0 : Addr} {od0 an0 : Option Addr} {sl0 : Array (Option Value)} {oc0 kV0 dc0 pm0 cd0 ct0 : Value}
    {f1 : Addr} {od1 an1 : Option Addr} {sl1 : Array (Option Value)} {oc1 kV1 dc1 pm1 cd1 ct1 : Value}
    {f2 : Addr} {od2 an2 : Option Addr} {sl2 : Array (Option Value)} {oc2 kV2 dc2 pm2 cd2 ct2 : Value}
    {f3 : Addr} {od3 an3 : Option Addr} {sl3 : Array (Option Value)} {oc3 kV3 dc3 pm3 cd3 ct3 : Value}
    {f4 : Addr} {od4 an4 : Option Addr} {sl4 : Array (Option Value)} {oc4 kV4 dc4 pm4 cd4 ct4 : Value}
    {f5 : Addr} {od5 an5 : Option Addr} {sl5 : Array (Option Value)} {oc5 kV5 dc5 pm5 cd5 ct5 : Value}
    {f6 : Addr} {od6 an6 : Option Addr} {sl6 : Array (Option Value)} {oc6 kV6 dc6 pm6 cd6 ct6 : Value}
    {f7 : Addr} {od7 an7 : Option Addr} {sl7 : Array (Option Value)} {oc7 kV7 dc7 pm7 cd7 ct7 : Value}
    {f8 : Addr} {od8 an8 : Option Addr} {sl8 : Array (Option Value)} {oc8 kV8 dc8 pm8 cd8 ct8 : Value}
    {f9 : Addr} {od9 an9 : Option Addr} {sl9 : Array (Option Value)} {oc9 kV9 dc9 pm9 cd9 ct9 : Value}
    {f10 : Addr} {od10 an10 : Option Addr} {sl10 : Array (Option Value)} {oc10 kV10 dc10 pm10 cd10 ct10 : Value}
    {f11 : Addr} {od11 an11 : Option Addr} {sl11 : Array (Option Value)} {oc11 kV11 dc11 pm11 cd11 ct11 : Value}
    {f12 : Addr} {od12 an12 : Option Addr} {sl12 : Array (Option Value)} {oc12 kV12 dc12 pm12 cd12 ct12 : Value}
    {f13 : Addr} {od13 an13 : Option Addr} {sl13 : Array (Option Value)} {oc13 dc13 pm13 cd13 ct13 : Value}
    {f14 : Addr} {od14 an14 : Option Addr} {sl14 : Array (Option Value)} {oc14 kV14 dc14 pm14 cd14 ct14 : Value}
    {f15 : Addr} {od15 an15 : Option Addr} {sl15 : Array (Option Value)} {oc15 kV15 dc15 pm15 cd15 ct15 : Value}
    {f16 : Addr} {od16 an16 : Option Addr} {sl16 : Array (Option Value)} {oc16 kV16 dc16 pm16 cd16 ct16 : Value}
    {f17 : Addr} {od17 an17 : Option Addr} {sl17 : Array (Option Value)} {oc17 kV17 dc17 pm17 cd17 ct17 : Value}
    {f18 : Addr} {od18 an18 : Option Addr} {sl18 : Array (Option Value)} {oc18 kV18 dc18 pm18 cd18 ct18 : Value}
    {f19 : Addr} {od19 an19 : Option Addr} {sl19 : Array (Option Value)} {oc19 kV19 dc19 pm19 cd19 ct19 : Value}
    {f20 : Addr} {od20 an20 : Option Addr} {sl20 : Array (Option Value)} {oc20 dc20 pm20 cd20 ct20 : Value}
    {f21 : Addr} {od21 an21 : Option Addr} {sl21 : Array (Option Value)} {oc21 kV21 dc21 pm21 cd21 ct21 : Value}
    {f22 : Addr} {od22 an22 : Option Addr} {sl22 : Array (Option Value)} {oc22 kV22 dc22 pm22 cd22 ct22 : Value}
    {f23 : Addr} {od23 an23 : Option Addr} {sl23 : Array (Option Value)} {oc23 kV23 dc23 pm23 cd23 ct23 : Value}
    {f24 : Addr} {od24 an24 : Option Addr} {sl24 : Array (Option Value)} {oc24 kV24 dc24 pm24 cd24 ct24 : Value}
    {f25 : Addr} {od25 an25 : Option Addr} {sl25 : Array (Option Value)} {oc25 kV25 dc25 pm25 cd25 ct25 : Value}
    {f26 : Addr} {od26 an26 : Option Addr} {sl26 : Array (Option Value)} {oc26 kV26 dc26 pm26 cd26 ct26 : Value}
    {f27 : Addr} {od27 an27 : Option Addr} {sl27 : Array (Option Value)} {oc27 kV27 dc27 pm27 cd27 ct27 : Value}
    {f28 : Addr} {od28 an28 : Option Addr} {sl28 : Array (Option Value)} {oc28 kV28 dc28 pm28 cd28 ct28 : Value}
    {f29 : Addr} {od29 an29 : Option Addr} {sl29 : Array (Option Value)} {oc29 kV29 dc29 pm29 cd29 ct29 : Value}
    {f30 : Addr} {od30 an30 : Option Addr} {sl30 : Array (Option Value)} {oc30 kV30 dc30 pm30 cd30 ct30 : Value}
    {f31 : Addr} {od31 an31 : Option Addr} {sl31 : Array (Option Value)} {oc31 kV31 dc31 pm31 cd31 ct31 : Value}
    {f32 : Addr} {od32 an32 : Option Addr} {sl32 : Array (Option Value)} {oc32 kV32 dc32 pm32 cd32 ct32 : Value}
    {f33 : Addr} {od33 an33 : Option Addr} {sl33 : Array (Option Value)} {oc33 kV33 dc33 pm33 cd33 ct33 : Value}
    {f34 : Addr} {od34 an34 : Option Addr} {sl34 : Array (Option Value)} {oc34 kV34 dc34 pm34 cd34 ct34 : Value}
    {f35 : Addr} {od35 an35 : Option Addr} {sl35 : Array (Option Value)} {oc35 kV35 dc35 pm35 cd35 ct35 : Value}
    {f36 : Addr} {od36 an36 : Option Addr} {sl36 : Array (Option Value)} {oc36 kV36 dc36 pm36 cd36 ct36 : Value}
    {f37 : Addr} {od37 an37 : Option Addr} {sl37 : Array (Option Value)} {oc37 kV37 dc37 pm37 cd37 ct37 : Value}
    {f38 : Addr} {od38 an38 : Option Addr} {sl38 : Array (Option Value)} {oc38 kV38 dc38 pm38 cd38 ct38 : Value}
    {f39 : Addr} {od39 an39 : Option Addr} {sl39 : Array (Option Value)} {oc39 kV39 dc39 pm39 cd39 ct39 : Value}
    (a0 : PySem.W.nsIn K mainGlobals "is_number" = some (some (.ref f0)))
    (l0 : K.lookup f0 = some ⟨oc0, od0, .func (PySem.W.fnOf "is_number" "is_number" (defArgs s_is_number) (defBody s_is_number)
      (defScope s_is_number) .none kV0 dc0 pm0 an0 cd0 ct0), sl0⟩)
    (c0 : PySem.W.codeIn K cd0 "is_number" = true) (k0 : PySem.W.keepIn K (.ref f0) = true)
    (a1 : PySem.W.nsIn K mainGlobals "is_whole" = some (some (.ref f1)))
    (l1 : K.lookup f1 = some ⟨oc1, od1, .func (PySem.W.fnOf "is_whole" "is_whole" (defArgs s_is_whole) (defBody s_is_whole)
      (defScope s_is_whole) .none kV1 dc1 pm1 an1 cd1 ct1), sl1⟩)
    (c1 : PySem.W.codeIn K cd1 "is_whole" = true) (k1 : PySem.W.keepIn K (.ref f1) = true)
    (a2 : PySem.W.nsIn K mainGlobals "is_size" = some (some (.ref f2)))
    (l2 : K.lookup f2 = some ⟨oc2, od2, .func (PySem.W.fnOf "is_size" "is_size" (defArgs s_is_size) (defBody s_is_size)
      (defScope s_is_size) .none kV2 dc2 pm2 an2 cd2 ct2), sl2⟩)
    (c2 : PySem.W.codeIn K cd2 "is_size" = true) (k2 : PySem.W.keepIn K (.ref f2) = true)
    (a3 : PySem.W.nsIn K mainGlobals "is_run" = some (some (.ref f3)))
    (l3 : K.lookup f3 = some ⟨oc3, od3, .func (PySem.W.fnOf "is_run" "is_run" (defArgs s_is_run) (defBody s_is_run)
      (defScope s_is_run) .none kV3 dc3 pm3 an3 cd3 ct3), sl3⟩)
    (c3 : PySem.W.codeIn K cd3 "is_run" = true) (k3 : PySem.W.keepIn K (.ref f3) = true)
    (a4 : PySem.W.nsIn K mainGlobals "are_runs" = some (some (.ref f4)))
    (l4 : K.lookup f4 = some ⟨oc4, od4, .func (PySem.W.fnOf "are_runs" "are_runs" (defArgs s_are_runs) (defBody s_are_runs)
      (defScope s_are_runs) .none kV4 dc4 pm4 an4 cd4 ct4), sl4⟩)
    (c4 : PySem.W.codeIn K cd4 "are_runs" = true) (k4 : PySem.W.keepIn K (.ref f4) = true)
    (a5 : PySem.W.nsIn K mainGlobals "joined" = some (some (.ref f5)))
    (l5 : K.lookup f5 = some ⟨oc5, od5, .func (PySem.W.fnOf "joined" "joined" (defArgs s_joined) (defBody s_joined)
      (defScope s_joined) .none kV5 dc5 pm5 an5 cd5 ct5), sl5⟩)
    (c5 : PySem.W.codeIn K cd5 "joined" = true) (k5 : PySem.W.keepIn K (.ref f5) = true)
    (a6 : PySem.W.nsIn K mainGlobals "cut_out" = some (some (.ref f6)))
    (l6 : K.lookup f6 = some ⟨oc6, od6, .func (PySem.W.fnOf "cut_out" "cut_out" (defArgs s_cut_out) (defBody s_cut_out)
      (defScope s_cut_out) .none kV6 dc6 pm6 an6 cd6 ct6), sl6⟩)
    (c6 : PySem.W.codeIn K cd6 "cut_out" = true) (k6 : PySem.W.keepIn K (.ref f6) = true)
    (a7 : PySem.W.nsIn K mainGlobals "side_by_side" = some (some (.ref f7)))
    (l7 : K.lookup f7 = some ⟨oc7, od7, .func (PySem.W.fnOf "side_by_side" "side_by_side" (defArgs s_side_by_side) (defBody s_side_by_side)
      (defScope s_side_by_side) .none kV7 dc7 pm7 an7 cd7 ct7), sl7⟩)
    (c7 : PySem.W.codeIn K cd7 "side_by_side" = true) (k7 : PySem.W.keepIn K (.ref f7) = true)
    (a8 : PySem.W.nsIn K mainGlobals "difference" = some (some (.ref f8)))
    (l8 : K.lookup f8 = some ⟨oc8, od8, .func (PySem.W.fnOf "difference" "difference" (defArgs s_difference) (defBody s_difference)
      (defScope s_difference) .none kV8 dc8 pm8 an8 cd8 ct8), sl8⟩)
    (c8 : PySem.W.codeIn K cd8 "difference" = true) (k8 : PySem.W.keepIn K (.ref f8) = true)
    (a9 : PySem.W.nsIn K mainGlobals "want_size" = some (some (.ref f9)))
    (l9 : K.lookup f9 = some ⟨oc9, od9, .func (PySem.W.fnOf "want_size" "want_size" (defArgs s_want_size) (defBody s_want_size)
      (defScope s_want_size) .none kV9 dc9 pm9 an9 cd9 ct9), sl9⟩)
    (c9 : PySem.W.codeIn K cd9 "want_size" = true) (k9 : PySem.W.keepIn K (.ref f9) = true)
    (a10 : PySem.W.nsIn K mainGlobals "want_number" = some (some (.ref f10)))
    (l10 : K.lookup f10 = some ⟨oc10, od10, .func (PySem.W.fnOf "want_number" "want_number" (defArgs s_want_number) (defBody s_want_number)
      (defScope s_want_number) .none kV10 dc10 pm10 an10 cd10 ct10), sl10⟩)
    (c10 : PySem.W.codeIn K cd10 "want_number" = true) (k10 : PySem.W.keepIn K (.ref f10) = true)
    (a11 : PySem.W.nsIn K mainGlobals "want_cell" = some (some (.ref f11)))
    (l11 : K.lookup f11 = some ⟨oc11, od11, .func (PySem.W.fnOf "want_cell" "want_cell" (defArgs s_want_cell) (defBody s_want_cell)
      (defScope s_want_cell) .none kV11 dc11 pm11 an11 cd11 ct11), sl11⟩)
    (c11 : PySem.W.codeIn K cd11 "want_cell" = true) (k11 : PySem.W.keepIn K (.ref f11) = true)
    (a12 : PySem.W.nsIn K mainGlobals "want_stretch" = some (some (.ref f12)))
    (l12 : K.lookup f12 = some ⟨oc12, od12, .func (PySem.W.fnOf "want_stretch" "want_stretch" (defArgs s_want_stretch) (defBody s_want_stretch)
      (defScope s_want_stretch) .none kV12 dc12 pm12 an12 cd12 ct12), sl12⟩)
    (c12 : PySem.W.codeIn K cd12 "want_stretch" = true) (k12 : PySem.W.keepIn K (.ref f12) = true)
    (a13 : PySem.W.findIn K (.ref C0) "__init__" = some (some (.ref f13))) (i13 : PySem.W.isFn K (.ref f13) = true)
    {D13 : Addr}
    (l13 : K.lookup f13 = some ⟨oc13, od13, .func (PySem.W.fnOf "__init__" "Memory.__init__" (defArgs s_Memory_init) (defBody s_Memory_init)
      (defScope s_Memory_init) .none (.ref D13) dc13 pm13 an13 cd13 ct13), sl13⟩)
    (c13 : PySem.W.codeIn K cd13 "Memory.__init__" = true) (k13 : PySem.W.keepIn K (.ref f13) = true)
    {tq13_0 : Tok} (q13_0 : PySem.W.nsIn K D13 "number" = some (some (.int 0 tq13_0)))
    (a14 : PySem.W.findIn K (.ref C0) "size" = some (some (.ref f14))) (i14 : PySem.W.isFn K (.ref f14) = true)
    (l14 : K.lookup f14 = some ⟨oc14, od14, .func (PySem.W.fnOf "size" "Memory.size" (defArgs s_Memory_size) (defBody s_Memory_size)
      (defScope s_Memory_size) .none kV14 dc14 pm14 an14 cd14 ct14), sl14⟩)
    (c14 : PySem.W.codeIn K cd14 "Memory.size" = true) (k14 : PySem.W.keepIn K (.ref f14) = true)
    (a15 : PySem.W.findIn K (.ref C0) "at" = some (some (.ref f15))) (i15 : PySem.W.isFn K (.ref f15) = true)
    (l15 : K.lookup f15 = some ⟨oc15, od15, .func (PySem.W.fnOf "at" "Memory.at" (defArgs s_Memory_at) (defBody s_Memory_at)
      (defScope s_Memory_at) .none kV15 dc15 pm15 an15 cd15 ct15), sl15⟩)
    (c15 : PySem.W.codeIn K cd15 "Memory.at" = true) (k15 : PySem.W.keepIn K (.ref f15) = true)
    (a16 : PySem.W.findIn K (.ref C0) "runs" = some (some (.ref f16))) (i16 : PySem.W.isFn K (.ref f16) = true)
    (l16 : K.lookup f16 = some ⟨oc16, od16, .func (PySem.W.fnOf "runs" "Memory.runs" (defArgs s_Memory_runs) (defBody s_Memory_runs)
      (defScope s_Memory_runs) .none kV16 dc16 pm16 an16 cd16 ct16), sl16⟩)
    (c16 : PySem.W.codeIn K cd16 "Memory.runs" = true) (k16 : PySem.W.keepIn K (.ref f16) = true)
    (a17 : PySem.W.findIn K (.ref C0) "lay" = some (some (.ref f17))) (i17 : PySem.W.isFn K (.ref f17) = true)
    (l17 : K.lookup f17 = some ⟨oc17, od17, .func (PySem.W.fnOf "lay" "Memory.lay" (defArgs s_Memory_lay) (defBody s_Memory_lay)
      (defScope s_Memory_lay) .none kV17 dc17 pm17 an17 cd17 ct17), sl17⟩)
    (c17 : PySem.W.codeIn K cd17 "Memory.lay" = true) (k17 : PySem.W.keepIn K (.ref f17) = true)
    (a18 : PySem.W.findIn K (.ref C0) "put" = some (some (.ref f18))) (i18 : PySem.W.isFn K (.ref f18) = true)
    (l18 : K.lookup f18 = some ⟨oc18, od18, .func (PySem.W.fnOf "put" "Memory.put" (defArgs s_Memory_put) (defBody s_Memory_put)
      (defScope s_Memory_put) .none kV18 dc18 pm18 an18 cd18 ct18), sl18⟩)
    (c18 : PySem.W.codeIn K cd18 "Memory.put" = true) (k18 : PySem.W.keepIn K (.ref f18) = true)
    (a19 : PySem.W.findIn K (.ref C0) "fill" = some (some (.ref f19))) (i19 : PySem.W.isFn K (.ref f19) = true)
    (l19 : K.lookup f19 = some ⟨oc19, od19, .func (PySem.W.fnOf "fill" "Memory.fill" (defArgs s_Memory_fill) (defBody s_Memory_fill)
      (defScope s_Memory_fill) .none kV19 dc19 pm19 an19 cd19 ct19), sl19⟩)
    (c19 : PySem.W.codeIn K cd19 "Memory.fill" = true) (k19 : PySem.W.keepIn K (.ref f19) = true)
    (a20 : PySem.W.findIn K (.ref C0) "bring" = some (some (.ref f20))) (i20 : PySem.W.isFn K (.ref f20) = true)
    {D20 : Addr}
    (l20 : K.lookup f20 = some ⟨oc20, od20, .func (PySem.W.fnOf "bring" "Memory.bring" (defArgs s_Memory_bring) (defBody s_Memory_bring)
      (defScope s_Memory_bring) .none (.ref D20) dc20 pm20 an20 cd20 ct20), sl20⟩)
    (c20 : PySem.W.codeIn K cd20 "Memory.bring" = true) (k20 : PySem.W.keepIn K (.ref f20) = true)
    (q20_0 : PySem.W.nsIn K D20 "source" = some (some .none))
    (a21 : PySem.W.findIn K (.ref C0) "copied" = some (some (.ref f21))) (i21 : PySem.W.isFn K (.ref f21) = true)
    (l21 : K.lookup f21 = some ⟨oc21, od21, .func (PySem.W.fnOf "copied" "Memory.copied" (defArgs s_Memory_copied) (defBody s_Memory_copied)
      (defScope s_Memory_copied) .none kV21 dc21 pm21 an21 cd21 ct21), sl21⟩)
    (c21 : PySem.W.codeIn K cd21 "Memory.copied" = true) (k21 : PySem.W.keepIn K (.ref f21) = true)
    (a22 : PySem.W.findIn K (.ref C0) "__eq__" = some (some (.ref f22))) (i22 : PySem.W.isFn K (.ref f22) = true)
    (l22 : K.lookup f22 = some ⟨oc22, od22, .func (PySem.W.fnOf "__eq__" "Memory.__eq__" (defArgs s_Memory_eq) (defBody s_Memory_eq)
      (defScope s_Memory_eq) .none kV22 dc22 pm22 an22 cd22 ct22), sl22⟩)
    (c22 : PySem.W.codeIn K cd22 "Memory.__eq__" = true) (k22 : PySem.W.keepIn K (.ref f22) = true)
    (a23 : PySem.W.findIn K (.ref C0) "__len__" = some (some (.ref f23))) (i23 : PySem.W.isFn K (.ref f23) = true)
    (l23 : K.lookup f23 = some ⟨oc23, od23, .func (PySem.W.fnOf "__len__" "Memory.__len__" (defArgs s_Memory_len) (defBody s_Memory_len)
      (defScope s_Memory_len) .none kV23 dc23 pm23 an23 cd23 ct23), sl23⟩)
    (c23 : PySem.W.codeIn K cd23 "Memory.__len__" = true) (k23 : PySem.W.keepIn K (.ref f23) = true)
    (a24 : PySem.W.findIn K (.ref C0) "__repr__" = some (some (.ref f24))) (i24 : PySem.W.isFn K (.ref f24) = true)
    (l24 : K.lookup f24 = some ⟨oc24, od24, .func (PySem.W.fnOf "__repr__" "Memory.__repr__" (defArgs s_Memory_repr) (defBody s_Memory_repr)
      (defScope s_Memory_repr) .none kV24 dc24 pm24 an24 cd24 ct24), sl24⟩)
    (c24 : PySem.W.codeIn K cd24 "Memory.__repr__" = true) (k24 : PySem.W.keepIn K (.ref f24) = true)
    (a25 : PySem.W.nsIn K mainGlobals "memory_of" = some (some (.ref f25)))
    (l25 : K.lookup f25 = some ⟨oc25, od25, .func (PySem.W.fnOf "memory_of" "memory_of" (defArgs s_memory_of) (defBody s_memory_of)
      (defScope s_memory_of) .none kV25 dc25 pm25 an25 cd25 ct25), sl25⟩)
    (c25 : PySem.W.codeIn K cd25 "memory_of" = true) (k25 : PySem.W.keepIn K (.ref f25) = true)
    (a26 : PySem.W.nsIn K mainGlobals "_law_pot" = some (some (.ref f26)))
    (l26 : K.lookup f26 = some ⟨oc26, od26, .func (PySem.W.fnOf "_law_pot" "_law_pot" (defArgs s_law_pot) (defBody s_law_pot)
      (defScope s_law_pot) .none kV26 dc26 pm26 an26 cd26 ct26), sl26⟩)
    (c26 : PySem.W.codeIn K cd26 "_law_pot" = true) (k26 : PySem.W.keepIn K (.ref f26) = true)
    (a27 : PySem.W.nsIn K mainGlobals "_law_draw" = some (some (.ref f27)))
    (l27 : K.lookup f27 = some ⟨oc27, od27, .func (PySem.W.fnOf "_law_draw" "_law_draw" (defArgs s_law_draw) (defBody s_law_draw)
      (defScope s_law_draw) .none kV27 dc27 pm27 an27 cd27 ct27), sl27⟩)
    (c27 : PySem.W.codeIn K cd27 "_law_draw" = true) (k27 : PySem.W.keepIn K (.ref f27) = true)
    (a28 : PySem.W.nsIn K mainGlobals "_law_size" = some (some (.ref f28)))
    (l28 : K.lookup f28 = some ⟨oc28, od28, .func (PySem.W.fnOf "_law_size" "_law_size" (defArgs s_law_size) (defBody s_law_size)
      (defScope s_law_size) .none kV28 dc28 pm28 an28 cd28 ct28), sl28⟩)
    (c28 : PySem.W.codeIn K cd28 "_law_size" = true) (k28 : PySem.W.keepIn K (.ref f28) = true)
    (a29 : PySem.W.nsIn K mainGlobals "_law_value" = some (some (.ref f29)))
    (l29 : K.lookup f29 = some ⟨oc29, od29, .func (PySem.W.fnOf "_law_value" "_law_value" (defArgs s_law_value) (defBody s_law_value)
      (defScope s_law_value) .none kV29 dc29 pm29 an29 cd29 ct29), sl29⟩)
    (c29 : PySem.W.codeIn K cd29 "_law_value" = true) (k29 : PySem.W.keepIn K (.ref f29) = true)
    (a30 : PySem.W.nsIn K mainGlobals "_law_place" = some (some (.ref f30)))
    (l30 : K.lookup f30 = some ⟨oc30, od30, .func (PySem.W.fnOf "_law_place" "_law_place" (defArgs s_law_place) (defBody s_law_place)
      (defScope s_law_place) .none kV30 dc30 pm30 an30 cd30 ct30), sl30⟩)
    (c30 : PySem.W.codeIn K cd30 "_law_place" = true) (k30 : PySem.W.keepIn K (.ref f30) = true)
    (a31 : PySem.W.nsIn K mainGlobals "_law_stretch" = some (some (.ref f31)))
    (l31 : K.lookup f31 = some ⟨oc31, od31, .func (PySem.W.fnOf "_law_stretch" "_law_stretch" (defArgs s_law_stretch) (defBody s_law_stretch)
      (defScope s_law_stretch) .none kV31 dc31 pm31 an31 cd31 ct31), sl31⟩)
    (c31 : PySem.W.codeIn K cd31 "_law_stretch" = true) (k31 : PySem.W.keepIn K (.ref f31) = true)
    (a32 : PySem.W.nsIn K mainGlobals "_law_deed" = some (some (.ref f32)))
    (l32 : K.lookup f32 = some ⟨oc32, od32, .func (PySem.W.fnOf "_law_deed" "_law_deed" (defArgs s_law_deed) (defBody s_law_deed)
      (defScope s_law_deed) .none kV32 dc32 pm32 an32 cd32 ct32), sl32⟩)
    (c32 : PySem.W.codeIn K cd32 "_law_deed" = true) (k32 : PySem.W.keepIn K (.ref f32) = true)
    (a33 : PySem.W.nsIn K mainGlobals "_law_had" = some (some (.ref f33)))
    (l33 : K.lookup f33 = some ⟨oc33, od33, .func (PySem.W.fnOf "_law_had" "_law_had" (defArgs s_law_had) (defBody s_law_had)
      (defScope s_law_had) .none kV33 dc33 pm33 an33 cd33 ct33), sl33⟩)
    (c33 : PySem.W.codeIn K cd33 "_law_had" = true) (k33 : PySem.W.keepIn K (.ref f33) = true)
    (a34 : PySem.W.nsIn K mainGlobals "_law_points" = some (some (.ref f34)))
    (l34 : K.lookup f34 = some ⟨oc34, od34, .func (PySem.W.fnOf "_law_points" "_law_points" (defArgs s_law_points) (defBody s_law_points)
      (defScope s_law_points) .none kV34 dc34 pm34 an34 cd34 ct34), sl34⟩)
    (c34 : PySem.W.codeIn K cd34 "_law_points" = true) (k34 : PySem.W.keepIn K (.ref f34) = true)
    (a35 : PySem.W.nsIn K mainGlobals "_law_do" = some (some (.ref f35)))
    (l35 : K.lookup f35 = some ⟨oc35, od35, .func (PySem.W.fnOf "_law_do" "_law_do" (defArgs s_law_do) (defBody s_law_do)
      (defScope s_law_do) .none kV35 dc35 pm35 an35 cd35 ct35), sl35⟩)
    (c35 : PySem.W.codeIn K cd35 "_law_do" = true) (k35 : PySem.W.keepIn K (.ref f35) = true)
    (a36 : PySem.W.nsIn K mainGlobals "_law_written" = some (some (.ref f36)))
    (l36 : K.lookup f36 = some ⟨oc36, od36, .func (PySem.W.fnOf "_law_written" "_law_written" (defArgs s_law_written) (defBody s_law_written)
      (defScope s_law_written) .none kV36 dc36 pm36 an36 cd36 ct36), sl36⟩)
    (c36 : PySem.W.codeIn K cd36 "_law_written" = true) (k36 : PySem.W.keepIn K (.ref f36) = true)
    (a37 : PySem.W.nsIn K mainGlobals "_law_one_cell" = some (some (.ref f37)))
    (l37 : K.lookup f37 = some ⟨oc37, od37, .func (PySem.W.fnOf "_law_one_cell" "_law_one_cell" (defArgs s_law_one_cell) (defBody s_law_one_cell)
      (defScope s_law_one_cell) .none kV37 dc37 pm37 an37 cd37 ct37), sl37⟩)
    (c37 : PySem.W.codeIn K cd37 "_law_one_cell" = true) (k37 : PySem.W.keepIn K (.ref f37) = true)
    (a38 : PySem.W.nsIn K mainGlobals "_law_unlike" = some (some (.ref f38)))
    (l38 : K.lookup f38 = some ⟨oc38, od38, .func (PySem.W.fnOf "_law_unlike" "_law_unlike" (defArgs s_law_unlike) (defBody s_law_unlike)
      (defScope s_law_unlike) .none kV38 dc38 pm38 an38 cd38 ct38), sl38⟩)
    (c38 : PySem.W.codeIn K cd38 "_law_unlike" = true) (k38 : PySem.W.keepIn K (.ref f38) = true)
    (a39 : PySem.W.nsIn K mainGlobals "law" = some (some (.ref f39)))
    (l39 : K.lookup f39 = some ⟨oc39, od39, .func (PySem.W.fnOf "law" "law" (defArgs s_law) (defBody s_law)
      (defScope s_law) .none kV39 dc39 pm39 an39 cd39 ct39), sl39⟩)
    (c39 : PySem.W.codeIn K cd39 "law" = true) (k39 : PySem.W.keepIn K (.ref f39) = true)
    (pg0 : PySem.W.plainGet K C0 Str.empty = true) (hd0 : PySem.W.hasDictIn K C0 = true)
    (po0 : PySem.W.plainOver K C0 = true) (sa0 : PySem.W.findIn K (.ref C0) "__setattr__" = some (some (.builtin "object.__setattr__")))
    (mk0 : PySem.W.makesIn K C0 = true) (kc0 : PySem.W.keepIn K (.ref C0) = true)
    (na0_pairs : PySem.W.findIn K (.ref C0) "pairs" = some none)
    (na0_wide : PySem.W.findIn K (.ref C0) "wide" = some none)
    (qn : PySem.W.specialIn K (.builtin "object.__class__") "__get__" = some (some (.builtin "getset_descriptor.__get__"))) (qt : PySem.W.takesIn K (.builtin "object.__class__") = some true)
    (qa0 : PySem.W.findIn K (.ref X0) "__getattribute__" = some (some (.builtin "BaseException.__getattribute__"))) (qb0 : PySem.W.findIn K (.ref X0) "__getattr__" = some none)
    (qc0 : PySem.W.subIn K (.ref X0) (.type "BaseException") = some true) (qd0 : PySem.W.hasDictIn K X0 = true) (qe0 : PySem.W.findIn K (.ref X0) "__class__" = some (some (.builtin "object.__class__")))
    (qf0 : PySem.W.mroIn K X0 (.type "object") = some true) (qg0 : PySem.W.typeIn K (.ref X0) = some (.type "type"))
    (qa1 : PySem.W.findIn K (.ref X1) "__getattribute__" = some (some (.builtin "BaseException.__getattribute__"))) (qb1 : PySem.W.findIn K (.ref X1) "__getattr__" = some none)
    (qc1 : PySem.W.subIn K (.ref X1) (.type "BaseException") = some true) (qd1 : PySem.W.hasDictIn K X1 = true) (qe1 : PySem.W.findIn K (.ref X1) "__class__" = some (some (.builtin "object.__class__")))
    (qf1 : PySem.W.mroIn K X1 (.type "object") = some true) (qg1 : PySem.W.typeIn K (.ref X1) = some (.type "type"))
    (qa2 : PySem.W.findIn K (.ref X2) "__getattribute__" = some (some (.builtin "BaseException.__getattribute__"))) (qb2 : PySem.W.findIn K (.ref X2) "__getattr__" = some none)
    (qc2 : PySem.W.subIn K (.ref X2) (.type "BaseException") = some true) (qd2 : PySem.W.hasDictIn K X2 = true) (qe2 : PySem.W.findIn K (.ref X2) "__class__" = some (some (.builtin "object.__class__")))
    (qf2 : PySem.W.mroIn K X2 (.type "object") = some true) (qg2 : PySem.W.typeIn K (.ref X2) = some (.type "type"))
    (qa3 : PySem.W.findIn K (.ref X3) "__getattribute__" = some (some (.builtin "BaseException.__getattribute__"))) (qb3 : PySem.W.findIn K (.ref X3) "__getattr__" = some none)
    (qc3 : PySem.W.subIn K (.ref X3) (.type "BaseException") = some true) (qd3 : PySem.W.hasDictIn K X3 = true) (qe3 : PySem.W.findIn K (.ref X3) "__class__" = some (some (.builtin "object.__class__")))
    (qf3 : PySem.W.mroIn K X3 (.type "object") = some true) (qg3 : PySem.W.typeIn K (.ref X3) = some (.type "type"))
    (qk3 : PySem.W.keepIn K (.ref X3) = true)
    (qx3 : PySem.W.excIn K X3 [.type "ValueError", .type "Exception", .type "BaseException", .type "object"] "ValueError.__new__" = true)
    (qs3_0 : PySem.W.subIn K (.ref X3) (.ref X0) = some true)
    (qs3_1 : PySem.W.subIn K (.ref X3) (.ref X1) = some false)
    (qs3_2 : PySem.W.subIn K (.ref X3) (.ref X2) = some false)
    (qs3_3 : PySem.W.subIn K (.ref X3) (.ref X3) = some true)
    (qs3_ValueError : PySem.W.subIn K (.ref X3) (.type "ValueError") = some true)
    (on : PySem.W.specialIn K (.builtin "object.__class__") "__get__" = some (some (.builtin "getset_descriptor.__get__"))) (ot : PySem.W.takesIn K (.builtin "object.__class__") = some true)
    (oa0 : PySem.W.findIn K (.ref C0) "__class__" = some (some (.builtin "object.__class__"))) (om0 : PySem.W.mroIn K C0 (.type "object") = some true)
    (oc0_ : PySem.W.isClsIn K C0 = true) (oy0 : PySem.W.typeIn K (.ref C0) = some (.type "type"))
    (nn0 : PySem.W.findIn K (.ref C0) "__ne__" = some (some (.builtin "object.__ne__")))
    {t_LARGEST : Tok} (g_LARGEST : PySem.W.nsIn K mainGlobals "LARGEST" = some (some (.int 1000000000000000000 t_LARGEST)))
    (z_ValueError : PySem.W.nsIn K mainGlobals "ValueError" = some none)
    (z_abs : PySem.W.nsIn K mainGlobals "abs" = some none)
    (z_all : PySem.W.nsIn K mainGlobals "all" = some none)
    (z_any : PySem.W.nsIn K mainGlobals "any" = some none)
    (z_bool : PySem.W.nsIn K mainGlobals "bool" = some none)
    (z_dict : PySem.W.nsIn K mainGlobals "dict" = some none)
    (z_divmod : PySem.W.nsIn K mainGlobals "divmod" = some none)
    (z_int : PySem.W.nsIn K mainGlobals "int" = some none)
    (z_isinstance : PySem.W.nsIn K mainGlobals "isinstance" = some none)
    (z_len : PySem.W.nsIn K mainGlobals "len" = some none)
    (z_list : PySem.W.nsIn K mainGlobals "list" = some none)
    (z_max : PySem.W.nsIn K mainGlobals "max" = some none)
    (z_min : PySem.W.nsIn K mainGlobals "min" = some none)
    (z_range : PySem.W.nsIn K mainGlobals "range" = some none)
    (z_repr : PySem.W.nsIn K mainGlobals "repr" = some none)
    (z_sorted : PySem.W.nsIn K mainGlobals "sorted" = some none)
    (z_sum : PySem.W.nsIn K mainGlobals "sum" = some none)
    (z_tuple : PySem.W.nsIn K mainGlobals "tuple" = some none)
    (z_zip : PySem.W.nsIn K mainGlobals "zip" = some none)
    : ∃ fd : FuncData, (∀ (s : Shared) (v : Value), BindsTo s fd ⟨[v], []⟩ [("_law_script", v)]) ∧
      ∀ base : Heap, K.In base → base.Ns mainGlobals mg →
        FnG l.prog w K mg base 9 fa fd ["_law_script"] (sp_law K) := by
  have e := hfa.symm.trans (PySem.W.mg_of X N a39)
  cases e
  have F0 := fund0 (st := s_is_number) l0 c0 k0
  have b0 := bindN (ps := ["thing"]) F0 fun _ _ _ _ _ _ us hl => match us, hl with | [_], _ => rfl
  have F1 := fund0 (st := s_is_whole) l1 c1 k1
  have b1 := bindN (ps := ["thing", "least", "most"]) F1 fun _ _ _ _ _ _ us hl => match us, hl with | [_, _, _], _ => rfl
  have F2 := fund0 (st := s_is_size) l2 c2 k2
  have b2 := bindN (ps := ["thing"]) F2 fun _ _ _ _ _ _ us hl => match us, hl with | [_], _ => rfl
  have F3 := fund0 (st := s_is_run) l3 c3 k3
  have b3 := bindN (ps := ["thing"]) F3 fun _ _ _ _ _ _ us hl => match us, hl with | [_], _ => rfl
  have F4 := fund0 (st := s_are_runs) l4 c4 k4
  have b4 := bindN (ps := ["thing", "size"]) F4 fun _ _ _ _ _ _ us hl => match us, hl with | [_, _], _ => rfl
  have F5 := fund0 (st := s_joined) l5 c5 k5
  have b5 := bindN (ps := ["pairs"]) F5 fun _ _ _ _ _ _ us hl => match us, hl with | [_], _ => rfl
  have F6 := fund0 (st := s_cut_out) l6 c6 k6
  have b6 := bindN (ps := ["pairs", "begin", "end"]) F6 fun _ _ _ _ _ _ us hl => match us, hl with | [_, _, _], _ => rfl
  have F7 := fund0 (st := s_side_by_side) l7 c7 k7
  have b7 := bindN (ps := ["some", "others"]) F7 fun _ _ _ _ _ _ us hl => match us, hl with | [_, _], _ => rfl
  have F8 := fund0 (st := s_difference) l8 c8 k8
  have b8 := bindN (ps := ["one", "other"]) F8 fun _ _ _ _ _ _ us hl => match us, hl with | [_, _], _ => rfl
  have F9 := fund0 (st := s_want_size) l9 c9 k9
  have b9 := bindN (ps := ["thing"]) F9 fun _ _ _ _ _ _ us hl => match us, hl with | [_], _ => rfl
  have F10 := fund0 (st := s_want_number) l10 c10 k10
  have b10 := bindN (ps := ["thing"]) F10 fun _ _ _ _ _ _ us hl => match us, hl with | [_], _ => rfl
  have F11 := fund0 (st := s_want_cell) l11 c11 k11
  have b11 := bindN (ps := ["thing", "size"]) F11 fun _ _ _ _ _ _ us hl => match us, hl with | [_, _], _ => rfl
  have F12 := fund0 (st := s_want_stretch) l12 c12 k12
  have b12 := bindN (ps := ["begin", "end", "size"]) F12 fun _ _ _ _ _ _ us hl => match us, hl with | [_, _, _], _ => rfl
  have F13 := fund1 (st := s_Memory_init) (kws := ([("number", V.int 0)] : List (Str × V))) l13 c13 k13 (kw_more q13_0 ⟨_, rfl⟩ (fun q hq => nomatch hq))
  have b13 := bindK (ps := ["self", "size", "number"]) F13 2 (by simp) rfl fun _ _ _ _ _ _ us ks h1 h2 => match us, ks, h1, h2 with | [_, _], [_], _, _ => ⟨_, _, _, _, _, _, rfl, rfl, rfl⟩
  have F14 := fund0 (st := s_Memory_size) l14 c14 k14
  have b14 := bindN (ps := ["self"]) F14 fun _ _ _ _ _ _ us hl => match us, hl with | [_], _ => rfl
  have F15 := fund0 (st := s_Memory_at) l15 c15 k15
  have b15 := bindN (ps := ["self", "cell"]) F15 fun _ _ _ _ _ _ us hl => match us, hl with | [_, _], _ => rfl
  have F16 := fund0 (st := s_Memory_runs) l16 c16 k16
  have b16 := bindN (ps := ["self"]) F16 fun _ _ _ _ _ _ us hl => match us, hl with | [_], _ => rfl
  have F17 := fund0 (st := s_Memory_lay) l17 c17 k17
  have b17 := bindN (ps := ["self", "begin", "pairs", "end"]) F17 fun _ _ _ _ _ _ us hl => match us, hl with | [_, _, _, _], _ => rfl
  have F18 := fund0 (st := s_Memory_put) l18 c18 k18
  have b18 := bindN (ps := ["self", "cell", "number"]) F18 fun _ _ _ _ _ _ us hl => match us, hl with | [_, _, _], _ => rfl
  have F19 := fund0 (st := s_Memory_fill) l19 c19 k19
  have b19 := bindN (ps := ["self", "begin", "end", "number"]) F19 fun _ _ _ _ _ _ us hl => match us, hl with | [_, _, _, _], _ => rfl
  have F20 := fund1 (st := s_Memory_bring) (kws := ([("source", V.non)] : List (Str × V))) l20 c20 k20 (kw_more q20_0 rfl (fun q hq => nomatch hq))
  have b20 := bindK (ps := ["self", "begin", "end", "to", "source"]) F20 4 (by simp) rfl fun _ _ _ _ _ _ us ks h1 h2 => match us, ks, h1, h2 with | [_, _, _, _], [_], _, _ => ⟨_, _, _, _, _, _, rfl, rfl, rfl⟩
  have F21 := fund0 (st := s_Memory_copied) l21 c21 k21
  have b21 := bindN (ps := ["self"]) F21 fun _ _ _ _ _ _ us hl => match us, hl with | [_], _ => rfl
  have F22 := fund0 (st := s_Memory_eq) l22 c22 k22
  have b22 := bindN (ps := ["self", "other"]) F22 fun _ _ _ _ _ _ us hl => match us, hl with | [_, _], _ => rfl
  have F23 := fund0 (st := s_Memory_len) l23 c23 k23
  have b23 := bindN (ps := ["self"]) F23 fun _ _ _ _ _ _ us hl => match us, hl with | [_], _ => rfl
  have F24 := fund0 (st := s_Memory_repr) l24 c24 k24
  have b24 := bindN (ps := ["self"]) F24 fun _ _ _ _ _ _ us hl => match us, hl with | [_], _ => rfl
  have F25 := fund0 (st := s_memory_of) l25 c25 k25
  have b25 := bindN (ps := ["runs"]) F25 fun _ _ _ _ _ _ us hl => match us, hl with | [_], _ => rfl
  have F26 := fund0 (st := s_law_pot) l26 c26 k26
  have b26 := bindN (ps := ["_law_script", "_law_k"]) F26 fun _ _ _ _ _ _ us hl => match us, hl with | [_, _], _ => rfl
  have F27 := fund0 (st := s_law_draw) l27 c27 k27
  have b27 := bindN (ps := ["_law_pot_here", "_law_many"]) F27 fun _ _ _ _ _ _ us hl => match us, hl with | [_, _], _ => rfl
  have F28 := fund0 (st := s_law_size) l28 c28 k28
  have b28 := bindN (ps := ["_law_pot_here"]) F28 fun _ _ _ _ _ _ us hl => match us, hl with | [_], _ => rfl
  have F29 := fund0 (st := s_law_value) l29 c29 k29
  have b29 := bindN (ps := ["_law_pot_here"]) F29 fun _ _ _ _ _ _ us hl => match us, hl with | [_], _ => rfl
  have F30 := fund0 (st := s_law_place) l30 c30 k30
  have b30 := bindN (ps := ["_law_pot_here", "_law_most"]) F30 fun _ _ _ _ _ _ us hl => match us, hl with | [_, _], _ => rfl
  have F31 := fund0 (st := s_law_stretch) l31 c31 k31
  have b31 := bindN (ps := ["_law_pot_here", "_law_most"]) F31 fun _ _ _ _ _ _ us hl => match us, hl with | [_, _], _ => rfl
  have F32 := fund0 (st := s_law_deed) l32 c32 k32
  have b32 := bindN (ps := ["_law_pot_here", "_law_wide"]) F32 fun _ _ _ _ _ _ us hl => match us, hl with | [_, _], _ => rfl
  have F33 := fund0 (st := s_law_had) l33 c33 k33
  have b33 := bindN (ps := ["_law_deeds", "_law_firsts", "_law_which", "_law_cell_at"]) F33 fun _ _ _ _ _ _ us hl => match us, hl with | [_, _, _, _], _ => rfl
  have F34 := fund0 (st := s_law_points) l34 c34 k34
  have b34 := bindN (ps := ["_law_deeds", "_law_wide"]) F34 fun _ _ _ _ _ _ us hl => match us, hl with | [_, _], _ => rfl
  have F35 := fund0 (st := s_law_do) l35 c35 k35
  have b35 := bindN (ps := ["_law_both", "_law_deed_here"]) F35 fun _ _ _ _ _ _ us hl => match us, hl with | [_, _], _ => rfl
  have F36 := fund0 (st := s_law_written) l36 c36 k36
  have b36 := bindN (ps := ["_law_deeds", "_law_firsts", "_law_wide", "_law_which", "_law_then_which"]) F36 fun _ _ _ _ _ _ us hl => match us, hl with | [_, _, _, _, _], _ => rfl
  have F37 := fund0 (st := s_law_one_cell) l37 c37 k37
  have b37 := bindN (ps := ["_law_pot_here", "_law_wide"]) F37 fun _ _ _ _ _ _ us hl => match us, hl with | [_, _], _ => rfl
  have F38 := fund0 (st := s_law_unlike) l38 c38 k38
  have b38 := bindN (ps := ["_law_one", "_law_other"]) F38 fun _ _ _ _ _ _ us hl => match us, hl with | [_, _], _ => rfl
  have F39 := fund0 (st := s_law) l39 c39 k39
  have b39 := bindN (ps := ["_law_script"]) F39 fun _ _ _ _ _ _ us hl => match us, hl with | [_], _ => rfl
  let T : Txt K mg := {
    c_Memory := C0, cl_Memory := ⟨pg0, hd0, po0, sa0⟩, mg_Memory := PySem.W.mg_of X N ac0
    na_Memory_pairs := na0_pairs
    na_Memory_wide := na0_wide
    ic_Memory := ⟨⟨pg0, hd0, po0, sa0⟩, oa0, on, ot, om0, kit_me⟩
    ot_Memory := by
      intro n hn
      simp only [tyNames, List.mem_cons, List.not_mem_nil, or_false] at hn
      rcases hn with rfl | rfl | rfl | rfl | rfl | rfl | rfl
      · exact kit_other oc0_ oy0 (by kernel_rfl)
      · exact kit_other oc0_ oy0 (by kernel_rfl)
      · exact kit_other oc0_ oy0 (by kernel_rfl)
      · exact kit_other oc0_ oy0 (by kernel_rfl)
      · exact kit_other oc0_ oy0 (by kernel_rfl)
      · exact kit_other oc0_ oy0 (by kernel_rfl)
      · exact kit_other oc0_ oy0 (by kernel_rfl)
    ne_Memory := nn0
    x_ForkError := X0, mx_ForkError := PySem.W.mg_of X N xm0, ec_ForkError := ⟨qa0, qb0, qc0, qd0, qe0, qn, qt, qf0⟩, et_ForkError := qg0
    x_NoDifference := X1, mx_NoDifference := PySem.W.mg_of X N xm1, ec_NoDifference := ⟨qa1, qb1, qc1, qd1, qe1, qn, qt, qf1⟩, et_NoDifference := qg1
    x_NoSize := X2, mx_NoSize := PySem.W.mg_of X N xm2, ec_NoSize := ⟨qa2, qb2, qc2, qd2, qe2, qn, qt, qf2⟩, et_NoSize := qg2
    x_Unlike := X3, mx_Unlike := PySem.W.mg_of X N xm3, ec_Unlike := ⟨qa3, qb3, qc3, qd3, qe3, qn, qt, qf3⟩, et_Unlike := qg3
    ek_Unlike := qk3
    en_Unlike := qx3
    is_Unlike_ForkError := qs3_0
    is_Unlike_NoDifference := qs3_1
    is_Unlike_NoSize := qs3_2
    is_Unlike_Unlike := qs3_3
    is_Unlike_ValueError := qs3_ValueError
    a_is_number := _, d_is_number := _, F_is_number := F0, b_is_number := b0, m_is_number := PySem.W.mg_of X N a0
    a_is_whole := _, d_is_whole := _, F_is_whole := F1, b_is_whole := b1, m_is_whole := PySem.W.mg_of X N a1
    a_is_size := _, d_is_size := _, F_is_size := F2, b_is_size := b2, m_is_size := PySem.W.mg_of X N a2
    a_is_run := _, d_is_run := _, F_is_run := F3, b_is_run := b3, m_is_run := PySem.W.mg_of X N a3
    a_are_runs := _, d_are_runs := _, F_are_runs := F4, b_are_runs := b4, m_are_runs := PySem.W.mg_of X N a4
    a_joined := _, d_joined := _, F_joined := F5, b_joined := b5, m_joined := PySem.W.mg_of X N a5
    a_cut_out := _, d_cut_out := _, F_cut_out := F6, b_cut_out := b6, m_cut_out := PySem.W.mg_of X N a6
    a_side_by_side := _, d_side_by_side := _, F_side_by_side := F7, b_side_by_side := b7, m_side_by_side := PySem.W.mg_of X N a7
    a_difference := _, d_difference := _, F_difference := F8, b_difference := b8, m_difference := PySem.W.mg_of X N a8
    a_want_size := _, d_want_size := _, F_want_size := F9, b_want_size := b9, m_want_size := PySem.W.mg_of X N a9
    a_want_number := _, d_want_number := _, F_want_number := F10, b_want_number := b10, m_want_number := PySem.W.mg_of X N a10
    a_want_cell := _, d_want_cell := _, F_want_cell := F11, b_want_cell := b11, m_want_cell := PySem.W.mg_of X N a11
    a_want_stretch := _, d_want_stretch := _, F_want_stretch := F12, b_want_stretch := b12, m_want_stretch := PySem.W.mg_of X N a12
    a_Memory_init := _, d_Memory_init := _, F_Memory_init := F13, b_Memory_init := b13, mk_Memory := ⟨mk0, a13, i13, kc0⟩
    a_Memory_size := _, d_Memory_size := _, F_Memory_size := F14, b_Memory_size := b14, me_Memory_size := ⟨a14, i14, k14⟩
    a_Memory_at := _, d_Memory_at := _, F_Memory_at := F15, b_Memory_at := b15, me_Memory_at := ⟨a15, i15, k15⟩
    a_Memory_runs := _, d_Memory_runs := _, F_Memory_runs := F16, b_Memory_runs := b16, me_Memory_runs := ⟨a16, i16, k16⟩
    a_Memory_lay := _, d_Memory_lay := _, F_Memory_lay := F17, b_Memory_lay := b17, me_Memory_lay := ⟨a17, i17, k17⟩
    a_Memory_put := _, d_Memory_put := _, F_Memory_put := F18, b_Memory_put := b18, me_Memory_put := ⟨a18, i18, k18⟩
    a_Memory_fill := _, d_Memory_fill := _, F_Memory_fill := F19, b_Memory_fill := b19, me_Memory_fill := ⟨a19, i19, k19⟩
    a_Memory_bring := _, d_Memory_bring := _, F_Memory_bring := F20, b_Memory_bring := b20, me_Memory_bring := ⟨a20, i20, k20⟩
    a_Memory_copied := _, d_Memory_copied := _, F_Memory_copied := F21, b_Memory_copied := b21, me_Memory_copied := ⟨a21, i21, k21⟩
    a_Memory_eq := _, d_Memory_eq := _, F_Memory_eq := F22, b_Memory_eq := b22, me_Memory_eq := ⟨a22, i22, k22⟩
    a_Memory_len := _, d_Memory_len := _, F_Memory_len := F23, b_Memory_len := b23, me_Memory_len := ⟨a23, i23, k23⟩
    a_Memory_repr := _, d_Memory_repr := _, F_Memory_repr := F24, b_Memory_repr := b24, me_Memory_repr := ⟨a24, i24, k24⟩
    a_memory_of := _, d_memory_of := _, F_memory_of := F25, b_memory_of := b25, m_memory_of := PySem.W.mg_of X N a25
    a_law_pot := _, d_law_pot := _, F_law_pot := F26, b_law_pot := b26, m_law_pot := PySem.W.mg_of X N a26
    a_law_draw := _, d_law_draw := _, F_law_draw := F27, b_law_draw := b27, m_law_draw := PySem.W.mg_of X N a27
    a_law_size := _, d_law_size := _, F_law_size := F28, b_law_size := b28, m_law_size := PySem.W.mg_of X N a28
    a_law_value := _, d_law_value := _, F_law_value := F29, b_law_value := b29, m_law_value := PySem.W.mg_of X N a29
    a_law_place := _, d_law_place := _, F_law_place := F30, b_law_place := b30, m_law_place := PySem.W.mg_of X N a30
    a_law_stretch := _, d_law_stretch := _, F_law_stretch := F31, b_law_stretch := b31, m_law_stretch := PySem.W.mg_of X N a31
    a_law_deed := _, d_law_deed := _, F_law_deed := F32, b_law_deed := b32, m_law_deed := PySem.W.mg_of X N a32
    a_law_had := _, d_law_had := _, F_law_had := F33, b_law_had := b33, m_law_had := PySem.W.mg_of X N a33
    a_law_points := _, d_law_points := _, F_law_points := F34, b_law_points := b34, m_law_points := PySem.W.mg_of X N a34
    a_law_do := _, d_law_do := _, F_law_do := F35, b_law_do := b35, m_law_do := PySem.W.mg_of X N a35
    a_law_written := _, d_law_written := _, F_law_written := F36, b_law_written := b36, m_law_written := PySem.W.mg_of X N a36
    a_law_one_cell := _, d_law_one_cell := _, F_law_one_cell := F37, b_law_one_cell := b37, m_law_one_cell := PySem.W.mg_of X N a37
    a_law_unlike := _, d_law_unlike := _, F_law_unlike := F38, b_law_unlike := b38, m_law_unlike := PySem.W.mg_of X N a38
    a_law := _, d_law := _, F_law := F39, b_law := b39, m_law := PySem.W.mg_of X N a39
    kb_Memory_bring_4_source := kbK (ps := ["self", "begin", "end", "to", "source"]) F20 4 ["source"] ([] : List (Str × V)) [0] (by simp) (by simp) fun _ _ _ _ _ _ us mv ws h1 h2 h3 => match us, mv, ws, h1, h2, h3 with | [_, _, _, _], [], [_], _, _, _ => rfl
    kb_Memory_init_2_number := kbK (ps := ["self", "size", "number"]) F13 2 ["number"] ([] : List (Str × V)) [0] (by simp) (by simp) fun _ _ _ _ _ _ us mv ws h1 h2 h3 => match us, mv, ws, h1, h2, h3 with | [_, _], [], [_], _, _, _ => rfl
    t_LARGEST := _, g_LARGEST := PySem.W.mg_of X N g_LARGEST
    n_ValueError := PySem.W.mg_none_of X N z_ValueError
    n_abs := PySem.W.mg_none_of X N z_abs
    n_all := PySem.W.mg_none_of X N z_all
    n_any := PySem.W.mg_none_of X N z_any
    n_bool := PySem.W.mg_none_of X N z_bool
    n_dict := PySem.W.mg_none_of X N z_dict
    n_divmod := PySem.W.mg_none_of X N z_divmod
    n_int := PySem.W.mg_none_of X N z_int
    n_isinstance := PySem.W.mg_none_of X N z_isinstance
    n_len := PySem.W.mg_none_of X N z_len
    n_list := PySem.W.mg_none_of X N z_list
    n_max := PySem.W.mg_none_of X N z_max
    n_min := PySem.W.mg_none_of X N z_min
    n_range := PySem.W.mg_none_of X N z_range
    n_repr := PySem.W.mg_none_of X N z_repr
    n_sorted := PySem.W.mg_none_of X N z_sorted
    n_sum := PySem.W.mg_none_of X N z_sum
    n_tuple := PySem.W.mg_none_of X N z_tuple
    n_zip := PySem.W.mg_none_of X N z_zip
  }
  refine ⟨_, fun s v => .of_eq rfl, fun base _ _ => ok_law T⟩
end My
open PySem PySem.W PyProof.Rows in
set_option maxRecDepth 100000 in
set_option maxHeartbeats 0 in
theorem PySem.Challenge.cw_forkthrift_k17_whole_differences_holds : PySem.Challenge.rw_forkthrift_k17_whole_differences.Holds := by
  w_on; o_law; k_head; (case hw => w_witness2)
  k_fill
  refine G.walkG (l := PySem.Challenge.rw_forkthrift_k17_whole_differences) (sp := My.sp_law) (x := "_law_script") (n := 63) (k := 9) rfl (by decide) rfl ⟨rfl, by decide, by decide⟩ (fun w h Y => PySem.W.kIn_of Y) ?F ?S
  case S => exact fun K H a ns hl hb ho hs => My.law_end hl hb ho hs
  case F =>
    intro w mg fa h KX N hmg
    refine' My.all_mk KX N hmg ?ac0 ?xm0 ?xm1 ?xm2 ?xm3 ?a0 ?l0 ?c0 ?k0 ?a1 ?l1 ?c1 ?k1 ?a2 ?l2 ?c2 ?k2 ?a3 ?l3 ?c3 ?k3 ?a4 ?l4 ?c4 ?k4 ?a5 ?l5 ?c5 ?k5 ?a6 ?l6 ?c6 ?k6 ?a7 ?l7 ?c7 ?k7 ?a8 ?l8 ?c8 ?k8 ?a9 ?l9 ?c9 ?k9 ?a10 ?l10 ?c10 ?k10 ?a11 ?l11 ?c11 ?k11 ?a12 ?l12 ?c12 ?k12 ?a13 ?i13 ?l13 ?c13 ?k13 ?q13_0 ?a14 ?i14 ?l14 ?c14 ?k14 ?a15 ?i15 ?l15 ?c15 ?k15 ?a16 ?i16 ?l16 ?c16 ?k16 ?a17 ?i17 ?l17 ?c17 ?k17 ?a18 ?i18 ?l18 ?c18 ?k18 ?a19 ?i19 ?l19 ?c19 ?k19 ?a20 ?i20 ?l20 ?c20 ?k20 ?q20_0 ?a21 ?i21 ?l21 ?c21 ?k21 ?a22 ?i22 ?l22 ?c22 ?k22 ?a23 ?i23 ?l23 ?c23 ?k23 ?a24 ?i24 ?l24 ?c24 ?k24 ?a25 ?l25 ?c25 ?k25 ?a26 ?l26 ?c26 ?k26 ?a27 ?l27 ?c27 ?k27 ?a28 ?l28 ?c28 ?k28 ?a29 ?l29 ?c29 ?k29 ?a30 ?l30 ?c30 ?k30 ?a31 ?l31 ?c31 ?k31 ?a32 ?l32 ?c32 ?k32 ?a33 ?l33 ?c33 ?k33 ?a34 ?l34 ?c34 ?k34 ?a35 ?l35 ?c35 ?k35 ?a36 ?l36 ?c36 ?k36 ?a37 ?l37 ?c37 ?k37 ?a38 ?l38 ?c38 ?k38 ?a39 ?l39 ?c39 ?k39 ?pg0 ?hd0 ?po0 ?sa0 ?mk0 ?kc0 ?na0_pairs ?na0_wide ?qn ?qt ?qa0 ?qb0 ?qc0 ?qd0 ?qe0 ?qf0 ?qg0 ?qa1 ?qb1 ?qc1 ?qd1 ?qe1 ?qf1 ?qg1 ?qa2 ?qb2 ?qc2 ?qd2 ?qe2 ?qf2 ?qg2 ?qa3 ?qb3 ?qc3 ?qd3 ?qe3 ?qf3 ?qg3 ?qk3 ?qx3 ?qs3_0 ?qs3_1 ?qs3_2 ?qs3_3 ?qs3_ValueError ?on ?ot ?oa0 ?om0 ?oc0_ ?oy0 ?nn0 ?g_LARGEST ?z_ValueError ?z_abs ?z_all ?z_any ?z_bool ?z_dict ?z_divmod ?z_int ?z_isinstance ?z_len ?z_list ?z_max ?z_min ?z_range ?z_repr ?z_sorted ?z_sum ?z_tuple ?z_zip
    (case ac0 => k_is)
    (case xm0 => k_is)
    (case xm1 => k_is)
    (case xm2 => k_is)
    (case xm3 => k_is)
    (case a0 => k_is)
    (case l0 => k_is)
    (case c0 => k_is)
    (case k0 => k_is)
    (case a1 => k_is)
    (case l1 => k_is)
    (case c1 => k_is)
    (case k1 => k_is)
    (case a2 => k_is)
    (case l2 => k_is)
    (case c2 => k_is)
    (case k2 => k_is)
    (case a3 => k_is)
    (case l3 => k_is)
    (case c3 => k_is)
    (case k3 => k_is)
    (case a4 => k_is)
    (case l4 => k_is)
    (case c4 => k_is)
    (case k4 => k_is)
    (case a5 => k_is)
    (case l5 => k_is)
    (case c5 => k_is)
    (case k5 => k_is)
    (case a6 => k_is)
    (case l6 => k_is)
    (case c6 => k_is)
    (case k6 => k_is)
    (case a7 => k_is)
    (case l7 => k_is)
    (case c7 => k_is)
    (case k7 => k_is)
    (case a8 => k_is)
    (case l8 => k_is)
    (case c8 => k_is)
    (case k8 => k_is)
    (case a9 => k_is)
    (case l9 => k_is)
    (case c9 => k_is)
    (case k9 => k_is)
    (case a10 => k_is)
    (case l10 => k_is)
    (case c10 => k_is)
    (case k10 => k_is)
    (case a11 => k_is)
    (case l11 => k_is)
    (case c11 => k_is)
    (case k11 => k_is)
    (case a12 => k_is)
    (case l12 => k_is)
    (case c12 => k_is)
    (case k12 => k_is)
    (case a13 => k_is)
    (case i13 => k_is)
    (case l13 => k_is)
    (case c13 => k_is)
    (case k13 => k_is)
    (case q13_0 => k_is)
    (case a14 => k_is)
    (case i14 => k_is)
    (case l14 => k_is)
    (case c14 => k_is)
    (case k14 => k_is)
    (case a15 => k_is)
    (case i15 => k_is)
    (case l15 => k_is)
    (case c15 => k_is)
    (case k15 => k_is)
    (case a16 => k_is)
    (case i16 => k_is)
    (case l16 => k_is)
    (case c16 => k_is)
    (case k16 => k_is)
    (case a17 => k_is)
    (case i17 => k_is)
    (case l17 => k_is)
    (case c17 => k_is)
    (case k17 => k_is)
    (case a18 => k_is)
    (case i18 => k_is)
    (case l18 => k_is)
    (case c18 => k_is)
    (case k18 => k_is)
    (case a19 => k_is)
    (case i19 => k_is)
    (case l19 => k_is)
    (case c19 => k_is)
    (case k19 => k_is)
    (case a20 => k_is)
    (case i20 => k_is)
    (case l20 => k_is)
    (case c20 => k_is)
    (case k20 => k_is)
    (case q20_0 => k_is)
    (case a21 => k_is)
    (case i21 => k_is)
    (case l21 => k_is)
    (case c21 => k_is)
    (case k21 => k_is)
    (case a22 => k_is)
    (case i22 => k_is)
    (case l22 => k_is)
    (case c22 => k_is)
    (case k22 => k_is)
    (case a23 => k_is)
    (case i23 => k_is)
    (case l23 => k_is)
    (case c23 => k_is)
    (case k23 => k_is)
    (case a24 => k_is)
    (case i24 => k_is)
    (case l24 => k_is)
    (case c24 => k_is)
    (case k24 => k_is)
    (case a25 => k_is)
    (case l25 => k_is)
    (case c25 => k_is)
    (case k25 => k_is)
    (case a26 => k_is)
    (case l26 => k_is)
    (case c26 => k_is)
    (case k26 => k_is)
    (case a27 => k_is)
    (case l27 => k_is)
    (case c27 => k_is)
    (case k27 => k_is)
    (case a28 => k_is)
    (case l28 => k_is)
    (case c28 => k_is)
    (case k28 => k_is)
    (case a29 => k_is)
    (case l29 => k_is)
    (case c29 => k_is)
    (case k29 => k_is)
    (case a30 => k_is)
    (case l30 => k_is)
    (case c30 => k_is)
    (case k30 => k_is)
    (case a31 => k_is)
    (case l31 => k_is)
    (case c31 => k_is)
    (case k31 => k_is)
    (case a32 => k_is)
    (case l32 => k_is)
    (case c32 => k_is)
    (case k32 => k_is)
    (case a33 => k_is)
    (case l33 => k_is)
    (case c33 => k_is)
    (case k33 => k_is)
    (case a34 => k_is)
    (case l34 => k_is)
    (case c34 => k_is)
    (case k34 => k_is)
    (case a35 => k_is)
    (case l35 => k_is)
    (case c35 => k_is)
    (case k35 => k_is)
    (case a36 => k_is)
    (case l36 => k_is)
    (case c36 => k_is)
    (case k36 => k_is)
    (case a37 => k_is)
    (case l37 => k_is)
    (case c37 => k_is)
    (case k37 => k_is)
    (case a38 => k_is)
    (case l38 => k_is)
    (case c38 => k_is)
    (case k38 => k_is)
    (case a39 => k_is)
    (case l39 => k_is)
    (case c39 => k_is)
    (case k39 => k_is)
    (case pg0 => k_is)
    (case hd0 => k_is)
    (case po0 => k_is)
    (case sa0 => k_is)
    (case mk0 => k_is)
    (case kc0 => k_is)
    (case na0_pairs => k_is)
    (case na0_wide => k_is)
    (case qn => k_is)
    (case qt => k_is)
    (case qa0 => k_is)
    (case qb0 => k_is)
    (case qc0 => k_is)
    (case qd0 => k_is)
    (case qe0 => k_is)
    (case qf0 => k_is)
    (case qg0 => k_is)
    (case qa1 => k_is)
    (case qb1 => k_is)
    (case qc1 => k_is)
    (case qd1 => k_is)
    (case qe1 => k_is)
    (case qf1 => k_is)
    (case qg1 => k_is)
    (case qa2 => k_is)
    (case qb2 => k_is)
    (case qc2 => k_is)
    (case qd2 => k_is)
    (case qe2 => k_is)
    (case qf2 => k_is)
    (case qg2 => k_is)
    (case qa3 => k_is)
    (case qb3 => k_is)
    (case qc3 => k_is)
    (case qd3 => k_is)
    (case qe3 => k_is)
    (case qf3 => k_is)
    (case qg3 => k_is)
    (case qk3 => k_is)
    (case qx3 => k_exc)
    (case qs3_0 => first | rfl | k_is)
    (case qs3_1 => first | rfl | k_is)
    (case qs3_2 => first | rfl | k_is)
    (case qs3_3 => first | rfl | k_is)
    (case qs3_ValueError => first | rfl | k_is)
    (case on => k_is)
    (case ot => k_is)
    (case oa0 => k_is)
    (case om0 => k_is)
    (case oc0_ => k_is)
    (case oy0 => k_is)
    (case nn0 => k_is)
    (case g_LARGEST => k_is)
    (case z_ValueError => k_is)
    (case z_abs => k_is)
    (case z_all => k_is)
    (case z_any => k_is)
    (case z_bool => k_is)
    (case z_dict => k_is)
    (case z_divmod => k_is)
    (case z_int => k_is)
    (case z_isinstance => k_is)
    (case z_len => k_is)
    (case z_list => k_is)
    (case z_max => k_is)
    (case z_min => k_is)
    (case z_range => k_is)
    (case z_repr => k_is)
    (case z_sorted => k_is)
    (case z_sum => k_is)
    (case z_tuple => k_is)
    (case z_zip => k_is)
#print axioms PySem.Challenge.cw_forkthrift_k17_whole_differences_holds


