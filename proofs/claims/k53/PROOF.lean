import PyProof.Rows.All
import Wide.All
import OpenK.AllK
import Wide.FinOn
import HandS.ForMost
import HandS.ForExc
import HandS.WideBits
import HandS.EndBits
import HandS.Defaults
import HandS.FStrTup
import HandS.IsInst
import HandS.More
import HandS.Style
import HandS.Steps
import HandS.MakeKwOnly
import HandS.SortInts
import HandS.SortRule
import HandS.DictComp
import HandS.SetFor
import HandS.Remove
import HandS.Small
import HandS.Codes
import HandS.WordsDict
import HandS.ExcInit
import HandS.ExcIs
import HandS.ExcField
import KE.KExcIs
import HandS.Deep
import HandS.Zip
import HandS.Conv
import HandS.SetBool
import HandS.Strs
import HandS.TupSets
import PyProof.Walks
import PyProof.FactsAll.subtypes_4
import KE.KDictZip
import KE.GoesEnum
import HandS.DeepEq
import KE.SortData
import KE.KStateDown
import HandS.Head0
import HandS.Head1
import HandS.Head2
import HandS.HeadHook1
import HandS.HeadHook2
import PyProof.TupleOfSeq
import HandS.TupAny
import PySem.Challenge.RW_forkthrift_k53_whole_no_paper_above_a_ke
set_option Elab.async false
set_option linter.all false
set_option maxRecDepth 100000
set_option maxHeartbeats 4000000
namespace G
/-- a step of a walk that asks nothing -/
class Red (g : Prop) (n : outParam Prop) : Prop where
  r : n → g
open PySem PySem.Spec PyProof.Rows L2

/-! the call layer once more, with the guards known -/
structure RoomG (k : Nat) (A : Around) : Prop where
  r : Room k A
  g : A.guards = some []
theorem RoomG.mono {j k : Nat} {A : Around} (z : RoomG k A) (h : j ≤ k) : RoomG j A :=
  ⟨z.r.mono h, z.g⟩
theorem RoomG.deeper {k : Nat} {A : Around} (z : RoomG (k + 1) A) (env : Env) :
    RoomG k (A.deeper env) := ⟨z.r.deeper env, z.g⟩
theorem make_guards {A : Around} {C : Addr} {us : List Value} {kw : List (Str × Value)} :
    (A.under (.builtin "type.__call__" ⟨.ref C :: us, kw⟩)).guards = A.guards := by
  first
    | rfl
    | (simp only [Around.under]
       rw [pushGuards_eq]
       have e : Code.guards (.builtin "type.__call__" ⟨.ref C :: us, kw⟩) = [] := by
         simp [Code.guards, Code.isGuard, guardIds]
       rw [e]
       cases A.guards <;> rfl)
theorem RoomG.make {k : Nat} {A : Around} (z : RoomG (k + 1) A) (C : Addr) (us : List Value)
    (kw : List (Str × Value)) : RoomG k (A.under (.builtin "type.__call__" ⟨.ref C :: us, kw⟩)) :=
  ⟨z.r.make C us kw, make_guards.trans z.g⟩

structure FnG (P : Program) (w : World) (K : PySem.W.Frag) (mg : Str → Option Value) (base : Heap)
    (k : Nat) (f : Addr) (fd : FuncData) (ps : List Str) (sp : Sp) : Prop where
  len : ∀ vs H Q E, sp vs H Q E → vs.length = ps.length
  run : ∀ (A : Around) (outer : List Env) (s : Shared) (H : Hp) (args : Args) (us : List Value)
    (vs : List V) (Q : VK) (E : XK), RoomG k A → Env0 P w K mg base A outer s H →
    BindsTo s fd args (ps.zip us) → Vals vs us → sp vs H Q E →
    codeAny (model P w) A (.call (.ref f) args) (CR (L2.CX P w) outer P w H s Q E) s
section
variable {P : Program} {w : World} {K : PySem.W.Frag} {mg : Str → Option Value} {base : Heap}
theorem FnG.mono {j k : Nat} {f : Addr} {fd : FuncData} {ps : List Str} {sp : Sp}
    (F : FnG P w K mg base j f fd ps sp) (h : j ≤ k) : FnG P w K mg base k f fd ps sp :=
  ⟨F.len, fun A o s H args us vs Q E z => F.run A o s H args us vs Q E (z.mono h)⟩
theorem FnG.of {k : Nat} {f : Addr} {fd : FuncData} {ps : List Str} {sp : Sp}
    (F : FnOk P w K mg base (L2.CX P w) k f fd ps sp) : FnG P w K mg base k f fd ps sp :=
  ⟨F.len, fun A o s H args us vs Q E z => F.run A o s H args us vs Q E z.r⟩

/-- a def by its body -/
theorem FnG.body {k : Nat} {f : Addr} {name qual : Str} {params : Arguments} {body : List Stmt}
    {sc : Scope} {dV kV doc pm cdv ct oc : Value} {an od : Option Addr} {osl : Array (Option Value)}
    {N ps : List Str} {sp : Sp}
    (lk : K.lookup f = some ⟨oc, od, .func (PySem.W.fnOf name qual params body sc dV kV doc pm an cdv ct), osl⟩)
    (hcd : PySem.W.codeIn K cdv qual = true) (S : FnScope N ps sc)
    (len : ∀ vs H Q E, sp vs H Q E → vs.length = ps.length)
    (hb : ∀ (A : Around) (outer : List Env) (s : Shared) (H : Hp) (vs : List V) (Q : VK) (E : XK),
      RoomG k (A.deeper (envOfC qual sc s.heap.objs.size f cdv)) → sp vs H Q E →
      ∃ t, PSs (cxOf (L2.CX P w) P w K mg base N qual sc f cdv A outer s H E) body t ∧
        t { nx := fun _ H' => Q .non H', rt := Q } (start N vs) H) :
    FnG P w K mg base (k + 1) f
      (PySem.W.fnOf name qual params body sc dV kV doc pm an cdv ct) ps sp := by
  refine ⟨len, ?_⟩
  intro A outer s H args us vs Q E z e0 bd rv hsp
  have n0 := len _ _ _ _ hsp
  have kin : K.In s.heap :=
    e0.mod.kin.keeps (fun b o e => (e0.bs b o e).1)
  have lim : s.heap.NoLimit :=
    e0.mod.nolimit.keeps (fun b o e => (e0.bs b o e).1)
  have kinds : ∀ y ∈ ps.zip us, sc.names.lookup y.1 = some .local ∨
      (sc.names.lookup y.1 = some .cell ∧
        ((cellsFrom (s.heap.objs.size + 1) sc.names []).lookup y.1).isSome = true) := by
    intro y hy
    obtain ⟨m, v⟩ := y
    cases S.par m (List.of_mem_zip hy).1 with
    | inl q => exact Or.inl q
    | inr q => exact Or.inr ⟨q, PySem.W.cellsFrom_some _ _ _ (Or.inl q)⟩
  refine codeAny_call_function z.r.depth (kin _ _ lk) rfl S.co S.gen rfl
    (PySem.W.codeRec_of kin hcd) (bd _ _ _ _ ?_)
  refine wpAny_newFunctionEnv_cells S.kind kinds ?_
  intro env he s1 x
  subst he
  refine ⟨lim.keeps x.toInCall.keep, ?_⟩
  refine codeAny_func ?_
  obtain ⟨t, ht, hq⟩ := hb A outer s H vs Q E (z.deeper _) hsp
  have I := inv_start (CX := L2.CX P w) (K := K) (mg := mg) (base := base) (E := E)
    S z.r.hd e0 n0 rv x
  refine wpAny_mono (ht.run [] s1 (start N vs) H _ I hq) ?_ (fun e s' hs => hs)
  intro fl s' hs
  have fin : ∀ {τ : L2.St} {G : Hp} {v : V} {u : Value},
      Inv (cxOf (L2.CX P w) P w K mg base N qual sc f cdv A outer s H E) [] τ G s' →
      RelV v u → Q v G → CE outer P w H s Q u s' := by
    intro τ G v u J r q
    exact ⟨v, G, J.os, J.bare, J.base, J.hok, r, q⟩
  match fl, hs with
  | .ret u, ⟨v, τ, G, J, r, q⟩ => exact fin J r q
  | .next, ⟨τ, G, J, q⟩ => exact fin (v := .non) (u := Value.none) J rfl q
  | .brk, ⟨_, _, _, q⟩ => exact False.elim q
  | .cont, ⟨_, _, _, q⟩ => exact False.elim q
end
end G
namespace G
open PySem PySem.Spec PyProof.Rows L2
section
variable {X : Cx} {k n : Nat} {f C : Addr} {fd : FuncData} {ps ks : List Str} {sp : Sp}
variable {dvs : List V} {ds : List Value} {E : XK} {x m : Str} {p pos apos : Pos} {e o : Expr}
variable {es : List Expr} {ta : TE} {t tk : TA} {pins : List (Addr × Obj)} {σ : L2.St} {H : Hp}
variable {s s' : Shared} {Q : VK}
abbrev Fg (X : Cx) (k : Nat) (f : Addr) (fd : FuncData) (ps : List Str) (sp : Sp) : Prop :=
  FnG X.prog X.w X.K X.mg X.base k f fd ps sp
abbrev Ps (X : Cx) (E : XK) : Prop := Passes (L2.CX X.prog X.w) X E

def Got (X : Cx) (R : Value → Shared → Prop) : Result → Shared → Prop
  | .ok (.ret u), s' => R u s'
  | .ok _, _ => False
  | .error e, s' => X.xe e s'
theorem ended (I : Inv X pins σ H s) (hx : Ps X E) {R : Value → Shared → Prop}
    (hR : ∀ u s', CE X.stack X.prog X.w H s Q u s' → R u s') {r : Result}
    (q : CR (L2.CX X.prog X.w) X.stack X.prog X.w H s Q E r s') : Got X R r s' := by
  match r, q with
  | .error e, q => exact hx pins σ H s e s' I q
  | .ok (.ret u), q => exact hR u s' q
  | .ok .next, q => exact False.elim q
  | .ok .brk, q => exact False.elim q
  | .ok .cont, q => exact False.elim q

theorem runG {args : Args} {us : List Value} {vs : List V} (F : Fg X k f fd ps sp)
    (z : RoomG k X.A) (hb : BindsTo s fd args (ps.zip us)) (hx : Ps X E) (I : Inv X pins σ H s)
    (rv : Vals vs us) (h : sp vs H Q E) :
    codeAny (model X.prog X.w) X.A (.call (.ref f) args) (Got X (EP X pins σ Q)) s := by
  refine codeAny_mono (F.run X.A X.stack s H args us vs Q E z I.env0 hb rv h) ?_
  intro r s' q
  exact ended I hx (fun u s' c => I.after c) q

theorem run1 {us : List Value} {vs : List V} (F : Fg X k f fd ps sp) (z : RoomG k X.A)
    (hb : Binds X.K fd ps ds) (hd : Vals dvs ds) (hx : Ps X E) (I : Inv X pins σ H s)
    (rv : Vals vs us) (h : sp (vs ++ dvs) H Q E) :
    wpAny (model X.prog X.w) X.A (call (.ref f) us) (EP X pins σ Q) X.xe s := by
  have r2 : Vals (vs ++ dvs) (us ++ ds) := rv.append hd
  have hl : (us ++ ds).length = ps.length := by
    rw [← r2.length]
    exact F.len _ _ _ _ h
  refine wpAny_call (codeAny_mono (runG F z (hb s us I.kIn hl) hx I r2 h) ?_)
  intro r s' q
  match r, q with
  | .error e, q => exact q
  | .ok (.ret u), q => exact q
  | .ok .next, q => exact q
  | .ok .brk, q => exact q
  | .ok .cont, q => exact q

theorem c1 (F : Fg X k f fd ps sp) (z : RoomG k X.A) (hg : Gl X x) (hm : X.mg x = some (.ref f))
    (hk : PySem.W.keepIn X.K (.ref f) = true) (hb : Binds X.K fd ps ds) (hd : Vals dvs ds)
    (hx : Ps X E) (ha : PA X (e :: es) t)
    (hdb : (x == ("__debug__" : Str)) = false := by decide)
    (he : starEach (e :: es) X.env = (false, eval e X.env) :: starEach es X.env := by rfl)
    (hpl : (backTo pos (starEach es X.env)).any (·.1) = false := by rfl) :
    PE X (.Call (.Name x p) (e :: es) [] pos) (tCall sp dvs E t) := by
  constructor
  intro pins s σ H Q I h
  refine wpAny_Call_Name_kw (ld_glob I hg hm ?_ hdb)
  refine PySem.W.callWith_K (h₀ := X.base) I.ok.mod.kin hk ?_ he hpl
  refine thn (ha.run pos pins s σ H _ I h) ?_
  intro us s1 y
  obtain ⟨vs, H1, I1, r, q⟩ := y
  exact ⟨I1.kIn, run1 F z hb hd hx I1 r q⟩

theorem c0 (F : Fg X k f fd ps sp) (z : RoomG k X.A) (hg : Gl X x) (hm : X.mg x = some (.ref f))
    (hk : PySem.W.keepIn X.K (.ref f) = true) (hb : Binds X.K fd ps ds) (hd : Vals dvs ds)
    (hx : Ps X E) (hdb : (x == ("__debug__" : Str)) = false := by decide) :
    PE X (.Call (.Name x p) [] [] pos) (tCall sp dvs E tNil) := by
  constructor
  intro pins s σ H Q I h
  refine wpAny_Call_Name_kw (ld_glob I hg hm ?_ hdb)
  exact PySem.W.callWith_K0 I.kIn hk (run1 (us := []) F z hb hd hx I .nil h)

/-- o.m(..) -/
theorem cm {pl : Sem Bool} (he : PE X o ta) (c : Cls X.K C) (hm : Meth X.K C m f)
    (F : Fg X k f fd ps sp) (z : RoomG k X.A) (hb : Binds X.K fd ps ds) (hd : Vals dvs ds)
    (hx : Ps X E) (ha : PA X (e :: es) t)
    (hst : starEach (e :: es) X.env = (false, eval e X.env) :: starEach es X.env := by rfl)
    (hpl : (backTo pos (starEach es X.env)).any (·.1) = false := by rfl)
    (ht : eval (.Call (.Attribute o m apos) (e :: es) [] pos) X.env = (do
      let y ← eval o X.env
      standAt apos.atName
      let (g, a) ← holding [y] (getMethod y m pl)
      callWith pos g a (backTo pos (starEach (e :: es) X.env))
        (backToKw pos (keywordEach [] X.env))) := by rfl) :
    PE X (.Call (.Attribute o m apos) (e :: es) [] pos) (tMeth C m sp dvs E ta t) := by
  constructor
  intro pins s σ H Q I h
  refine PySem.W.methodCall_KW (pl := pl) (thn (he.run pins s σ H _ I h) ?_) ht
  intro u s1 y
  obtain ⟨v, H1, I1, rx, a, dx, fs, ex, ea, l, q⟩ := y
  subst ex
  obtain rfl : u = Value.ref a := rx
  refine getmeth_ok I1 ea c hm l ?_
  refine PySem.W.callWith_K (first := [.ref a]) (h₀ := X.base) I.ok.mod.kin hm.kp ?_ hst hpl
  refine thn (ha.run pos pins s1 σ H1 _ I1 q) ?_
  intro us s2 y
  obtain ⟨vs, H2, I2, r, q2⟩ := y
  exact ⟨I2.kIn, run1 (us := .ref a :: us) (vs := .ref a :: vs) F z hb hd hx I2 (.cons rfl r) q2⟩
/-- o.m() -/
theorem cm0 {pl : Sem Bool} (he : PE X o ta) (c : Cls X.K C) (hm : Meth X.K C m f)
    (F : Fg X k f fd ps sp) (z : RoomG k X.A) (hb : Binds X.K fd ps ds) (hd : Vals dvs ds)
    (hx : Ps X E)
    (ht : eval (.Call (.Attribute o m apos) [] [] pos) X.env = (do
      let y ← eval o X.env
      standAt apos.atName
      let (g, a) ← holding [y] (getMethod y m pl)
      callWith pos g a (backTo pos (starEach [] X.env))
        (backToKw pos (keywordEach [] X.env))) := by rfl) :
    PE X (.Call (.Attribute o m apos) [] [] pos) (tMeth C m sp dvs E ta tNil) := by
  constructor
  intro pins s σ H Q I h
  refine PySem.W.methodCall_KW (pl := pl) (thn (he.run pins s σ H _ I h) ?_) ht
  intro u s1 y
  obtain ⟨v, H1, I1, rx, a, dx, fs, ex, ea, l, q⟩ := y
  subst ex
  obtain rfl : u = Value.ref a := rx
  refine getmeth_ok I1 ea c hm l ?_
  refine PySem.W.callWith_K0 (first := [.ref a]) I1.kIn hm.kp ?_
  exact run1 (us := [.ref a]) (vs := [.ref a]) F z hb hd hx I1 (.cons rfl .nil) q
end
end G
namespace G
open PySem PySem.Spec PyProof.Rows L2

/-- the heap at the law's entry: the script alone is tracked, or nothing -/
theorem lawG {P : Program} {w : World} {K : PySem.W.Frag} {mg mb : Str → Option Value} {k : Nat}
    {fa a : Addr} {fd : FuncData} {x : Str} {sp : Sp} {s0 : Shared} {vs : List Value}
    {ns : List Int} (kin : K.In s0.heap) (hns : s0.heap.Ns mainGlobals mg)
    (hb : s0.heap.Ns builtinsNs mb) (hbb : ∀ y : Str, y ≠ "__name__" → mb y = bootBuiltins y)
    (lim : s0.heap.NoLimit) (hg : s0.gens = #[])
    (ha : s0.heap.get? a = some { cls := .type "list", data := .seq vs.toArray })
    (hi : IntsAre vs ns) (hl : ns.length ≤ sizeLine) (z : RoomG k callerA)
    (F : ∀ base : Heap, K.In base → base.Ns mainGlobals mg → FnG P w K mg base k fa fd [x] sp)
    (bd : ∀ (s : Shared) (u : Value), BindsTo s fd ⟨[u], []⟩ [(x, u)])
    (hsp : ∀ H : Hp, Only H → SqL K H a (ns.map V.int) →
      sp [.ref a] H (fun v _ => v = .bl true) fun _ _ _ => False) :
    codeAny (model P w) callerA (.call (.ref fa) ⟨[.ref a], []⟩)
      (fun r s' => r = .ok (.ret (.bool true)) ∧ OldK s0.heap s'.heap ∧ s'.os = s0.os ∧
        AllBare s'.gens) s0 := by
  have rv := vals_ints hi
  have lv := hi.length
  have core : ∀ H : Hp, Only H → SqL K H a (ns.map V.int) → HOk P w H s0.heap →
      (∀ b, H b ≠ none → b = a) → (H a ≠ none → K.lookup a = none) →
      codeAny (model P w) callerA (.call (.ref fa) ⟨[.ref a], []⟩)
        (fun r s' => r = .ok (.ret (.bool true)) ∧ OldK s0.heap s'.heap ∧ s'.os = s0.os ∧
          AllBare s'.gens) s0 := by
    intro H only sq hok only_a notK
    have at_a : ∀ {b : Addr}, H b ≠ none → b = a := fun {b} q => only_a b q
    have seqs : ∀ {b : Addr} {o : Obj} {es : Array DictEntry} {ep : Nat},
        s0.heap.get? b = some o → o.data = .dict es ep → H b = none := by
      intro b o es ep e d
      cases q : H b with
      | none => rfl
      | some u =>
        obtain rfl := at_a (b := b) (by rw [q]; exact fun y => nomatch y)
        rw [ha] at e
        cases e
        have d' : Data.seq vs.toArray _ = Data.dict es ep := d
        cases d'
    have nsb : ∀ {b : Addr} {g : Str → Option Value}, s0.heap.Ns b g →
        (hidT s0.heap H).Ns b g := by
      intro b g y
      obtain ⟨o, es, ep, e, d, r⟩ := y
      exact ⟨o, es, ep, hidT_get e (seqs e d), d, r⟩
    have kb : K.In (hidT s0.heap H) := by
      intro b o e
      refine hidT_get (kin b o e) ?_
      cases q : H b with
      | none => rfl
      | some u =>
        obtain rfl := at_a (b := b) (by rw [q]; exact fun y => nomatch y)
        rw [notK (by rw [q]; exact fun y => nomatch y)] at e
        cases e
    have md : Mod K mg (hidT s0.heap H) := by
      obtain ⟨mc, l1, l2⟩ := lim
      exact ⟨kb, nsb hns, ⟨mb, nsb hb, hbb⟩, ⟨mc, nsb l1, l2⟩⟩
    have e0 : Env0 P w K mg (hidT s0.heap H) callerA [] s0 H :=
      ⟨rfl, md, fun b o e => of_hidT e, Nat.le_of_eq (hidT_size _ _), trivial,
        fun b q => absurd (show b ∈ ([] : List Addr) from q) List.not_mem_nil, hok, .of_eq hg⟩
    have run := (F _ kb (nsb hns)).run callerA [] s0 H ⟨[.ref a], []⟩ [.ref a] [.ref a] _ _
      z e0 (bd s0 (.ref a)) (.cons rfl .nil) (hsp H only sq)
    refine codeAny_mono run ?_
    intro r s' h
    match r, h with
    | .error e, h =>
      obtain ⟨_, _, _, _, _, _, _, _, _, _, _, _, y⟩ := h
      exact y.elim
    | .ok .next, h => exact False.elim h
    | .ok .brk, h => exact False.elim h
    | .ok .cont, h => exact False.elim h
    | .ok (.ret u), h =>
      obtain ⟨v, H', os, bare, un, hok', r', q⟩ := h
      have q' : v = .bl true := q
      subst q'
      obtain rfl : u = Value.bool true := r'
      refine ⟨rfl, OldK.of_keep ?_, os, bare⟩
      intro b o e
      cases q : H b with
      | none =>
        exact un.keep b o e q (fun y => absurd (show b ∈ ([] : List Addr) from y) List.not_mem_nil)
          List.not_mem_nil
      | some u =>
        rcases only b with y | ⟨ob, xs, y⟩
        · rw [q] at y
          cases y
        · obtain ⟨e1, _⟩ := hok b _ y
          obtain ⟨e2, _⟩ := hok' b _ (un.frzs b ob _ y)
          rw [e] at e1
          cases e1
          exact e2
  cases hk : K.lookup a with
  | some o =>
    have e := kin a o hk
    rw [ha] at e
    cases e
    refine core (fun _ => none) (fun _ => Or.inl rfl) (Or.inr ?_) ?_ (fun b y => absurd rfl y)
      (fun y => absurd rfl y)
    · refine ⟨_, vs.toArray, _, hk, rfl, rfl, rfl, ?_, ?_⟩
      · rw [List.size_toArray, lv]
        exact hl
      · simpa using rv
    · intro b u y
      have y' : (none : Option HO) = some u := y
      cases y'
  | none =>
    refine core (fun b => if b = a then
      some (.frz { cls := .type "list", data := .seq vs.toArray } (.lst (ns.map V.int)))
      else none) ?_ (Or.inl (Or.inr ⟨_, if_pos rfl⟩)) ?_ ?_ (fun _ => hk)
    · intro b
      by_cases q : b = a
      · exact Or.inr ⟨_, _, if_pos q⟩
      · exact Or.inl (if_neg q)
    · intro b u y
      by_cases q : b = a
      · have y' := (if_pos q).symm.trans y
        cases y'
        subst q
        refine ⟨ha, ?_, vs, _, rv, ha⟩
        rw [List.length_map]
        exact hl
      · have y' := (if_neg q).symm.trans y
        cases y'
    · intro b y
      by_cases q : b = a
      · exact q
      · exact absurd (if_neg q) y

/-- the end of a law row, the script's bits told -/
theorem walkG {l : PySem.W.OpenLaw} {n k : Nat} {q : Program} {loose : List Str}
    {XP : (Str → Option Value) → Heap → Prop} {YP : World → Heap → Prop} {d : DefRec}
    {K : Params → PySem.W.Frag} {sp : PySem.W.Frag → Sp} {x : Str} (hn : l.most = some n)
    (hn2 : n ≤ sizeLine) (hdf : d.params.defaults = []) (hr : Room k callerA)
    (hY : ∀ (w : World) (h : Heap), YP w h → (K w.params).In h)
    (F : ∀ (w : World) (mg : Str → Option Value) (fa : Addr) (h : Heap), (K w.params).In h →
      h.Ns mainGlobals mg → mg d.name = some (.ref fa) →
      ∃ fd : FuncData, (∀ (s : Shared) (u : Value), BindsTo s fd ⟨[u], []⟩ [(x, u)]) ∧
        ∀ base : Heap, (K w.params).In base → base.Ns mainGlobals mg →
          FnG l.prog w (K w.params) mg base k fa fd [x] (sp (K w.params)))
    (hsp : ∀ (K : PySem.W.Frag) (H : Hp) (a : Addr) (ns : List Int), ns.length ≤ n →
      (∀ z ∈ ns, Builtin.Int.intBits z ≤ 1048576) → Only H → SqL K H a (ns.map V.int) →
      sp K [.ref a] H (fun v _ => v = .bl true) fun _ _ _ => False) :
    PySem.W.WalkO q loose XP YP l.row.toRowW d [] (fun f vs => PySem.call f vs) := by
  refine Att.attach_callB hn hdf ?_
  intro w s0 s1 mg mb fa o pm cd doc a vs ns T Y ho hd hcd hmg hobj hints hlen hbits hg
  have kin := hY w _ Y
  obtain ⟨fd, hb, hF⟩ := F w mg fa _ kin T.T.g hmg
  exact lawG kin T.T.g T.T.b T.T.builtins T.T.nolimit hg hobj hints (Nat.le_trans hlen hn2)
    ⟨hr, rfl⟩ hF hb (fun H hO hS => hsp _ H a ns hlen hbits hO hS)
end G
namespace G
open PySem PySem.Spec PyProof.Rows L2

/-! ### repr of data -/

mutual
def cw : PyData → Nat
  | .none => 4
  | .bool _ => 5
  | .int _ => 1930
  | .str x => 10 * x.length + 4
  | .list xs => cws xs + 2
  | .tuple xs => cws xs + 2
  | .dict _ => 0
def cws : List PyData → Nat
  | [] => 0
  | x :: xs => cw x + 2 + cws xs
end
mutual
/-- it may be shown: ints of few bits, texts of plain signs, no dict -/
def shw : PyData → Bool
  | .none => true
  | .bool _ => true
  | .int i => decide (i.natAbs.log2 < 1920)
  | .str x => x.cps.toList.all fun c => decide (c < 16 ^ 8)
  | .list xs => shws xs
  | .tuple xs => shws xs
  | .dict _ => false
def shws : List PyData → Bool
  | [] => true
  | x :: xs => shw x && shws xs
end
theorem list_text (ts : List Str) : (listText ts).length ≤ piled ts + 2 := by
  unfold listText
  rw [strLen_append]
  have e1 : (("[" : Str)).length = 1 := by decide +kernel
  have e2 : (("]" : Str)).length = 1 := by decide +kernel
  cases ts with
  | nil =>
    show (("[" : Str)).length + (("]" : Str)).length ≤ _
    omega
  | cons t r =>
    have q := textFrom_length_pos r 1 (("[" : Str) ++ (if 0 > 0 then ", " else "" : String) ++ t) (by decide)
    have e3 : ((if 0 > 0 then ", " else "" : String) : Str).length = 0 := by decide +kernel
    have q2 : (textFrom 0 "[" (t :: r)).length = (("[" : Str) ++ (if 0 > 0 then ", " else "" : String) ++ t).length + piled r := q
    rw [q2, strLen_append, strLen_append, piled_cons]
    omega
mutual
theorem shown_len : ∀ d : PyData, shw d = true → d.shown.length ≤ cw d
  | .none, _ => by simp only [PyData.shown, cw]; decide +kernel
  | .bool b, _ => by cases b <;> (simp only [PyData.shown, cw]; decide +kernel)
  | .int i, h => by
    simp only [shw, decide_eq_true_eq] at h
    simp only [PyData.shown, cw]
    have q := int_text_length_le (a := i) (k := 1920) (by decide) h
    rw [PySem.ofString_length]
    omega
  | .str x, h => by
    simp only [shw, List.all_eq_true, decide_eq_true_eq] at h
    simp only [PyData.shown, cw]
    have q := StrLaws.reprText_len x h
    omega
  | .list xs, h => by
    simp only [shw] at h
    simp only [PyData.shown, cw]
    exact Nat.le_trans (list_text _) (Nat.add_le_add_right (shown_lens xs h) 2)
  | .tuple xs, h => by
    simp only [shw] at h
    simp only [PyData.shown, cw]
    exact Nat.le_trans (fmt_text _) (Nat.add_le_add_right (shown_lens xs h) 2)
  | .dict _, h => by simp only [shw] at h; cases h
theorem shown_lens : ∀ ds : List PyData, shws ds = true → piled (PyData.shownAll ds) ≤ cws ds
  | [], _ => Nat.zero_le _
  | d :: ds, h => by
    simp only [shws, Bool.and_eq_true] at h
    simp only [PyData.shownAll, cws, piled_cons]
    have q1 := shown_len d h.1
    have q2 := shown_lens ds h.2
    omega
end
mutual
theorem shw_showable : ∀ d : PyData, shw d = true → d.showable = true ∧ d.hasDict = false
  | .none, _ => ⟨rfl, rfl⟩
  | .bool _, _ => ⟨rfl, rfl⟩
  | .int i, h => ⟨by simpa only [shw, PyData.showable] using h, rfl⟩
  | .str x, _ => ⟨rfl, rfl⟩
  | .list xs, h => by
    simp only [shw] at h
    simpa only [PyData.showable, PyData.hasDict] using shws_showable xs h
  | .tuple xs, h => by
    simp only [shw] at h
    simpa only [PyData.showable, PyData.hasDict] using shws_showable xs h
  | .dict _, h => by simp only [shw] at h; cases h
theorem shws_showable : ∀ ds : List PyData, shws ds = true →
    PyData.showableAll ds = true ∧ PyData.hasDictAll ds = false
  | [], _ => ⟨rfl, rfl⟩
  | d :: ds, h => by
    simp only [shws, Bool.and_eq_true] at h
    obtain ⟨a, b⟩ := shw_showable d h.1
    obtain ⟨e, f⟩ := shws_showable ds h.2
    simp only [PyData.showableAll, PyData.hasDictAll, a, b, e, f]
    exact ⟨rfl, rfl⟩
end
/-- repr(x), x data -/
def rRepr (K : PySem.W.Frag) : List V → Hp → VK → Prop := fun xs H Q =>
  ∃ x d, xs = [x] ∧ Dp K H x d ∧ shw d = true ∧ d.depth ≤ 60 ∧ cw d ≤ sizeLine ∧ Q (.str d.shown) H
theorem call_repr {X : Cx} (hg : X.A.guards = some []) (hu : X.A.units + 64 < cLine) :
    CallR X (.builtin "repr") (rRepr X.K) := by
  intro pins s σ H vs us Q I rv h
  obtain ⟨x, d, rfl, hd, hs, hdp, hz, q⟩ := h
  obtain ⟨hs1, hs2⟩ := shw_showable d hs
  have hz2 := Nat.le_trans (shown_len d hs) hz
  cases rv with
  | cons r rn =>
    cases rn
    obtain ⟨as, hr⟩ := Dp.reads I d _ _ hd r
    cases hr with
    | none => exact PySem.P.repr_of_none ⟨.str _, H, I.tok _, ⟨_, rfl⟩, q⟩
    | bool b => exact PySem.P.repr_of_bool ⟨.str _, H, I.tok _, ⟨_, rfl⟩, q⟩
    | int i t =>
      refine PySem.P.repr_of_int ?_ ⟨.str _, H, I.tok _, ⟨_, rfl⟩, q⟩
      first | exact hs | simpa only [shw, decide_eq_true_eq] using hs
    | str y t => exact PySem.P.repr_of_str ⟨.str _, H, I.tok _, ⟨_, rfl⟩, q⟩ hz2
    | list h1 h2 h3 h4 =>
      refine repr_of_reads' (Reads.list h1 h2 h3 h4) hs1 (fun y => by rw [hs2] at y; cases y) hg
        (by omega) (fun _ _ e => e) (fun h' u tk hk => ?_) hz2
      exact ⟨.str _, H, I.kept hk, ⟨_, rfl⟩, q⟩
    | tuple h1 h2 h3 h4 =>
      refine repr_of_reads' (Reads.tuple h1 h2 h3 h4) hs1 (fun y => by rw [hs2] at y; cases y) hg
        (by omega) (fun _ _ e => e) (fun h' u tk hk => ?_) hz2
      exact ⟨.str _, H, I.kept hk, ⟨_, rfl⟩, q⟩
    | dict h1 h2 h3 h4 h5 => simp only [PyData.hasDict] at hs2; cases hs2
end G
namespace G
open PySem PySem.Spec PyProof.Rows L2

/-! ### heaps: what is kept -/
/-- x is not yet tracked -/
structure Fr (H : Hp) (x : Addr) : Prop where
  e : H x = none
theorem fr_ne {H : Hp} {a b : Addr} {o : HO} (h : H a = some o) (f : Fr H b) : a ≠ b := ne_of_none h f.e
/-- what nothing changes -/
def Fix : HO → Prop
  | .tup _ => True
  | .frz _ _ => True
  | _ => False
/-- all that H tracks is as it was, but perhaps what stands at ws -/
structure Kp (ws : List Addr) (H H' : Hp) : Prop where
  at_ : ∀ a u, H a = some u → a ∉ ws → H' a = some u
  fix : ∀ a u, H a = some u → Fix u → H' a = some u
  dom : ∀ a u, H a = some u → ∃ v, H' a = some v
section
variable {ws us : List Addr} {H H1 H2 : Hp} {p : Addr} {o u : HO}
theorem Kp.refl : Kp ws H H := ⟨fun _ _ h _ => h, fun _ _ h _ => h, fun _ u h => ⟨u, h⟩⟩
theorem Kp.trans (a : Kp ws H H1) (b : Kp ws H1 H2) : Kp ws H H2 :=
  ⟨fun c u h n => b.at_ c u (a.at_ c u h n) n, fun c u h f => b.fix c u (a.fix c u h f) f,
    fun c u h => let ⟨v, e⟩ := a.dom c u h; b.dom c v e⟩
theorem Kp.mono (a : Kp ws H H1) (h : ∀ b ∈ ws, b ∈ us) : Kp us H H1 :=
  ⟨fun c u e n => a.at_ c u e fun q => n (h c q), a.fix, a.dom⟩
theorem Kp.wide (a : Kp [] H H1) : Kp ws H H1 := a.mono fun b h => (nomatch h)
theorem Kp.free (a : Kp ws H H1) (f : Fr H1 p) : Fr H p := by
  have h := f.e
  constructor
  cases q : H p with
  | none => rfl
  | some u =>
    obtain ⟨v, e⟩ := a.dom p u q
    rw [h] at e
    cases e
theorem Kp.new (f : Fr H p) : Kp ws H (upd H p o) := by
  have h := f.e
  have k : ∀ a u, H a = some u → upd H p o a = some u := fun a u e => by
    rw [upd_ne (ne_of_none e h)]
    exact e
  exact ⟨fun a u e _ => k a u e, fun a u e _ => k a u e, fun a u e => ⟨u, k a u e⟩⟩
/-- what H does not know may be written -/
theorem Kp.upd (a : Kp ws H H1) (f : Fr H p) : Kp ws H (upd H1 p o) := by
  have h := f.e
  have k : ∀ b u, H b = some u → L2.upd H1 p o b = H1 b := fun b u e => upd_ne (ne_of_none e h)
  exact ⟨fun b u e n => (k b u e).trans (a.at_ b u e n), fun b u e f => (k b u e).trans (a.fix b u e f),
    fun b u e => let ⟨v, q⟩ := a.dom b u e; ⟨v, (k b u e).trans q⟩⟩
theorem Kp.mut (h : H p = some u) (nf : ¬ Fix u) (hp : p ∈ ws) : Kp ws H (L2.upd H p o) := by
  refine ⟨fun a v e n => ?_, fun a v e f => ?_, fun a v e => ?_⟩
  · rw [upd_ne (fun (q : a = p) => n (by rw [q]; exact hp))]
    exact e
  · have q : a ≠ p := by
      intro q
      subst q
      rw [h] at e
      cases e
      exact nf f
    rw [upd_ne q]
    exact e
  · by_cases q : a = p
    · exact ⟨o, by rw [q, upd_same]⟩
    · exact ⟨v, by rw [upd_ne q]; exact e⟩
theorem Kp.upm {ys : List V} (a : Kp ws H H1) (h : H1 p = some (.lst ys)) (hp : p ∈ ws) :
    Kp ws H (L2.upd H1 p o) := a.trans (Kp.mut h (fun z => z) hp)
/-- what H does not know need not be named -/
theorem Kp.drop (a : Kp (p :: ws) H H1) (f : Fr H p) : Kp ws H H1 :=
  have h := f.e
  ⟨fun b u e n => a.at_ b u e (fun q => (List.mem_cons.mp q).elim (fun z => by
    rw [z, h] at e
    cases e) n), a.fix, a.dom⟩
theorem Kp.dropAll (a : Kp us H H1) (h : ∀ b ∈ us, b ∈ ws ∨ Fr H b) : Kp ws H H1 :=
  ⟨fun b u e n => a.at_ b u e (fun q => (h b q).elim n (fun z => by
    rw [z.e] at e
    cases e)), a.fix, a.dom⟩
theorem Kp.seqL {K : PySem.W.Frag} {l : Addr} {xs : List V} (a : Kp ws H H1) (n : l ∉ ws)
    (h : SqL K H l xs) : SqL K H1 l xs := by
  rcases h with (h | ⟨o, h⟩) | h
  · exact .inl (.inl (a.at_ _ _ h n))
  · exact .inl (.inr ⟨o, a.fix _ _ h trivial⟩)
  · exact .inr h
theorem Kp.seqT {K : PySem.W.Frag} {l : Addr} {xs : List V} (a : Kp ws H H1)
    (h : SqT K H l xs) : SqT K H1 l xs := by
  rcases h with (h | ⟨o, h⟩) | h
  · exact .inl (.inl (a.fix _ _ h trivial))
  · exact .inl (.inr ⟨o, a.fix _ _ h trivial⟩)
  · exact .inr h
end
mutual
/-- data that nothing changes: no list, no dict -/
def imm : PyData → Bool
  | .none => true
  | .bool _ => true
  | .int _ => true
  | .str _ => true
  | .tuple xs => imms xs
  | .list _ => false
  | .dict _ => false
def imms : List PyData → Bool
  | [] => true
  | x :: xs => imm x && imms xs
end
section
variable {K : PySem.W.Frag} {ws : List Addr} {H H1 : Hp}
mutual
theorem dp_imm (k : Kp ws H H1) : ∀ (d : PyData) (v : V), imm d = true → Dp K H v d → Dp K H1 v d
  | .none, _, _, h => by cases h; exact .non
  | .bool b, _, _, h => by cases h; exact .bl b
  | .int i, _, _, h => by cases h; exact .int i
  | .str x, _, _, h => by cases h; exact .str x
  | .tuple ds, _, hi, h => by
    cases h with
    | tup hs ha => exact .tup (k.seqT hs) (dpa_imm k ds _ (by simpa only [G.imm] using hi) ha)
  | .list _, _, hi, _ => by simp only [G.imm] at hi; cases hi
  | .dict _, _, hi, _ => by simp only [G.imm] at hi; cases hi
theorem dpa_imm (k : Kp ws H H1) : ∀ (ds : List PyData) (vs : List V), imms ds = true →
    DpAll K H vs ds → DpAll K H1 vs ds
  | [], _, _, h => by cases h; exact .nil
  | d :: ds, _, hi, h => by
    simp only [imms, Bool.and_eq_true] at hi
    cases h with
    | cons h1 h2 => exact .cons (dp_imm k d _ hi.1 h1) (dpa_imm k ds _ hi.2 h2)
end
theorem dpa_len : ∀ {ds : List PyData} {vs : List V}, DpAll K H vs ds → vs.length = ds.length
  | [], _, h => by cases h; rfl
  | _ :: ds, _, h => by
    cases h with
    | cons _ h2 => rw [List.length_cons, List.length_cons, dpa_len h2]
theorem dpa_app : ∀ {ds es : List PyData} {vs ys : List V}, DpAll K H vs ds → DpAll K H ys es →
    DpAll K H (vs ++ ys) (ds ++ es)
  | [], _, _, _, h, g => by cases h; exact g
  | _ :: _, _, _, _, h, g => by
    cases h with
    | cons h1 h2 => exact .cons h1 (dpa_app h2 g)
theorem dpa_get : ∀ {ds : List PyData} {vs : List V} {i : Nat} {d : PyData}, DpAll K H vs ds →
    ds[i]? = some d → ∃ v, vs[i]? = some v ∧ Dp K H v d
  | [], _, _, _, _, e => by simp at e
  | _ :: _, _, 0, _, h, e => by
    cases h with
    | cons h1 h2 =>
      simp at e
      subst e
      exact ⟨_, rfl, h1⟩
  | _ :: _, _, i + 1, _, h, e => by
    cases h with
    | cons h1 h2 =>
      obtain ⟨v, q, r⟩ := dpa_get (i := i) h2 (by simpa using e)
      exact ⟨v, by simpa using q, r⟩
theorem dpa_getV : ∀ {ds : List PyData} {vs : List V} {i : Nat} {v : V}, DpAll K H vs ds →
    vs[i]? = some v → ∃ d, ds[i]? = some d ∧ Dp K H v d
  | [], _, _, _, h, e => by cases h; simp at e
  | _ :: _, _, 0, _, h, e => by
    cases h with
    | cons h1 h2 =>
      simp at e
      subst e
      exact ⟨_, rfl, h1⟩
  | _ :: _, _, i + 1, _, h, e => by
    cases h with
    | cons h1 h2 =>
      obtain ⟨d, q, r⟩ := dpa_getV (i := i) h2 (by simpa using e)
      exact ⟨d, by simpa using q, r⟩
theorem dpa_set : ∀ {ds : List PyData} {vs : List V} {i : Nat} {v : V} {d : PyData},
    DpAll K H vs ds → Dp K H v d → DpAll K H (vs.set i v) (ds.set i d)
  | [], _, _, _, _, h, _ => by cases h; exact .nil
  | _ :: _, _, 0, _, _, h, g => by
    cases h with
    | cons h1 h2 => exact .cons g h2
  | _ :: _, _, i + 1, _, _, h, g => by
    cases h with
    | cons h1 h2 => exact .cons h1 (dpa_set h2 g)
theorem dpa_take : ∀ {ds : List PyData} {vs : List V} (i : Nat),
    DpAll K H vs ds → DpAll K H (vs.take i) (ds.take i)
  | [], _, _, h => by cases h; simp; exact .nil
  | _ :: _, _, 0, h => by simp; exact .nil
  | _ :: _, _, i + 1, h => by
    cases h with
    | cons h1 h2 => exact .cons h1 (dpa_take i h2)
theorem dpa_drop : ∀ {ds : List PyData} {vs : List V} (i : Nat),
    DpAll K H vs ds → DpAll K H (vs.drop i) (ds.drop i)
  | [], _, _, h => by cases h; simp; exact .nil
  | _ :: _, _, 0, h => by simpa using h
  | _ :: _, _, i + 1, h => by
    cases h with
    | cons h1 h2 => exact dpa_drop i h2
theorem dpa_one {v : V} {d : PyData} (h : Dp K H v d) : DpAll K H [v] [d] := .cons h .nil
/-- a tuple of two ints -/
abbrev d2 (p : Int × Int) : PyData := .tuple [.int p.1, .int p.2]
theorem dp_pair {v : V} {p : Int × Int} (h : Dp K H v (d2 p)) :
    ∃ a, v = .ref a ∧ SqT K H a [.int p.1, .int p.2] := by
  cases h with
  | tup hs ha =>
    cases ha with
    | cons h1 h2 =>
      cases h2 with
      | cons h3 h4 =>
        cases h4
        cases h1
        cases h3
        exact ⟨_, rfl, hs⟩
theorem dp_mk2 {a : Addr} {m n : Int} (h : SqT K H a [.int m, .int n]) :
    Dp K H (.ref a) (d2 (m, n)) := .tup h (.cons (.int m) (.cons (.int n) .nil))
theorem imms_d2 : ∀ l : List (Int × Int), imms (l.map d2) = true
  | [] => rfl
  | _ :: l => by
    simp only [List.map_cons, imms, G.imm, imms_d2 l]
    rfl
/-- a list of our own, of data that nothing changes -/
def LD (K : PySem.W.Frag) (H : Hp) (l : Addr) (ds : List PyData) : Prop :=
  ∃ vs, H l = some (.lst vs) ∧ DpAll K H vs ds
theorem LD.dp {l : Addr} {ds : List PyData} (h : LD K H l ds) : Dp K H (.ref l) (.list ds) := by
  obtain ⟨vs, e, q⟩ := h
  exact .lst (SqL.of e) q
theorem LD.kp {l : Addr} {ds : List PyData} (h : LD K H l ds) (k : Kp ws H H1) (hi : imms ds = true)
    (n : l ∉ ws) : LD K H1 l ds := by
  obtain ⟨vs, e, q⟩ := h
  exact ⟨vs, k.at_ _ _ e n, dpa_imm k _ _ hi q⟩
theorem LD.some {l : Addr} {ds : List PyData} (h : LD K H l ds) : H l ≠ none := by
  obtain ⟨vs, e, q⟩ := h
  rw [e]
  exact fun y => nomatch y
end
end G
namespace G
open PySem PySem.Spec PyProof.Rows L2

/-! ### one rule for several kinds of values -/
theorem orR {X : Cx} {f : Value → Value → Sem Value} {r r' : R2} (h : OpR X f r) (h' : OpR X f r') :
    OpR X f (fun x y H Q => r x y H Q ∨ r' x y H Q) := by
  intro pins s σ H x y v u Q I rx ry q
  cases q with
  | inl q => exact h pins s σ H x y v u Q I rx ry q
  | inr q => exact h' pins s σ H x y v u Q I rx ry q
theorem orC {X : Cx} {f : Value} {r r' : List V → Hp → VK → Prop} (h : CallR X f r)
    (h' : CallR X f r') : CallR X f (fun xs H Q => r xs H Q ∨ r' xs H Q) := by
  intro pins s σ H xs us Q I rx q
  cases q with
  | inl q => exact h pins s σ H xs us Q I rx q
  | inr q => exact h' pins s σ H xs us Q I rx q
def uAdd (K : PySem.W.Frag) : R2 := fun x y H Q => rI0 (fun i j => .int (i + j)) x y H Q ∨
  (∃ i j, x = .str i ∧ y = .str j ∧ i.length + j.length ≤ sizeLine ∧ Q (.str (i ++ j)) H) ∨
  rCat x y H Q ∨ rCatT K x y H Q
def uMul : R2 := fun x y H Q => rI CMul (fun i j => .int (i * j)) x y H Q ∨
  rI CMulW (fun i j => .int (i * j)) x y H Q ∨ rRep x y H Q
def uEq (K : PySem.W.Frag) : R2 := fun x y H Q => rEq x y H Q ∨ rEqD K x y H Q
def uNe (K : PySem.W.Frag) : R2 := fun x y H Q => rNe x y H Q ∨ rNeD K x y H Q
def uIx (K : PySem.W.Frag) : R2 := fun x y H Q => rIxL K x y H Q ∨ rIxT K x y H Q ∨ rIxS x y H Q
def uLen (K : PySem.W.Frag) : List V → Hp → VK → Prop := fun xs H Q =>
  (∃ p ys, xs = [.ref p] ∧ (SqL K H p ys ∨ SqT K H p ys) ∧ Q (.int ys.length) H) ∨
  (∃ z, xs = [.str z] ∧ z.length ≤ sizeLine ∧ Q (.int z.length) H)
section
variable {X : Cx}
theorem o_add : OpR X (binaryOp .Add) (uAdd X.K) := orR op_add (orR op_add_str (orR op_cat op_catT))
theorem o_mul : OpR X (binaryOp .Mult) uMul := orR op_mul (orR op_mulW op_rep)
theorem o_eq (hu : X.A.units + 64 < cLine) : OpR X (compareOp .Eq) (uEq X.K) := orR op_eq (op_eqD hu)
theorem o_ne (hu : X.A.units + 64 < cLine) : OpR X (compareOp .NotEq) (uNe X.K) := orR op_ne (op_neD hu)
theorem o_ix : IxR X (uIx X.K) := ix_list.or (ix_tup.or ix_str)
theorem c_len : CallR X (.builtin "len") (uLen X.K) := orC call_len_seq call_len_str
end

/-! ### readings from the front -/
section
variable {K : PySem.W.Frag} {σ : L2.St} {H : Hp} {Q : VK} {D : Ends} {t1 t2 : TS} {te ta tb tc : TE}
variable {i j : Nat} {v x y : V} {c u : TT} {tr : TA} {n m : Int} {b : Bool} {p : Addr}
variable {QB : Bool → Hp → Prop} {QA : List V → Hp → Prop} {xs : List V}
theorem i_seq (h : t1 { D with nx := t2 D } σ H) : tSeq t1 t2 D σ H := h
instance red_i_seq  : Red (tSeq t1 t2 D σ H) (t1 { D with nx := t2 D } σ H) := ⟨i_seq⟩
theorem i_next (h : D.nx σ H) : tNext D σ H := h
instance red_i_next  : Red (tNext D σ H) (D.nx σ H) := ⟨i_next⟩
theorem i_set (h : te σ H fun x H1 => D.nx (σ.set i (some x)) H1) : tAsg te (gName i) D σ H := h
instance red_i_set  : Red (tAsg te (gName i) D σ H) (te σ H fun x H1 => D.nx (σ.set i (some x)) H1) := ⟨i_set⟩
theorem i_asg {g : TG} (h : te σ H fun x H1 => g x σ H1 D.nx) : tAsg te g D σ H := h
instance (priority := 900) red_i_asg {g : TG} : Red (tAsg te g D σ H) (te σ H fun x H1 => g x σ H1 D.nx) := ⟨i_asg⟩
theorem i_drop (h : te σ H fun _ H1 => D.nx σ H1) : tDrop te D σ H := h
instance red_i_drop  : Red (tDrop te D σ H) (te σ H fun _ H1 => D.nx σ H1) := ⟨i_drop⟩
theorem i_ret (h : te σ H D.rt) : tRet te D σ H := h
instance red_i_ret  : Red (tRet te D σ H) (te σ H D.rt) := ⟨i_ret⟩
theorem i_retN (h : D.rt .non H) : tRetN D σ H := h
instance red_i_retN  : Red (tRetN D σ H) (D.rt .non H) := ⟨i_retN⟩
theorem i_brk (h : D.bk σ H) : tBreak D σ H := h
instance red_i_brk  : Red (tBreak D σ H) (D.bk σ H) := ⟨i_brk⟩
theorem i_cont (h : D.ct σ H) : tCont D σ H := h
instance red_i_cont  : Red (tCont D σ H) (D.ct σ H) := ⟨i_cont⟩
theorem i_ifS (h : c σ H fun b H1 => if b = true then t1 D σ H1 else t2 D σ H1) : tIfS c t1 t2 D σ H := h
instance red_i_ifS  : Red (tIfS c t1 t2 D σ H) (c σ H fun b H1 => if b = true then t1 D σ H1 else t2 D σ H1) := ⟨i_ifS⟩
theorem i_aug {ti : TIp} (e : σ[i]? = some (some x))
    (h : te σ H fun y H1 => ti x y H1 fun z H2 => D.nx (σ.set i (some z)) H2) : tAug i te ti D σ H := ⟨x, e, h⟩
theorem i_ipI {f : Int → Int → Int} (h : Q (.int (f n m)) H) : ipI f (.int n) (.int m) H Q := ⟨n, m, rfl, rfl, h⟩
instance red_i_ipI {f : Int → Int → Int} : Red (ipI f (.int n) (.int m) H Q) (Q (.int (f n m)) H) := ⟨i_ipI⟩
theorem i_par {i j : Nat} {tt : TA}
    (h : tt σ H fun vs H1 => ∃ v w, vs = [v, w] ∧ D.nx ((σ.set i (some v)).set j (some w)) H1) :
    tPar i j tt D σ H := h
instance red_i_par {i j : Nat} {tt : TA} : Red (tPar i j tt D σ H) (tt σ H fun vs H1 => ∃ v w, vs = [v, w] ∧ D.nx ((σ.set i (some v)).set j (some w)) H1) := ⟨i_par⟩
theorem i_two {P : V → V → Prop} (h : P x y) : ∃ v w, [x, y] = [v, w] ∧ P v w := ⟨x, y, rfl, h⟩

instance red_i_two {P : V → V → Prop} : Red (∃ v w, [x, y] = [v, w] ∧ P v w) (P x y) := ⟨i_two⟩
theorem i_var (e : σ[i]? = some (some v)) (h : Q v H) : tVar i σ H Q := ⟨v, e, h⟩
theorem i_c (h : Q v H) : tC v σ H Q := h
instance red_i_c  : Red (tC v σ H Q) (Q v H) := ⟨i_c⟩
theorem i_op {r : R2} (h : ta σ H fun x H1 => tb σ H1 fun y H2 => r x y H2 Q) : tOp r ta tb σ H Q := h
instance red_i_op {r : R2} : Red (tOp r ta tb σ H Q) (ta σ H fun x H1 => tb σ H1 fun y H2 => r x y H2 Q) := ⟨i_op⟩
theorem i_un {r : V → Hp → VK → Prop} (h : ta σ H fun x H1 => r x H1 Q) : tUn r ta σ H Q := h
instance red_i_un {r : V → Hp → VK → Prop} : Red (tUn r ta σ H Q) (ta σ H fun x H1 => r x H1 Q) := ⟨i_un⟩
theorem i_I0 {g : Int → Int → V} (h : Q (g n m) H) : rI0 g (.int n) (.int m) H Q := ⟨n, m, rfl, rfl, h⟩
instance red_i_I0 {g : Int → Int → V} : Red (rI0 g (.int n) (.int m) H Q) (Q (g n m) H) := ⟨i_I0⟩
theorem i_I {g : Int → Int → V} {C : Int → Int → Prop} (hc : C n m) (h : Q (g n m) H) :
    rI C g (.int n) (.int m) H Q := ⟨n, m, rfl, rfl, hc, h⟩
theorem i_U {g : Int → V} (h : Q (g n) H) : rU g (.int n) H Q := ⟨n, rfl, h⟩
instance red_i_U {g : Int → V} : Red (rU g (.int n) H Q) (Q (g n) H) := ⟨i_U⟩
theorem i_addI (h : Q (.int (n + m)) H) : uAdd K (.int n) (.int m) H Q := .inl ⟨n, m, rfl, rfl, h⟩
instance red_i_addI  : Red (uAdd K (.int n) (.int m) H Q) (Q (.int (n + m)) H) := ⟨i_addI⟩
theorem i_addS {z w : Str} (hz : z.length + w.length ≤ sizeLine) (h : Q (.str (z ++ w)) H) :
    uAdd K (.str z) (.str w) H Q := .inr (.inl ⟨z, w, rfl, rfl, hz, h⟩)
theorem i_mulI (hc : CMul n m) (h : Q (.int (n * m)) H) : uMul (.int n) (.int m) H Q :=
  .inl ⟨n, m, rfl, rfl, hc, h⟩
theorem i_mulW (hc : CMulW n m) (h : Q (.int (n * m)) H) : uMul (.int n) (.int m) H Q :=
  .inr (.inl ⟨n, m, rfl, rfl, hc, h⟩)
theorem i_eqI (h : Q (.bl (decide (n = m))) H) : uEq K (.int n) (.int m) H Q := by
  refine .inl ⟨rfl, ?_⟩
  have e : decide (V.int n = V.int m) = decide (n = m) := by
    rw [Bool.eq_iff_iff]
    simp
  rw [e]
  exact h
instance red_i_eqI  : Red (uEq K (.int n) (.int m) H Q) (Q (.bl (decide (n = m))) H) := ⟨i_eqI⟩
theorem i_neI (h : Q (.bl (!decide (n = m))) H) : uNe K (.int n) (.int m) H Q := by
  refine .inl ⟨rfl, ?_⟩
  have e : decide (V.int n = V.int m) = decide (n = m) := by
    rw [Bool.eq_iff_iff]
    simp
  rw [e]
  exact h
instance red_i_neI  : Red (uNe K (.int n) (.int m) H Q) (Q (.bl (!decide (n = m))) H) := ⟨i_neI⟩
theorem i_eqS {z w : Str} (h : Q (.bl (decide (z = w))) H) : uEq K (.str z) (.str w) H Q := by
  refine .inl ⟨rfl, ?_⟩
  have e : decide (V.str z = V.str w) = decide (z = w) := by
    rw [Bool.eq_iff_iff]
    simp
  rw [e]
  exact h
instance red_i_eqS {z w : Str} : Red (uEq K (.str z) (.str w) H Q) (Q (.bl (decide (z = w))) H) := ⟨i_eqS⟩
theorem i_neS {z w : Str} (h : Q (.bl (!decide (z = w))) H) : uNe K (.str z) (.str w) H Q := by
  refine .inl ⟨rfl, ?_⟩
  have e : decide (V.str z = V.str w) = decide (z = w) := by
    rw [Bool.eq_iff_iff]
    simp
  rw [e]
  exact h
instance red_i_neS {z w : Str} : Red (uNe K (.str z) (.str w) H Q) (Q (.bl (!decide (z = w))) H) := ⟨i_neS⟩
theorem i_eqD {d e : PyData} (hd : Dp K H x d) (he : Dp K H y e) (sd : SeqAt.shaped d = true)
    (se : SeqAt.shaped e = true) (h : Q (.bl (PyData.eqv d e)) H) : uEq K x y H Q :=
  .inr ⟨d, e, hd, he, sd, se, h⟩
theorem i_neD {d e : PyData} (hd : Dp K H x d) (he : Dp K H y e) (sd : SeqAt.shaped d = true)
    (se : SeqAt.shaped e = true) (h : Q (.bl (!PyData.eqv d e)) H) : uNe K x y H Q :=
  .inr ⟨d, e, hd, he, sd, se, h⟩
theorem i_ixL (hs : SqL K H p xs) (ha : atI xs n = some v) (h : Q v H) :
    uIx K (.ref p) (.int n) H Q := .inl ⟨p, xs, n, v, rfl, rfl, hs, ha, h⟩
theorem i_ixT (hs : SqT K H p xs) (ha : atI xs n = some v) (h : Q v H) :
    uIx K (.ref p) (.int n) H Q := .inr (.inl ⟨p, xs, n, v, rfl, rfl, hs, ha, h⟩)
theorem i_lenL (hs : SqL K H p xs) (h : Q (.int xs.length) H) : uLen K [.ref p] H Q :=
  .inl ⟨p, xs, rfl, .inl hs, h⟩
theorem i_lenT (hs : SqT K H p xs) (h : Q (.int xs.length) H) : uLen K [.ref p] H Q :=
  .inl ⟨p, xs, rfl, .inr hs, h⟩
theorem i_lenS {z : Str} (hz : z.length ≤ sizeLine) (h : Q (.int z.length) H) : uLen K [.str z] H Q :=
  .inr ⟨z, rfl, hz, h⟩

theorem i_test (h : te σ H fun x H1 => ∃ k, x = .bl k ∧ QB k H1) : tTest te σ H QB := h
instance red_i_test  : Red (tTest te σ H QB) (te σ H fun x H1 => ∃ k, x = .bl k ∧ QB k H1) := ⟨i_test⟩
theorem i_B (h : te σ H fun x H1 => ∃ k, x = .bl k ∧ QB k H1) : tB te σ H QB := h
instance red_i_B  : Red (tB te σ H QB) (te σ H fun x H1 => ∃ k, x = .bl k ∧ QB k H1) := ⟨i_B⟩
theorem i_bl {P : Bool → Prop} (h : P b) : ∃ k, V.bl b = .bl k ∧ P k := ⟨b, rfl, h⟩
instance red_i_bl {P : Bool → Prop} : Red (∃ k, V.bl b = .bl k ∧ P k) (P b) := ⟨i_bl⟩
theorem i_and (h : c σ H fun b H1 => if b = true then u σ H1 QB else QB false H1) : tAnd c u σ H QB := h
instance red_i_and  : Red (tAnd c u σ H QB) (c σ H fun b H1 => if b = true then u σ H1 QB else QB false H1) := ⟨i_and⟩
theorem i_or (h : c σ H fun b H1 => if b = true then QB true H1 else u σ H1 QB) : tOr c u σ H QB := h
instance red_i_or  : Red (tOr c u σ H QB) (c σ H fun b H1 => if b = true then QB true H1 else u σ H1 QB) := ⟨i_or⟩
theorem i_not (h : c σ H fun b H1 => QB (!b) H1) : tNot c σ H QB := h
instance red_i_not  : Red (tNot c σ H QB) (c σ H fun b H1 => QB (!b) H1) := ⟨i_not⟩
theorem i_andV (h : ta σ H fun x H1 => ∃ k, x = .bl k ∧ if k = true then tb σ H1 Q else Q (.bl false) H1) :
    tAndV ta tb σ H Q := h
instance red_i_andV  : Red (tAndV ta tb σ H Q) (ta σ H fun x H1 => ∃ k, x = .bl k ∧ if k = true then tb σ H1 Q else Q (.bl false) H1) := ⟨i_andV⟩
theorem i_orV (h : ta σ H fun x H1 => ∃ k, x = .bl k ∧ if k = true then Q (.bl true) H1 else tb σ H1 Q) :
    tOrV ta tb σ H Q := h
instance red_i_orV  : Red (tOrV ta tb σ H Q) (ta σ H fun x H1 => ∃ k, x = .bl k ∧ if k = true then Q (.bl true) H1 else tb σ H1 Q) := ⟨i_orV⟩
theorem i_notV (h : ta σ H fun x H1 => ∃ k, x = .bl k ∧ Q (.bl (!k)) H1) : tNotV ta σ H Q := h
instance red_i_notV  : Red (tNotV ta σ H Q) (ta σ H fun x H1 => ∃ k, x = .bl k ∧ Q (.bl (!k)) H1) := ⟨i_notV⟩
theorem i_ifE (h : c σ H fun b H1 => if b = true then ta σ H1 Q else tb σ H1 Q) : tIf c ta tb σ H Q := h
instance red_i_ifE  : Red (tIf c ta tb σ H Q) (c σ H fun b H1 => if b = true then ta σ H1 Q else tb σ H1 Q) := ⟨i_ifE⟩
theorem i_chain {r r' : R2} (h : ta σ H fun x H1 => tb σ H1 fun y H2 => r x y H2 fun z H3 =>
    ∃ k, z = .bl k ∧ if k = true then tc σ H3 fun w H4 => r' y w H4 Q else Q (.bl false) H3) :
    tChain r r' ta tb tc σ H Q := h
instance red_i_chain {r r' : R2} : Red (tChain r r' ta tb tc σ H Q) (ta σ H fun x H1 => tb σ H1 fun y H2 => r x y H2 fun z H3 =>
    ∃ k, z = .bl k ∧ if k = true then tc σ H3 fun w H4 => r' y w H4 Q else Q (.bl false) H3) := ⟨i_chain⟩
theorem i_nil (h : QA [] H) : tNil σ H QA := h
instance red_i_nil  : Red (tNil σ H QA) (QA [] H) := ⟨i_nil⟩
theorem i_cons (h : te σ H fun x H1 => tr σ H1 fun xs H2 => QA (x :: xs) H2) : tCons te tr σ H QA := h
instance red_i_cons  : Red (tCons te tr σ H QA) (te σ H fun x H1 => tr σ H1 fun xs H2 => QA (x :: xs) H2) := ⟨i_cons⟩
/-- for any new place -/
def New (H : Hp) (P : Addr → Prop) : Prop := ∀ p, H p = none → P p
theorem i_new {P : Addr → Prop} (h : ∀ p, Fr H p → P p) : New H P := fun p e => h p ⟨e⟩
theorem i_tup (h : tr σ H fun xs H1 => xs.length ≤ sizeLine ∧ New H1 fun p => Q (.ref p) (upd H1 p (.tup xs))) :
    tTup tr σ H Q := h
instance red_i_tup  : Red (tTup tr σ H Q) (tr σ H fun xs H1 => xs.length ≤ sizeLine ∧ New H1 fun p => Q (.ref p) (upd H1 p (.tup xs))) := ⟨i_tup⟩
theorem i_lst (h : tr σ H fun xs H1 => xs.length ≤ sizeLine ∧ New H1 fun p => Q (.ref p) (upd H1 p (.lst xs))) :
    tLst tr σ H Q := h
instance red_i_lst  : Red (tLst tr σ H Q) (tr σ H fun xs H1 => xs.length ≤ sizeLine ∧ New H1 fun p => Q (.ref p) (upd H1 p (.lst xs))) := ⟨i_lst⟩
theorem i_few {P : Prop} {n : Nat} (hn : n ≤ 1000) (h : P) : n ≤ sizeLine ∧ P :=
  ⟨Nat.le_trans hn (by decide), h⟩
theorem i_CB {r : List V → Hp → VK → Prop} (h : tr σ H fun vs H1 => r vs H1 Q) : tCB r tr σ H Q := h
instance red_i_CB {r : List V → Hp → VK → Prop} : Red (tCB r tr σ H Q) (tr σ H fun vs H1 => r vs H1 Q) := ⟨i_CB⟩
theorem i_call {sp : Sp} {dvs : List V} {E : XK} (h : tr σ H fun vs H1 => sp (vs ++ dvs) H1 Q E) :
    tCall sp dvs E tr σ H Q := h
instance (priority := 900) red_i_call {sp : Sp} {dvs : List V} {E : XK} : Red (tCall sp dvs E tr σ H Q) (tr σ H fun vs H1 => sp (vs ++ dvs) H1 Q E) := ⟨i_call⟩
theorem i_BM {T : String} {r : V → List V → Hp → VK → Prop}
    (h : te σ H fun x H1 => tyV K T x H1 ∧ tr σ H1 fun xs H2 => r x xs H2 Q) : tBM K T r te tr σ H Q := h
instance red_i_BM {T : String} {r : V → List V → Hp → VK → Prop} : Red (tBM K T r te tr σ H Q) (te σ H fun x H1 => tyV K T x H1 ∧ tr σ H1 fun xs H2 => r x xs H2 Q) := ⟨i_BM⟩
theorem i_BM0 {T : String} {r : V → List V → Hp → VK → Prop}
    (h : te σ H fun x H1 => tyV K T x H1 ∧ r x [] H1 Q) : tBM0 K T r te σ H Q := h
instance red_i_BM0 {T : String} {r : V → List V → Hp → VK → Prop} : Red (tBM0 K T r te σ H Q) (te σ H fun x H1 => tyV K T x H1 ∧ r x [] H1 Q) := ⟨i_BM0⟩
theorem i_tyL {P : Prop} (hs : SqL K H p xs) (h : P) : tyV K "list" (.ref p) H ∧ P :=
  ⟨.inl ⟨rfl, xs, hs⟩, h⟩
theorem i_app (hs : H p = some (.lst xs)) (hz : xs.length < sizeLine)
    (h : Q .non (upd H p (.lst (xs ++ [y])))) : rAppend (.ref p) [y] H Q := ⟨p, xs, y, rfl, rfl, hs, hz, h⟩
theorem i_repr {d : PyData} (hd : Dp K H x d) (hs : shw d = true) (hdp : d.depth ≤ 60)
    (hz : cw d ≤ sizeLine) (h : Q (.str d.shown) H) : rRepr K [x] H Q := ⟨x, d, rfl, hd, hs, hdp, hz, h⟩
theorem i_setL {S : Hp → Prop} {k : Nat} (hs : H p = some (.lst xs)) (hj : ixN xs.length n = some k)
    (h : S (upd H p (.lst (xs.set k v)))) : rSetL (.ref p) (.int n) v H S := ⟨p, xs, n, k, rfl, rfl, hs, hj, h⟩
theorem i_iList {R : It → Hp → Prop} (h : te σ H fun x H1 => ∃ a, x = .ref a ∧ (∃ xs, SqL K H1 a xs) ∧ R (Itl K a) H1) :
    iList K te σ H R := h
theorem i_For {wi : TI} {g : TG} (h : wi σ H fun J H1 => ∃ W : Nat → Nat → L2.St → Hp → Prop, (∃ m, W 0 m σ H1) ∧ ∀ i m σ H, W i m σ H →
    (J.stop i H ∧ D.nx σ H) ∨ (J.go i H ∧ ∃ Nx : L2.St → Hp → Prop, (∀ σ' H', Nx σ' H' → ∃ m', m' < m ∧ W (i + 1) m' σ' H') ∧
      ∀ x H', J.yld i H x H' → g x σ H' fun σ2 H2 => t1 { D with nx := Nx, ct := Nx, bk := D.nx } σ2 H2)) :
    tFor wi g t1 D σ H := h
theorem i_iteT {A B : Prop} (h : A) : if true = true then A else B := iteT h
instance red_i_iteT {A B : Prop} : Red (if true = true then A else B) (A) := ⟨i_iteT⟩
theorem i_iteF {A B : Prop} (h : B) : if false = true then A else B := iteF h
instance red_i_iteF {A B : Prop} : Red (if false = true then A else B) (B) := ⟨i_iteF⟩
theorem i_ntT {A B : Prop} (h : B) : if (!true) = true then A else B := iteF h
instance red_i_ntT {A B : Prop} : Red (if (!true) = true then A else B) (B) := ⟨i_ntT⟩
theorem i_ntF {A B : Prop} (h : A) : if (!false) = true then A else B := iteT h
instance red_i_ntF {A B : Prop} : Red (if (!false) = true then A else B) (A) := ⟨i_ntF⟩
theorem i_dec {p A B : Prop} [Decidable p] (h1 : p → A) (h2 : ¬ p → B) :
    if decide p = true then A else B := by
  by_cases h : p
  · rw [decide_eq_true h]
    exact iteT (h1 h)
  · rw [decide_eq_false h]
    exact iteF (h2 h)
theorem i_decN {p A B : Prop} [Decidable p] (h1 : ¬ p → A) (h2 : p → B) :
    if (!decide p) = true then A else B := by
  by_cases h : p
  · rw [decide_eq_true h]
    exact iteF (h2 h)
  · rw [decide_eq_false h]
    exact iteT (h1 h)
theorem i_boo {b : Bool} {A B : Prop} (h1 : b = true → A) (h2 : b = false → B) :
    if b = true then A else B := by
  cases b
  · exact iteF (h2 rfl)
  · exact iteT (h1 rfl)
end
section
variable {P : Program} {w : World} {K : PySem.W.Frag} {mg : Str → Option Value} {base : Heap}
/-- a def of the text, by its body -/
theorem okG {x qual : Str} {st : Stmt} {f : Addr} {fd : FuncData} {N ps : List Str} {k : Nat} {sp : Sp}
    (F : L2.Fun K x qual st f fd) (S : FnScope N ps (defScope st))
    (len : ∀ vs H Q E, sp vs H Q E → vs.length = ps.length)
    (hb : ∀ (cdv : Value) (A : Around) (outer : List Env) (s : Shared) (H : Hp) (vs : List V)
      (Q : VK) (E : XK), RoomG k (A.deeper (envOfC qual (defScope st) s.heap.objs.size f cdv)) →
      sp vs H Q E →
      ∃ t, PSs (cxOf (L2.CX P w) P w K mg base N qual (defScope st) f cdv A outer s H E) (defBody st) t ∧
        t { nx := fun _ H' => Q .non H', rt := Q } (start N vs) H) :
    FnG P w K mg base (k + 1) f fd ps sp := by
  obtain ⟨oc, od, kV, doc, pm, an, cdv, ct, osl, rfl, lk, hcd⟩ := F.ex
  exact FnG.body lk hcd S len fun A outer s H vs Q E z h => hb cdv A outer s H vs Q E z h
end
end G
namespace G
open PySem PySem.Spec PyProof.Rows L2
section
variable {K : PySem.W.Frag} {σ : L2.St} {H : Hp} {Q : VK} {D : Ends} {tb : TS} {te : TE} {g : TG}
variable {a p q l : Addr} {xs vs : List V} {v x y : V} {ds : List PyData} {S : L2.St → Hp → Prop}
theorem st_1 {N : List Str} {a : V} : L2.start N [a] = some a :: List.replicate (N.length - 1) none := rfl
theorem st_2 {N : List Str} {a b : V} : L2.start N [a, b] = some a :: some b :: List.replicate (N.length - 2) none := rfl
theorem st_3 {N : List Str} {a b c : V} :
    L2.start N [a, b, c] = some a :: some b :: some c :: List.replicate (N.length - 3) none := rfl
theorem st_4 {N : List Str} {a b c d : V} : L2.start N [a, b, c, d] =
    some a :: some b :: some c :: some d :: List.replicate (N.length - 4) none := rfl
theorem st_5 {N : List Str} {a b c d e : V} : L2.start N [a, b, c, d, e] =
    some a :: some b :: some c :: some d :: some e :: List.replicate (N.length - 5) none := rfl
theorem st_6 {N : List Str} {a b c d e f : V} : L2.start N [a, b, c, d, e, f] =
    some a :: some b :: some c :: some d :: some e :: some f :: List.replicate (N.length - 6) none := rfl
theorem i_gTup {n : Nat} {t : TGs} (hs : SqT K H p xs) (hl : xs.length = n) (h : t xs σ H S) :
    gTup K n t (.ref p) σ H S := ⟨p, xs, rfl, hs, hl, h⟩
theorem i_gCons {t : TG} {u : TGs} (h : t v σ H fun σ' H' => u xs σ' H' S) :
    gCons t u (v :: xs) σ H S := ⟨v, xs, rfl, h⟩
instance red_i_gCons {t : TG} {u : TGs} : Red (gCons t u (v :: xs) σ H S) (t v σ H fun σ' H' => u xs σ' H' S) := ⟨i_gCons⟩
theorem i_gNil (h : S σ H) : gNil [] σ H S := ⟨rfl, h⟩
instance red_i_gNil  : Red (gNil [] σ H S) (S σ H) := ⟨i_gNil⟩
theorem i_gName {i : Nat} (h : S (σ.set i (some v)) H) : gName i v σ H S := h
instance red_i_gName {i : Nat} : Red (gName i v σ H S) (S (σ.set i (some v)) H) := ⟨i_gName⟩
theorem i_gSub {to ti : TE} {t : TSet} (h : to σ H fun o H1 => ti σ H1 fun i H2 => t o i v H2 fun H3 => S σ H3) :
    gSub to ti t v σ H S := h
instance red_i_gSub {to ti : TE} {t : TSet} : Red (gSub to ti t v σ H S) (to σ H fun o H1 => ti σ H1 fun i H2 => t o i v H2 fun H3 => S σ H3) := ⟨i_gSub⟩
/-- a for over x, a list -/
def ForL (K : PySem.W.Frag) (x : V) (g : TG) (tb : TS) (D : Ends) (σ : L2.St) (H : Hp) : Prop :=
  ∃ a, x = .ref a ∧ (∃ ys, SqL K H a ys) ∧ ∃ W : Nat → Nat → L2.St → Hp → Prop,
    (∃ m, W 0 m σ H) ∧ ∀ i m σ H, W i m σ H → ((Itl K a).stop i H ∧ D.nx σ H) ∨
      ((Itl K a).go i H ∧ ∃ Nx : L2.St → Hp → Prop,
        (∀ σ' H', Nx σ' H' → ∃ m', m' < m ∧ W (i + 1) m' σ' H') ∧
        ∀ x H', (Itl K a).yld i H x H' → g x σ H' fun σ2 H2 =>
          tb { D with nx := Nx, ct := Nx, bk := D.nx } σ2 H2)
theorem i_forL (h : te σ H fun x H1 => ForL K x g tb D σ H1) : tFor (iList K te) g tb D σ H := h
instance red_i_forL  : Red (tFor (iList K te) g tb D σ H) (te σ H fun x H1 => ForL K x g tb D σ H1) := ⟨i_forL⟩
theorem i_each (hs : SqL K H a xs) (Pv : Nat → L2.St → Hp → Prop) (h0 : Pv 0 σ H)
    (hl : ∀ i σ H, i ≤ xs.length → Pv i σ H → SqL K H a xs)
    (st : ∀ i x σ H, xs[i]? = some x → Pv i σ H → g x σ H fun σ2 H2 =>
      tb { D with nx := Pv (i + 1), ct := Pv (i + 1), bk := D.nx } σ2 H2)
    (hd : ∀ σ H, Pv xs.length σ H → D.nx σ H) : ForL K (.ref a) g tb D σ H :=
  ⟨a, rfl, ⟨_, hs⟩, for_list Pv h0 hl st hd⟩
/-- a for over range(n) -/
def ForR (vs : List V) (g : TG) (tb : TS) (D : Ends) (σ : L2.St) (H : Hp) : Prop :=
  ∃ j : Int, vs = [.int j] ∧ -(2 ^ 62) ≤ j ∧ j < 2 ^ 62 ∧
    ∃ W : Nat → Nat → L2.St → Hp → Prop, (∃ m, W 0 m σ H) ∧ ∀ i m σ H, W i m σ H →
      ((Itr 0 j.toNat).stop i H ∧ D.nx σ H) ∨ ((Itr 0 j.toNat).go i H ∧ ∃ Nx : L2.St → Hp → Prop,
        (∀ σ' H', Nx σ' H' → ∃ m', m' < m ∧ W (i + 1) m' σ' H') ∧
        ∀ x H', (Itr 0 j.toNat).yld i H x H' → g x σ H' fun σ2 H2 =>
          tb { D with nx := Nx, ct := Nx, bk := D.nx } σ2 H2)
theorem i_forR {ta : TA} (h : ta σ H fun vs H1 => ForR vs g tb D σ H1) : tFor (iRng1 ta) g tb D σ H := h
instance red_i_forR {ta : TA} : Red (tFor (iRng1 ta) g tb D σ H) (ta σ H fun vs H1 => ForR vs g tb D σ H1) := ⟨i_forR⟩
theorem i_turns {n : Int} (b1 : 0 ≤ n) (b2 : n < 2 ^ 62) (Pv : Nat → L2.St → Hp → Prop) (h0 : Pv 0 σ H)
    (st : ∀ (i : Nat) σ H, (i : Int) < n → Pv i σ H → g (.int i) σ H fun σ2 H2 =>
      tb { D with nx := Pv (i + 1), ct := Pv (i + 1), bk := D.nx } σ2 H2)
    (hd : ∀ σ H, Pv n.toNat σ H → D.nx σ H) : ForR [.int n] g tb D σ H := by
  refine ⟨n, rfl, by omega, b2, for_range Pv h0 (fun i σ H hi q => ?_) hd⟩
  have e : V.int (0 + (i : Int)) = V.int i := by rw [Int.zero_add]
  rw [e]
  exact st i σ H (by omega) q

theorem canLay_pairs : ∀ l : List (Int × Int), PyData.canLayAll0 (l.map d2) = true
  | [] => rfl
  | p :: l => by
    simp only [List.map_cons, PyData.canLayAll0, PyData.canLay0, canLay_pairs l]
    rfl
theorem depth_pairs : ∀ l : List (Int × Int), PyData.depthAll (l.map d2) ≤ 1
  | [] => Nat.zero_le _
  | p :: l => by
    simp only [List.map_cons, PyData.depthAll, PyData.depth]
    have q := depth_pairs l
    omega
theorem shaped_of {d : PyData} (h : d.canLay0 = true) (hd : d.depth ≤ 64) : SeqAt.shaped d = true := by
  unfold SeqAt.shaped
  rw [h, decide_eq_true hd]
  rfl
theorem shaped_pairs (l : List (Int × Int)) : SeqAt.shaped (.list (l.map d2)) = true := by
  refine shaped_of ?_ ?_
  · simp only [PyData.canLay0]
    exact canLay_pairs l
  · simp only [PyData.depth]
    have q := depth_pairs l
    omega
theorem shaped_nil : SeqAt.shaped (.list []) = true := by decide +kernel
theorem eqv_nil (ds : List PyData) : PyData.eqv (.list ds) (.list []) = ds.isEmpty := by
  cases ds <;> simp [PyData.eqv, PyData.eqvAll]
/-- xs == [], xs != [] -/
theorem eq_nil (ld : LD K H l ds) (hi : imms ds = true) (hs : SeqAt.shaped (.list ds) = true)
    (hq : Fr H q) (h : Q (.bl ds.isEmpty) (upd H q (.lst []))) :
    uEq K (.ref l) (.ref q) (upd H q (.lst [])) Q := by
  refine i_eqD (LD.dp (ld.kp (Kp.new hq) hi List.not_mem_nil)) (.lst (SqL.of upd_same) .nil) hs
    shaped_nil ?_
  rw [eqv_nil]
  exact h
theorem ne_nil (ld : LD K H l ds) (hi : imms ds = true) (hs : SeqAt.shaped (.list ds) = true)
    (hq : Fr H q) (h : Q (.bl (!ds.isEmpty)) (upd H q (.lst []))) :
    uNe K (.ref l) (.ref q) (upd H q (.lst [])) Q := by
  refine i_neD (LD.dp (ld.kp (Kp.new hq) hi List.not_mem_nil)) (.lst (SqL.of upd_same) .nil) hs
    shaped_nil ?_
  rw [eqv_nil]
  exact h
theorem dpa_last {d : PyData} : ∀ {ds : List PyData} {vs : List V}, DpAll K H vs (ds ++ [d]) →
    ∃ us x, vs = us ++ [x] ∧ DpAll K H us ds ∧ Dp K H x d
  | [], _, h => by
    cases h with
    | cons h1 h2 =>
      cases h2
      exact ⟨[], _, rfl, .nil, h1⟩
  | _ :: ds, _, h => by
    cases h with
    | cons h1 h2 =>
      obtain ⟨us, x, e, q1, q2⟩ := dpa_last h2
      exact ⟨_ :: us, x, by rw [e]; rfl, .cons h1 q1, q2⟩
theorem list_last {α : Type} {l : List α} (h : l ≠ []) : ∃ f q, l = f ++ [q] :=
  ⟨l.dropLast, l.getLast h, (List.dropLast_concat_getLast h).symm⟩
theorem ix_last (n : Nat) : ixN (n + 1) (-1) = some n := by
  unfold ixN
  rw [if_neg (by decide), if_pos (by omega)]
  congr 1
  omega
theorem set_last {α : Type} (l : List α) (a b : α) : (l ++ [a]).set l.length b = l ++ [b] := by
  rw [List.set_append_right _ _ (Nat.le_refl _)]
  simp
theorem upd_nn {o : HO} {u : Option HO} {b : Addr} (h : b ≠ a) (k : H b = u) : upd H a o b = u :=
  (upd_ne h).trans k
/-- what is not tracked then was not tracked before -/
def Old (H H' : Hp) : Prop := ∀ a, H' a = none → H a = none
theorem Old.refl : Old H H := fun _ h => h
theorem old_upd {H1 : Hp} {o : HO} (h : Old H H1) : Old H (upd H1 p o) := fun x e => by
  refine h x ?_
  by_cases z : x = p
  · rw [z, upd_same] at e
    cases e
  · rw [upd_ne z] at e
    exact e
theorem old_kp {H1 H2 : Hp} {ws : List Addr} (k : Kp ws H1 H2) (h : Old H H1) : Old H H2 :=
  fun x e => h x (k.free ⟨e⟩).e
theorem fr_of {H1 : Hp} {x : Addr} (h : Fr H1 x) (o : Old H H1) : Fr H x := ⟨o x h.e⟩
theorem small_sz {n : Nat} (h : n ≤ 1000000) : n < sizeLine := Nat.lt_of_le_of_lt h (by decide)
theorem sqT_new {o : HO} (h : SqT K H a xs) (hq : Fr H q) : SqT K (upd H q o) a xs :=
  (Kp.new (ws := []) hq).seqT h
theorem sqT_lst {o : HO} {ys : List V} (h : SqT K H a xs) (hq : H q = some (.lst ys)) :
    SqT K (upd H q o) a xs :=
  (Kp.mut (ws := [q]) hq (fun z => z) (List.mem_singleton.mpr rfl)).seqT h
theorem i_boN {b : Bool} {A B : Prop} (h1 : b = false → A) (h2 : b = true → B) :
    if (!b) = true then A else B := by
  cases b
  · exact iteT (h1 rfl)
  · exact iteF (h2 rfl)
theorem map_get {α β : Type} {l : List α} {f : α → β} {i : Nat} {d : β} (h : (l.map f)[i]? = some d) :
    ∃ p, l[i]? = some p ∧ d = f p := by
  rw [List.getElem?_map] at h
  cases e : l[i]? with
  | none => rw [e] at h; cases h
  | some p => rw [e] at h; cases h; exact ⟨p, rfl, rfl⟩
end
end G
namespace G
open PySem PySem.Spec PyProof.Rows L2
section
variable {K : PySem.W.Frag} {σ : L2.St} {H : Hp} {Q : VK} {n m : Int} {a p : Addr} {xs : List V} {v : V}
def rAbs : List V → Hp → VK → Prop := fun xs H Q => ∃ i, xs = [.int i] ∧ Q (.int (if i < 0 then -i else i)) H
def rMax2 : List V → Hp → VK → Prop := fun xs H Q => ∃ i j, xs = [.int i, .int j] ∧ Q (.int (if j > i then j else i)) H
def rMin2 : List V → Hp → VK → Prop := fun xs H Q => ∃ i j, xs = [.int i, .int j] ∧ Q (.int (if j < i then j else i)) H
def rDm : List V → Hp → VK → Prop := fun xs H Q => ∃ i j, xs = [.int i, .int j] ∧ CDivP i j ∧
  ∀ p, H p = none → Q (.ref p) (upd H p (.tup [.int (i / j), .int (i % j)]))
def rListOf (K : PySem.W.Frag) : List V → Hp → VK → Prop := fun xs H Q => ∃ p ys, xs = [.ref p] ∧
  (SqL K H p ys ∨ SqT K H p ys) ∧ ∀ l, H l = none → Q (.ref l) (upd H l (.lst ys))
def rPow : R2 := rI CPow fun i j => .int (i ^ j.toNat)
def uMod : R2 := rI (fun _ j => 0 < j) fun i j => .int (i % j)
def uDiv : R2 := rI CDivW fun i j => .int (i / j)
theorem c_abs {X : Cx} : CallR X (.builtin "abs") rAbs := call_abs
theorem c_max2 {X : Cx} (hc : X.calm = true) : CallR X (.builtin "max") rMax2 := call_max2 hc
theorem c_min2 {X : Cx} (hc : X.calm = true) : CallR X (.builtin "min") rMin2 := call_min2 hc
theorem c_dm {X : Cx} : CallR X (.builtin "divmod") rDm := call_divmodW
theorem c_list {X : Cx} : CallR X (.type "list") (rListOf X.K) := call_list_of
theorem o_pow {X : Cx} : OpR X (binaryOp .Pow) rPow := op_pow
theorem o_mod {X : Cx} : OpR X (binaryOp .Mod) uMod := op_mod
theorem o_div {X : Cx} : OpR X (binaryOp .FloorDiv) uDiv := op_fdivW
theorem i_abs (h : Q (.int (n.natAbs : Int)) H) : rAbs [.int n] H Q := by
  refine ⟨n, rfl, ?_⟩
  have e : (if n < 0 then -n else n) = (n.natAbs : Int) := by split <;> omega
  rw [e]
  exact h
instance red_i_abs  : Red (rAbs [.int n] H Q) (Q (.int (n.natAbs : Int)) H) := ⟨i_abs⟩
theorem i_max2 (h : Q (.int (max n m)) H) : rMax2 [.int n, .int m] H Q := by
  refine ⟨n, m, rfl, ?_⟩
  have e : (if m > n then m else n) = max n m := by
    rw [Int.max_def]
    split <;> split <;> omega
  rw [e]
  exact h
instance red_i_max2  : Red (rMax2 [.int n, .int m] H Q) (Q (.int (max n m)) H) := ⟨i_max2⟩
theorem i_min2 (h : Q (.int (min n m)) H) : rMin2 [.int n, .int m] H Q := by
  refine ⟨n, m, rfl, ?_⟩
  have e : (if m < n then m else n) = min n m := by
    rw [Int.min_def]
    split <;> split <;> omega
  rw [e]
  exact h
instance red_i_min2  : Red (rMin2 [.int n, .int m] H Q) (Q (.int (min n m)) H) := ⟨i_min2⟩
theorem i_mod (hc : 0 < m) (h : Q (.int (n % m)) H) : uMod (.int n) (.int m) H Q := ⟨n, m, rfl, rfl, hc, h⟩
theorem i_listL (hs : SqL K H p xs) (h : New H fun l => Q (.ref l) (upd H l (.lst xs))) :
    rListOf K [.ref p] H Q := ⟨p, xs, rfl, .inl hs, h⟩
theorem i_listT (hs : SqT K H p xs) (h : New H fun l => Q (.ref l) (upd H l (.lst xs))) :
    rListOf K [.ref p] H Q := ⟨p, xs, rfl, .inr hs, h⟩
theorem pow_go {k : Int} (e : (10 : Int) ^ m.toNat = k) (hm : 0 ≤ m ∧ m ≤ 1000000) (h : Q (.int k) H) :
    rPow (.int 10) (.int m) H Q :=
  ⟨10, m, rfl, rfl, ⟨hm.1, hm.2, by decide⟩, by
    show Q (.int (10 ^ m.toNat)) H
    rw [e]
    exact h⟩
theorem i_pw6 (h : Q (.int 1000000) H) : rPow (.int 10) (.int 6) H Q :=
  pow_go rfl (by decide) h
instance red_i_pw6  : Red (rPow (.int 10) (.int 6) H Q) (Q (.int 1000000) H) := ⟨i_pw6⟩
theorem i_pw16 (h : Q (.int 10000000000000000) H) : rPow (.int 10) (.int 16) H Q :=
  pow_go rfl (by decide) h
instance red_i_pw16  : Red (rPow (.int 10) (.int 16) H Q) (Q (.int 10000000000000000) H) := ⟨i_pw16⟩
theorem i_pw18 (h : Q (.int 1000000000000000000) H) :
    rPow (.int 10) (.int 18) H Q := pow_go rfl (by decide) h
instance red_i_pw18  : Red (rPow (.int 10) (.int 18) H Q) (Q (.int 1000000000000000000) H) := ⟨i_pw18⟩
theorem i_pw58 (h : Q (.int 10000000000000000000000000000000000000000000000000000000000) H) :
    rPow (.int 10) (.int 58) H Q := pow_go rfl (by decide) h
instance red_i_pw58  : Red (rPow (.int 10) (.int 58) H Q) (Q (.int 10000000000000000000000000000000000000000000000000000000000) H) := ⟨i_pw58⟩
theorem i_pw59 (h : Q (.int 100000000000000000000000000000000000000000000000000000000000) H) :
    rPow (.int 10) (.int 59) H Q := pow_go rfl (by decide) h
instance red_i_pw59  : Red (rPow (.int 10) (.int 59) H Q) (Q (.int 100000000000000000000000000000000000000000000000000000000000) H) := ⟨i_pw59⟩
theorem i_pw60 (h : Q (.int 1000000000000000000000000000000000000000000000000000000000000) H) :
    rPow (.int 10) (.int 60) H Q := pow_go rfl (by decide) h
instance red_i_pw60  : Red (rPow (.int 10) (.int 60) H Q) (Q (.int 1000000000000000000000000000000000000000000000000000000000000) H) := ⟨i_pw60⟩
theorem i_pw61 (h : Q (.int 10000000000000000000000000000000000000000000000000000000000000) H) :
    rPow (.int 10) (.int 61) H Q := pow_go rfl (by decide) h
instance red_i_pw61  : Red (rPow (.int 10) (.int 61) H Q) (Q (.int 10000000000000000000000000000000000000000000000000000000000000) H) := ⟨i_pw61⟩
theorem log_small {j : Int} (h0 : 0 < j) (h : j ≤ 10000000000000000000000000000000000000000000000000000000000000000000000) :
    j.natAbs.log2 < 9000 := by
  have h1 : j.natAbs < 2 ^ 9000 := by
    have h2 : j.natAbs ≤ 10 ^ 70 := by
      have e : ((10 ^ 70 : Nat) : Int) = 10000000000000000000000000000000000000000000000000000000000000000000000 := by rfl
      omega
    exact Nat.lt_of_le_of_lt h2 (by decide +kernel)
  exact (Nat.log2_lt (by omega)).mpr h1
theorem divp_small {i j : Int} (h0 : 0 < j) (h : j.natAbs.log2 < 9000) : CDivP i j := by
  refine ⟨h0, ?_⟩
  have nz : ¬ (j == 0) = true := by
    simpa using (show j ≠ 0 by omega)
  unfold Builtin.divisionGoesByPylong
  simp only [nz]
  have e : ¬ (j.natAbs.log2 / 30 + 1 > 300) := by omega
  first
    | (simp only [e, decide_false, Bool.false_and]; done)
    | (simp [e]; done)
    | (simp; omega)
theorem i_dm (h0 : 0 < m)
    (h1 : m ≤ 10000000000000000000000000000000000000000000000000000000000000000000000)
    (h : New H fun q => Q (.ref q) (upd H q (.tup [.int (n / m), .int (n % m)]))) :
    rDm [.int n, .int m] H Q := ⟨n, m, rfl, divp_small h0 (log_small h0 h1), h⟩
theorem i_div (h0 : 0 < m)
    (h1 : m ≤ 10000000000000000000000000000000000000000000000000000000000000000000000)
    (h : Q (.int (n / m)) H) : uDiv (.int n) (.int m) H Q := ⟨n, m, rfl, rfl, ⟨h0, log_small h0 h1⟩, h⟩
/-- a pot: two numbers from which draws come -/
def PotAt (H : Hp) (p : Addr) : Prop :=
  ∃ x y : Int, H p = some (.lst [.int x, .int y]) ∧ 0 ≤ x ∧ 0 ≤ y ∧ y < 8589934592
theorem PotAt.kp {ws : List Addr} {H1 : Hp} (h : PotAt H p) (k : Kp ws H H1) (hp : p ∉ ws) : PotAt H1 p := by
  obtain ⟨x, y, e, r⟩ := h
  exact ⟨x, y, k.at_ _ _ e hp, r⟩
end
end G
namespace G
open PySem PySem.Spec PyProof.Rows L2
def dty : PyData → String
  | .none => "NoneType"
  | .bool _ => "bool"
  | .int _ => "int"
  | .str _ => "str"
  | .list _ => "list"
  | .tuple _ => "tuple"
  | .dict _ => "dict"
section
variable {K : PySem.W.Frag} {σ : L2.St} {H : Hp} {Q : VK} {n m : Int} {a p : Addr} {xs : List V} {v : V} {d : PyData}
theorem dp_ty (h : Dp K H v d) : TyX K H v (.type (dty d)) := by
  cases h with
  | non => exact .base .non
  | bl b => exact .base (.bl b)
  | int i => exact .base (.int i)
  | str x => exact .base (.str x)
  | lst hs ha =>
    rcases hs with (h | ⟨o, h⟩) | ⟨o, its, k, e, c, r⟩
    · exact .base (.lst h)
    · exact .base (.frz h)
    · exact .kList e c
  | tup hs ha =>
    rcases hs with (h | ⟨o, h⟩) | ⟨o, its, k, e, c, r⟩
    · exact .base (.tup h)
    · exact .fTuple h
    · exact .kTuple e c
theorem i_isD {T : String} {b : Bool} (hd : Dp K H v d) (e : kitB (dty d) T = some b) (h : Q (.bl b) H) :
    rIsi K [v, .ty T] H Q := ⟨v, .ty T, _, _, b, rfl, .ty T, dp_ty hd, kit_ty e, h⟩
theorem i_revL {te : TE} (h : te σ H fun x H1 => ∃ a xs, x = .ref a ∧ SqL K H1 a xs ∧
    New H1 fun p => Q (.ref p) (upd H1 p (.lst xs.reverse))) : tRevL K te σ H Q := h
instance red_i_revL {te : TE} : Red (tRevL K te σ H Q) (te σ H fun x H1 => ∃ a xs, x = .ref a ∧ SqL K H1 a xs ∧
    New H1 fun p => Q (.ref p) (upd H1 p (.lst xs.reverse))) := ⟨i_revL⟩
theorem i_revd {P : Addr → List V → Prop} (hs : SqL K H a xs) (h : P a xs) :
    ∃ b ys, V.ref a = .ref b ∧ SqL K H b ys ∧ P b ys := ⟨a, xs, rfl, hs, h⟩
def rIns : V → List V → Hp → VK → Prop := fun x vs H Q => ∃ (l : Addr) (xs : List V) (i : Int) (y : V),
  x = .ref l ∧ vs = [.int i, y] ∧ H l = some (.lst xs) ∧ xs.length < sizeLine ∧ 0 ≤ i ∧ i < 2 ^ 63 ∧
  Q .non (upd H l (.lst (xs.take i.toNat ++ [y] ++ xs.drop i.toNat)))
theorem m_insert {X : Cx} : MtR X "list.insert" rIns := mt_insert
theorem i_ins0 {y : V} (hs : H p = some (.lst xs)) (hz : xs.length < sizeLine)
    (h : Q .non (upd H p (.lst (y :: xs)))) : rIns (.ref p) [.int 0, y] H Q :=
  ⟨p, xs, 0, y, rfl, rfl, hs, hz, by decide, by decide, h⟩
theorem i_call0 {sp : Sp} {E : XK} {tr : TA} (h : tr σ H fun vs H1 => sp vs H1 Q E) :
    tCall sp [] E tr σ H Q := by
  unfold tCall
  simp only [List.append_nil]
  exact h
instance red_i_call0 {sp : Sp} {E : XK} {tr : TA} : Red (tCall sp [] E tr σ H Q) (tr σ H fun vs H1 => sp vs H1 Q E) := ⟨i_call0⟩
def rAllB (K : PySem.W.Frag) : List V → Hp → VK → Prop := rAll K
theorem i_all {bs : List Bool} (hs : SqL K H p (bs.map V.bl)) (h : Q (.bl (bs.all id)) H) :
    rAll K [.ref p] H Q := ⟨p, bs, rfl, hs, h⟩
theorem i_any {bs : List Bool} (hs : SqL K H p (bs.map V.bl)) (h : Q (.bl (bs.any id)) H) :
    rAny K [.ref p] H Q := ⟨p, bs, rfl, hs, h⟩
theorem i_sum {ns : List Int} (hs : SqL K H p (ns.map V.int)) (h : Q (.int ns.sum) H) :
    rSum K [.ref p] H Q := ⟨p, ns, rfl, hs, h⟩
/-- an item by an index that is not written -/
theorem at_in {l : List V} {r : Int} (h0 : 0 ≤ r) (h1 : r < l.length) : ∃ v, atI l r = some v ∧ v ∈ l := by
  obtain ⟨k, rfl⟩ : ∃ k : Nat, r = k := ⟨r.toNat, by omega⟩
  have hl : k < l.length := by omega
  exact ⟨l[k], atI_nat (by simp), List.getElem_mem hl⟩
end
section
variable {K : PySem.W.Frag} {σ : L2.St} {H H1 : Hp} {Q : VK} {a p l : Addr} {xs : List V} {g : TG} {tt : TT} {te : TE} {vs : List Nat} {QB : Bool → Hp → Prop}
/-- a comprehension over x, a list -/
def LcL (K : PySem.W.Frag) (x : V) (g : TG) (tt : TT) (te : TE) (vs : List Nat) (σ : L2.St) (H1 : Hp) (Q : VK) : Prop :=
  ∃ a, x = .ref a ∧ (∃ xs, SqL K H1 a xs) ∧ ∀ D, H1 D = none →
    ∃ W : Nat → Nat → Hp → Prop, (∃ m, W 0 m (upd H1 D (.lst []))) ∧ ∀ i m H, W i m H →
      ((Itl K a).stop i H ∧ Q (.ref D) H) ∨ ((Itl K a).go i H ∧ ∃ Nx : Hp → Prop,
        (∀ H', Nx H' → ∃ m', m' < m ∧ W (i + 1) m' H') ∧
        ∀ x H', (Itl K a).yld i H x H' → g x (wipe σ vs) H' fun σ2 H2 => wipe σ2 vs = wipe σ vs ∧ tt σ2 H2 fun b H3 =>
          if b = true then te σ2 H3 fun y H4 => ∃ acc, H4 D = some (.lst acc) ∧ acc.length < sizeLine ∧
            Nx (upd H4 D (.lst (acc ++ [y]))) else Nx H3)
theorem i_lcL {te' : TE} (h : te' σ H fun x H1 => LcL K x g tt te vs σ H1 Q) :
    tLc (iList K te') g tt te vs σ H Q := h
instance red_i_lcL {te' : TE} : Red (tLc (iList K te') g tt te vs σ H Q) (te' σ H fun x H1 => LcL K x g tt te vs σ H1 Q) := ⟨i_lcL⟩
theorem i_elts (hs : SqL K H a xs) (Pv : Addr → Nat → Hp → Prop)
    (h0 : ∀ D, Fr H D → Pv D 0 (upd H D (.lst [])))
    (hl : ∀ D i H', Fr H D → i ≤ xs.length → Pv D i H' → SqL K H' a xs)
    (st : ∀ D i x H', Fr H D → xs[i]? = some x → Pv D i H' → g x (wipe σ vs) H' fun σ2 H2 =>
      wipe σ2 vs = wipe σ vs ∧ tt σ2 H2 fun b H3 => if b = true then te σ2 H3 fun y H4 =>
        ∃ acc, H4 D = some (.lst acc) ∧ acc.length < sizeLine ∧ Pv D (i + 1) (upd H4 D (.lst (acc ++ [y])))
        else Pv D (i + 1) H3)
    (hd : ∀ D H', Fr H D → Pv D xs.length H' → Q (.ref D) H') : LcL K (.ref a) g tt te vs σ H Q := by
  refine ⟨a, rfl, ⟨_, hs⟩, fun D hD => ?_⟩
  exact lc_list (K := K) (a := a) (xs := xs) (Pv D) (h0 D ⟨hD⟩) (fun i H' => hl D i H' ⟨hD⟩)
    (fun i x H' => st D i x H' ⟨hD⟩) (fun H' => hd D H' ⟨hD⟩)
def LcR (ws : List V) (g : TG) (tt : TT) (te : TE) (vs : List Nat) (σ : L2.St) (H1 : Hp) (Q : VK) : Prop :=
  ∃ j : Int, ws = [.int j] ∧ -(2 ^ 62) ≤ j ∧ j < 2 ^ 62 ∧ ∀ D, H1 D = none →
    ∃ W : Nat → Nat → Hp → Prop, (∃ m, W 0 m (upd H1 D (.lst []))) ∧ ∀ i m H, W i m H →
      ((Itr 0 j.toNat).stop i H ∧ Q (.ref D) H) ∨ ((Itr 0 j.toNat).go i H ∧ ∃ Nx : Hp → Prop,
        (∀ H', Nx H' → ∃ m', m' < m ∧ W (i + 1) m' H') ∧
        ∀ x H', (Itr 0 j.toNat).yld i H x H' → g x (wipe σ vs) H' fun σ2 H2 => wipe σ2 vs = wipe σ vs ∧ tt σ2 H2 fun b H3 =>
          if b = true then te σ2 H3 fun y H4 => ∃ acc, H4 D = some (.lst acc) ∧ acc.length < sizeLine ∧
            Nx (upd H4 D (.lst (acc ++ [y]))) else Nx H3)
theorem i_lcR {ta : TA} (h : ta σ H fun ws H1 => LcR ws g tt te vs σ H1 Q) :
    tLc (iRng1 ta) g tt te vs σ H Q := h
instance red_i_lcR {ta : TA} : Red (tLc (iRng1 ta) g tt te vs σ H Q) (ta σ H fun ws H1 => LcR ws g tt te vs σ H1 Q) := ⟨i_lcR⟩
theorem i_reps {n : Int} (b1 : 0 ≤ n) (b2 : n < 2 ^ 62) (Pv : Addr → Nat → Hp → Prop)
    (h0 : ∀ D, Fr H D → Pv D 0 (upd H D (.lst [])))
    (st : ∀ D (i : Nat) H', Fr H D → (i : Int) < n → Pv D i H' → g (.int i) (wipe σ vs) H' fun σ2 H2 =>
      wipe σ2 vs = wipe σ vs ∧ tt σ2 H2 fun b H3 => if b = true then te σ2 H3 fun y H4 =>
        ∃ acc, H4 D = some (.lst acc) ∧ acc.length < sizeLine ∧ Pv D (i + 1) (upd H4 D (.lst (acc ++ [y])))
        else Pv D (i + 1) H3)
    (hd : ∀ D H', Fr H D → Pv D n.toNat H' → Q (.ref D) H') : LcR [.int n] g tt te vs σ H Q := by
  refine ⟨n, rfl, by omega, b2, fun D hD => ?_⟩
  refine lc_range (lo := 0) (n := n.toNat) (Pv D) (h0 D ⟨hD⟩) (fun i H' hi q => ?_) (fun H' => hd D H' ⟨hD⟩)
  have e : V.int (0 + (i : Int)) = V.int i := by rw [Int.zero_add]
  rw [e]
  exact st D i H' ⟨hD⟩ (by omega) q
theorem i_wipe {σ2 : L2.St} {P : Prop} (e : wipe σ2 vs = wipe σ vs) (h : P) : wipe σ2 vs = wipe σ vs ∧ P := ⟨e, h⟩
theorem i_yes (h : QB true H) : tYes σ H QB := h
instance red_i_yes  : Red (tYes σ H QB) (QB true H) := ⟨i_yes⟩
theorem i_acc {D : Addr} {y : V} {P : Hp → Prop} {acc : List V} (h1 : H D = some (.lst acc)) (h2 : acc.length < sizeLine)
    (h : P (upd H D (.lst (acc ++ [y])))) : ∃ acc, H D = some (.lst acc) ∧ acc.length < sizeLine ∧ P (upd H D (.lst (acc ++ [y]))) :=
  ⟨acc, h1, h2, h⟩
end
end G
namespace G
open PySem PySem.Spec PyProof.Rows L2
section
variable {K : PySem.W.Frag} {H H1 : Hp} {a p l q : Addr} {ws : List Addr} {o u : HO} {ds : List PyData}
theorem kp_at (k : Kp ws H H1) (h : H a = some u) (n : a ∉ ws) : H1 a = some u := k.at_ a u h n
theorem not_nil {α : Type} {a : α} : a ∉ ([] : List α) := List.not_mem_nil
theorem not_one {a b : Addr} (h : a ≠ b) : a ∉ [b] := fun z => h (List.mem_singleton.mp z)
theorem not_two {a b c : Addr} (h : a ≠ b) (h2 : a ≠ c) : a ∉ [b, c] := fun z => by
  rcases List.mem_cons.mp z with z | z
  · exact h z
  · exact h2 (List.mem_singleton.mp z)
theorem pot_upd (h : PotAt H p) (n : p ≠ q) : PotAt (upd H q o) p := by
  obtain ⟨x, y, e, r⟩ := h
  exact ⟨x, y, by rw [upd_ne n]; exact e, r⟩
theorem PotAt.ne {x : Addr} (h : PotAt H p) (f : Fr H x) : p ≠ x := by
  have hx := f.e
  obtain ⟨_, _, e, _⟩ := h
  exact ne_of_none e hx
theorem pot_ne {x : Addr} (hx : Fr H x) (h : PotAt H p) : p ≠ x := h.ne hx
theorem LD.ne {x : Addr} (h : LD K H l ds) (f : Fr H x) : l ≠ x := by
  have hx := f.e
  obtain ⟨_, e, _⟩ := h
  exact ne_of_none e hx
theorem ld_ne {x : Addr} (f : Fr H x) (h : LD K H l ds) : l ≠ x := h.ne f
theorem ld_upd (h : LD K H l ds) (hi : imms ds = true) (hq : Fr H q) : LD K (upd H q o) l ds := by
  have k : Kp ([] : List Addr) H (upd H q o) := Kp.new hq
  exact h.kp k hi not_nil
theorem ld_upl {ys : List V} (h : LD K H l ds) (hi : imms ds = true) (hq : H q = some (.lst ys))
    (n : l ≠ q) : LD K (upd H q o) l ds := by
  have k : Kp [q] H (upd H q o) := Kp.mut hq (fun z => z) (List.mem_singleton.mpr rfl)
  exact h.kp k hi (not_one n)
theorem sqL_new {xs : List V} (h : SqL K H a xs) (f : Fr H q) : SqL K (upd H q o) a xs :=
  (Kp.new (ws := []) f).seqL not_nil h
theorem sqL_kp {xs : List V} (k : Kp ws H H1) (h : SqL K H a xs) (n : a ∉ ws) : SqL K H1 a xs := k.seqL n h
theorem at_zero {x : V} {xs : List V} : atI (x :: xs) 0 = some x := atI_nat (j := 0) rfl
theorem ix_zero (n : Nat) : ixN (n + 1) 0 = some 0 := by
  unfold ixN
  rw [if_pos (by decide), if_pos (by omega)]
  rfl
theorem dpa_rev : ∀ {ds : List PyData} {vs : List V}, DpAll K H vs ds → DpAll K H vs.reverse ds.reverse
  | [], _, h => by cases h; exact .nil
  | _ :: _, _, h => by
    cases h with
    | cons h1 h2 =>
      rw [List.reverse_cons, List.reverse_cons]
      exact dpa_app (dpa_rev h2) (dpa_one h1)
/-- something is put behind -/
theorem ld_app {y : V} {d : PyData} {vs : List V} (h : DpAll K H vs ds) (e : H l = some (.lst vs))
    (hi : imms ds = true) (hd : Dp K H y d) (hj : imm d = true) : LD K (upd H l (.lst (vs ++ [y]))) l (ds ++ [d]) := by
  have k : Kp [l] H (upd H l (.lst (vs ++ [y]))) := Kp.mut e (fun z => z) (List.mem_singleton.mpr rfl)
  exact ⟨_, upd_same, dpa_app (dpa_imm k _ _ hi h) (dpa_one (dp_imm k _ _ hj hd))⟩
end
end G

namespace G
open PySem PySem.Spec PyProof.Rows L2
/-! the same rules, the written part named -/
section
variable {X : Cx} {K : PySem.W.Frag} {e : Expr} {es : List Expr} {te : TE} {t : TGs} {f : Str} {pos : Pos} {tg : Expr}
theorem k_add (h : X.K = K) : OpR X (binaryOp .Add) (uAdd K) := h ▸ o_add
theorem k_eq (h : X.K = K) (hu : X.A.units + 64 < cLine) : OpR X (compareOp .Eq) (uEq K) := h ▸ o_eq hu
theorem k_ne (h : X.K = K) (hu : X.A.units + 64 < cLine) : OpR X (compareOp .NotEq) (uNe K) := h ▸ o_ne hu
theorem k_ix (h : X.K = K) : IxR X (uIx K) := h ▸ o_ix
theorem k_len (h : X.K = K) : CallR X (.builtin "len") (uLen K) := h ▸ c_len
theorem k_list (h : X.K = K) : CallR X (.type "list") (rListOf K) := h ▸ c_list
theorem k_repr (h : X.K = K) (hg : X.A.guards = some []) (hu : X.A.units + 64 < cLine) :
    CallR X (.builtin "repr") (rRepr K) := h ▸ call_repr hg hu
theorem k_all (h : X.K = K) (hc : X.calm = true) : CallR X (.builtin "all") (rAll K) := h ▸ cr_all hc
theorem k_any (h : X.K = K) (hc : X.calm = true) : CallR X (.builtin "any") (rAny K) := h ▸ cr_any hc
theorem k_sum (h : X.K = K) (hc : X.calm = true) : CallR X (.builtin "sum") (rSum K) := h ▸ cr_sum hc
theorem k_isi (h : X.K = K) : CallR X (.builtin "isinstance") (rIsi K) := h ▸ call_isi
theorem k_sl (h : X.K = K) : SlR X (rSlL K) := h ▸ sl_list
theorem k_slT (h : X.K = K) : SlR X (rSlT K) := h ▸ sl_tup
theorem k_in (h : X.K = K) : OpR X (compareOp .In) (rIn K false) := h ▸ op_in_seq
theorem k_nin (h : X.K = K) : OpR X (compareOp .NotIn) (rIn K true) := h ▸ op_notIn_seq
theorem k_fld (h : X.K = K) (he : PE X e te) (hb : attributeBase e f X.env (eval e X.env) = eval e X.env) :
    PE X (.Attribute e f pos) (tFld K te f) := h ▸ pe_fld he hb
theorem k_plist (h : X.K = K) (he : PE X e te) : PI X tg e (iList K te) := h ▸ pi_list he
theorem k_ptup (h : X.K = K) (he : PE X e te) : PI X tg e (iTup K te) := h ▸ pi_tup he
theorem k_rev {k : Nat} {p1 p2 p3 : Pos} (h : X.K = K) (he : PE X e te) :
    PE X (.Subscript e (.Slice none none (some (.UnaryOp .USub (.Constant (.int 1) k p1) p2)) p3) pos) (tRevL K te) :=
  h ▸ pe_revL he
theorem k_gtup {k : Nat} (n : Nat) (h : X.K = K) (hc : X.calm = true) (hp : PGs X es t)
    (hn : (assignEach es X.env).length = n := by rfl)
    (hst : (assignEach es X.env).findIdx? (·.1) = none := by rfl) : PG X (.Tuple es k pos) (gTup K n t) :=
  h ▸ pg_tup hc hp hn hst
end
end G
namespace G
open PySem PySem.Spec PyProof.Rows L2
/-! what is tracked; what is fixed -/
structure Tr (H : Hp) (a : Addr) : Prop where
  ex : ∃ o, H a = some o
structure Fx (H H1 : Hp) : Prop where
  fx : ∀ a u, H a = some u → Fix u → H1 a = some u
section
variable {K : PySem.W.Frag} {H H0 H1 : Hp} {Q : VK} {a b p l q : Addr} {ws : List Addr} {o u : HO} {ds : List PyData} {xs : List V} {n : Int} {v : V}
theorem tr_of (h : H a = some o) : Tr H a := ⟨o, h⟩
theorem tr_same : Tr (upd H p o) p := ⟨o, upd_same⟩
theorem tr_upd (h : Tr H a) : Tr (upd H p o) a := by
  by_cases e : a = p
  · rw [e]
    exact tr_same
  · obtain ⟨u, h⟩ := h.ex
    exact ⟨u, by rw [upd_ne e]; exact h⟩
theorem tr_kp (k : Kp ws H H1) (h : Tr H a) : Tr H1 a := by
  obtain ⟨u, h⟩ := h.ex
  obtain ⟨v, e⟩ := k.dom _ _ h
  exact ⟨v, e⟩
theorem tr_ld (h : LD K H a ds) : Tr H a := by
  obtain ⟨vs, e, _⟩ := h
  exact ⟨_, e⟩
theorem tr_pot (h : PotAt H a) : Tr H a := by
  obtain ⟨x, y, e, _⟩ := h
  exact ⟨_, e⟩
theorem fr_tr (h : Tr H a) (f : Fr H b) : a ≠ b := by
  obtain ⟨u, e⟩ := h.ex
  exact fr_ne e f
theorem fx_refl : Fx H H := ⟨fun _ _ h _ => h⟩
theorem fx_new (h : Fx H0 H) (f : Fr H p) : Fx H0 (upd H p o) := ⟨fun a u e z => by
  have e2 := h.fx a u e z
  rw [upd_ne (fr_ne e2 f)]
  exact e2⟩
theorem fx_mut (h : Fx H0 H) (f : H p = some u) (nf : ¬ Fix u) : Fx H0 (upd H p o) := ⟨fun a v e z => by
  have e2 := h.fx a v e z
  rw [upd_ne]
  · exact e2
  · intro c
    subst c
    rw [f] at e2
    cases e2
    exact nf z⟩
theorem fx_kp (k : Kp ws H H1) (h : Fx H0 H) : Fx H0 H1 := ⟨fun a u e z => k.fix a u (h.fx a u e z) z⟩
theorem Fx.seqT (k : Fx H H1) (h : SqT K H l xs) : SqT K H1 l xs := by
  rcases h with (h | ⟨o, h⟩) | h
  · exact .inl (.inl (k.fx _ _ h trivial))
  · exact .inl (.inr ⟨o, k.fx _ _ h trivial⟩)
  · exact .inr h
mutual
theorem Fx.dp (k : Fx H H1) : ∀ (d : PyData) (v : V), imm d = true → Dp K H v d → Dp K H1 v d
  | .none, _, _, h => by cases h; exact .non
  | .bool b, _, _, h => by cases h; exact .bl b
  | .int i, _, _, h => by cases h; exact .int i
  | .str x, _, _, h => by cases h; exact .str x
  | .tuple ds, _, hi, h => by
    cases h with
    | tup hs ha => exact .tup (k.seqT hs) (Fx.dpa k ds _ (by simpa only [imm] using hi) ha)
  | .list _, _, hi, _ => by simp only [imm] at hi; cases hi
  | .dict _, _, hi, _ => by simp only [imm] at hi; cases hi
theorem Fx.dpa (k : Fx H H1) : ∀ (ds : List PyData) (vs : List V), imms ds = true →
    DpAll K H vs ds → DpAll K H1 vs ds
  | [], _, _, h => by cases h; exact .nil
  | d :: ds, _, hi, h => by
    simp only [imms, Bool.and_eq_true] at hi
    cases h with
    | cons h1 h2 => exact .cons (Fx.dp k d _ hi.1 h1) (Fx.dpa k ds _ hi.2 h2)
end
/-- an item of an object -/
def ixO : HO → Int → V → Prop
  | .lst xs, n, v => atI xs n = some v
  | .tup xs, n, v => atI xs n = some v
  | _, _, _ => False
theorem i_ixO (h : H p = some o) (hv : ixO o n v) (q : Q v H) : uIx K (.ref p) (.int n) H Q := by
  cases o with
  | lst xs => exact i_ixL (SqL.of h) hv q
  | tup xs => exact i_ixT (SqT.of h) hv q
  | _ => exact hv.elim
theorem i_ixS (h0 : SqT K H0 p xs) (k : Fx H0 H) (hv : atI xs n = some v) (q : Q v H) :
    uIx K (.ref p) (.int n) H Q := i_ixT (k.seqT h0) hv q
def lenO : HO → Int → Prop
  | .lst xs, n => n = xs.length
  | .tup xs, n => n = xs.length
  | _, _ => False
theorem i_lenO (h : H p = some o) (hv : lenO o n) (q : Q (.int n) H) : uLen K [.ref p] H Q := by
  cases o with
  | lst xs =>
    have e : n = xs.length := hv
    subst e
    exact i_lenL (SqL.of h) q
  | tup xs =>
    have e : n = xs.length := hv
    subst e
    exact i_lenT (SqT.of h) q
  | _ => exact hv.elim
end
end G
namespace G
open PySem PySem.Spec PyProof.Rows L2
section
variable {K : PySem.W.Frag} {H : Hp} {Q : VK} {x y : V} {d : PyData}
theorem ne_same (hx : Dp K H x d) (hy : Dp K H y d) (sh : SeqAt.shaped d = true) (h : Q (.bl false) H) :
    uNe K x y H Q := by
  refine i_neD hx hy sh sh ?_
  rw [SeqAt.eqv_refl d (SeqAt.canLay_of_shaped sh)]
  exact h
theorem eq_same (hx : Dp K H x d) (hy : Dp K H y d) (sh : SeqAt.shaped d = true) (h : Q (.bl true) H) :
    uEq K x y H Q := by
  refine i_eqD hx hy sh sh ?_
  rw [SeqAt.eqv_refl d (SeqAt.canLay_of_shaped sh)]
  exact h
/-- a number that may be shown -/
def okI (i : Int) : Prop := i.natAbs.log2 < 1920
theorem okI_of {i : Int} (h0 : -100000000000000000000000000000000000000000000000000000000000000000000000 ≤ i)
    (h1 : i ≤ 100000000000000000000000000000000000000000000000000000000000000000000000) : okI i := by
  unfold okI
  have h2 : i.natAbs ≤ 10 ^ 71 := by
    have e : ((10 ^ 71 : Nat) : Int) = 100000000000000000000000000000000000000000000000000000000000000000000000 := by rfl
    omega
  by_cases z : i.natAbs = 0
  · rw [z]
    decide
  · exact (Nat.log2_lt z).mpr (Nat.lt_of_le_of_lt h2 (by decide +kernel))
theorem shws_pairs : ∀ l : List (Int × Int), (∀ q ∈ l, okI q.1 ∧ okI q.2) → shws (l.map d2) = true
  | [], _ => rfl
  | q :: l, h => by
    have a := h q List.mem_cons_self
    have b := shws_pairs l fun z hz => h z (List.mem_cons_of_mem _ hz)
    simp only [List.map_cons, shws, shw, b, Bool.and_true, Bool.and_eq_true, decide_eq_true_eq]
    exact a
theorem cws_pairs : ∀ l : List (Int × Int), cws (l.map d2) = 3868 * l.length
  | [] => rfl
  | q :: l => by
    simp only [List.map_cons, cws, cw, cws_pairs l, List.length_cons]
    omega
theorem depth_list (l : List (Int × Int)) : (PyData.list (l.map d2)).depth ≤ 60 := by
  simp only [PyData.depth]
  have q := depth_pairs l
  omega
theorem repr_pairs {l : List (Int × Int)} (hx : Dp K H x (.list (l.map d2))) (h : ∀ q ∈ l, okI q.1 ∧ okI q.2)
    (hl : l.length ≤ 4000) (q : Q (.str (PyData.list (l.map d2)).shown) H) : rRepr K [x] H Q := by
  refine i_repr hx ?_ (depth_list l) ?_ q
  · simp only [shw]
    exact shws_pairs l h
  · have e : cw (.list (l.map d2)) = 3868 * l.length + 2 := by simp only [cw, cws_pairs]
    rw [e]
    exact Nat.le_trans (show 3868 * l.length + 2 ≤ 15472002 by omega) (by decide)
end
end G
namespace G
open PySem PySem.Spec PyProof.Rows L2
/-! methods, new instances, keywords -/
section
variable {X : Cx} {k n : Nat} {f C : Addr} {fd : FuncData} {ps ks : List Str} {sp : Sp}
variable {dvs : List V} {ds : List Value} {E : XK} {x m : Str} {p pos apos : Pos} {e o : Expr}
variable {es : List Expr} {kws : List Keyword} {ta : TE} {t tk : TA} {pins : List (Addr × Obj)} {σ : L2.St} {H : Hp}
variable {s s' : Shared} {Q : VK} {g : List Value → List Value → List Value} {gV : List V → List V → List V}
/-- defaults of which only the values are known -/
def BindsD (K : PySem.W.Frag) (fd : FuncData) (ps : List Str) (dvs : List V) : Prop :=
  ∃ ds, Vals dvs ds ∧ Binds K fd ps ds
def KBnD (K : PySem.W.Frag) (fd : FuncData) (ps : List Str) (n : Nat) (ks : List Str)
    (gV : List V → List V → List V) : Prop := ∃ g, KBn K fd ps n ks g gV
theorem BindsD.plain {K : PySem.W.Frag} (h : Binds K fd ps []) : BindsD K fd ps [] := ⟨[], .nil, h⟩
theorem d1 (F : Fg X k f fd ps sp) (z : RoomG k X.A) (hg : Gl X x) (hm : X.mg x = some (.ref f))
    (hk : PySem.W.keepIn X.K (.ref f) = true) (hb : BindsD X.K fd ps dvs)
    (hx : Ps X E) (ha : PA X (e :: es) t)
    (hdb : (x == ("__debug__" : Str)) = false := by decide)
    (he : starEach (e :: es) X.env = (false, eval e X.env) :: starEach es X.env := by rfl)
    (hpl : (backTo pos (starEach es X.env)).any (·.1) = false := by rfl) :
    PE X (.Call (.Name x p) (e :: es) [] pos) (tCall sp dvs E t) := by
  obtain ⟨ds, hd, hb⟩ := hb
  exact c1 F z hg hm hk hb hd hx ha hdb he hpl
theorem dm {pl : Sem Bool} (c : Cls X.K C) (hm : Meth X.K C m f)
    (F : Fg X k f fd ps sp) (z : RoomG k X.A) (hb : BindsD X.K fd ps dvs)
    (hx : Ps X E) (he : PE X o ta) (ha : PA X (e :: es) t)
    (hst : starEach (e :: es) X.env = (false, eval e X.env) :: starEach es X.env := by rfl)
    (hpl : (backTo pos (starEach es X.env)).any (·.1) = false := by rfl)
    (ht : eval (.Call (.Attribute o m apos) (e :: es) [] pos) X.env = (do
      let y ← eval o X.env
      standAt apos.atName
      let (g, a) ← holding [y] (getMethod y m pl)
      callWith pos g a (backTo pos (starEach (e :: es) X.env))
        (backToKw pos (keywordEach [] X.env))) := by rfl) :
    PE X (.Call (.Attribute o m apos) (e :: es) [] pos) (tMeth C m sp dvs E ta t) := by
  obtain ⟨ds, hd, hb⟩ := hb
  exact cm he c hm F z hb hd hx ha hst hpl ht
theorem dm0 {pl : Sem Bool} (c : Cls X.K C) (hm : Meth X.K C m f)
    (F : Fg X k f fd ps sp) (z : RoomG k X.A) (hb : BindsD X.K fd ps dvs)
    (hx : Ps X E) (he : PE X o ta)
    (ht : eval (.Call (.Attribute o m apos) [] [] pos) X.env = (do
      let y ← eval o X.env
      standAt apos.atName
      let (g, a) ← holding [y] (getMethod y m pl)
      callWith pos g a (backTo pos (starEach [] X.env))
        (backToKw pos (keywordEach [] X.env))) := by rfl) :
    PE X (.Call (.Attribute o m apos) [] [] pos) (tMeth C m sp dvs E ta tNil) := by
  obtain ⟨ds, hd, hb⟩ := hb
  exact cm0 he c hm F z hb hd hx ht
/-- a call of f with positional values and keywords -/
theorem runK {us ws : List Value} {vs zs : List V} (F : Fg X k f fd ps sp) (z : RoomG k X.A)
    (hb : KBn X.K fd ps n ks g gV) (hx : Ps X E) (I : Inv X pins σ H s) (rv : Vals vs us) (rz : Vals zs ws)
    (l1 : vs.length = n) (l2 : zs.length = ks.length) (h : sp (gV vs zs) H Q E) :
    wpAny (model X.prog X.w) X.A (call (.ref f) us (ks.zip ws)) (EP X pins σ Q) X.xe s := by
  have b := hb.to s us ws I.kIn (rv.length.symm.trans l1) (rz.length.symm.trans l2)
  refine wpAny_call (codeAny_mono (runG F z b hx I (hb.rel rv rz) h) ?_)
  intro r s' q
  match r, q with
  | .error e, q => exact q
  | .ok (.ret u), q => exact q
  | .ok .next, q => exact q
  | .ok .brk, q => exact q
  | .ok .cont, q => exact q
def tKw (n m : Nat) (sp : Sp) (gV : List V → List V → List V) (E : XK) (t tk : TA) : TE := fun σ H Q =>
  t σ H fun vs H1 => tk σ H1 fun zs H2 => vs.length = n ∧ zs.length = m ∧ sp (gV vs zs) H2 Q E
def tMw (C : Addr) (nm : Str) (n m : Nat) (sp : Sp) (gV : List V → List V → List V) (E : XK) (ta : TE) (t tk : TA) : TE :=
  fun σ H Q => ta σ H fun x H1 => ∃ a dx fs, x = .ref a ∧ H1 a = some (.ins C dx fs) ∧ fs.lookup nm = none ∧
    t σ H1 fun vs H2 => tk σ H2 fun zs H3 => vs.length = n ∧ zs.length = m ∧ sp (gV (x :: vs) zs) H3 Q E
theorem kc (F : Fg X k f fd ps sp) (z : RoomG k X.A) (hg : Gl X x) (hm : X.mg x = some (.ref f))
    (hk : PySem.W.keepIn X.K (.ref f) = true) (hb : KBnD X.K fd ps n ks gV) (hx : Ps X E)
    (ha : PA X (e :: es) t) (hkw : PK X kws tk)
    (hall : (backToKw pos (keywordEach kws X.env)).all (·.1.isSome) = true := by rfl)
    (hks : (backToKw pos (keywordEach kws X.env)).filterMap (·.1) = ks := by rfl)
    (hdb : (x == ("__debug__" : Str)) = false := by decide)
    (he : starEach (e :: es) X.env = (false, eval e X.env) :: starEach es X.env := by rfl)
    (hpl : ((backTo pos (starEach (e :: es) X.env)).any (·.1) ||
      (backToKw pos (keywordEach kws X.env)).any (·.1.isNone)) = false := by rfl) :
    PE X (.Call (.Name x p) (e :: es) kws pos) (tKw n ks.length sp gV E t tk) := by
  obtain ⟨g, hb⟩ := hb
  constructor
  intro pins s σ H Q I h
  refine wpAny_Call_Name_kw (ld_glob I hg hm ?_ hdb)
  refine PySem.W.callWith_KW (h₀ := X.base) I.ok.mod.kin hk hall ?_ hpl he
  refine thn (ha.run pos pins s σ H _ I h) ?_
  intro us s1 y
  obtain ⟨vs, H1, I1, r, q⟩ := y
  refine thn (hkw.run pos pins s1 σ H1 _ I1 q) ?_
  intro ws s2 y
  obtain ⟨zs, H2, I2, rz, l1, l2, q2⟩ := y
  refine ⟨I2.kIn, ?_⟩
  rw [hks]
  exact runK F z hb hx I2 r rz l1 l2 q2
theorem kc0 (F : Fg X k f fd ps sp) (z : RoomG k X.A) (hg : Gl X x) (hm : X.mg x = some (.ref f))
    (hk : PySem.W.keepIn X.K (.ref f) = true) (hb : KBnD X.K fd ps 0 ks gV) (hx : Ps X E)
    (hkw : PK X kws tk)
    (hall : (backToKw pos (keywordEach kws X.env)).all (·.1.isSome) = true := by rfl)
    (hks : (backToKw pos (keywordEach kws X.env)).filterMap (·.1) = ks := by rfl)
    (hdb : (x == ("__debug__" : Str)) = false := by decide)
    (hpl : ((backTo pos (starEach [] X.env)).any (·.1) ||
      (backToKw pos (keywordEach kws X.env)).any (·.1.isNone)) = false := by rfl) :
    PE X (.Call (.Name x p) [] kws pos) (tKw 0 ks.length sp gV E tNil tk) := by
  obtain ⟨g, hb⟩ := hb
  constructor
  intro pins s σ H Q I h
  refine wpAny_Call_Name_kw (ld_glob I hg hm ?_ hdb)
  refine PySem.W.callWith_KW0 (h₀ := X.base) I.ok.mod.kin hk hall ?_ hpl
  refine thn (hkw.run pos pins s σ H _ I h) ?_
  intro ws s2 y
  obtain ⟨zs, H2, I2, rz, l1, l2, q2⟩ := y
  refine ⟨I2.kIn, ?_⟩
  rw [hks]
  exact runK (us := []) (vs := []) F z hb hx I2 .nil rz l1 l2 q2
theorem km {pl : Sem Bool} (c : Cls X.K C) (hm : Meth X.K C m f)
    (F : Fg X k f fd ps sp) (z : RoomG k X.A) (hb : KBnD X.K fd ps (n + 1) ks gV)
    (hx : Ps X E) (he : PE X o ta) (ha : PA X (e :: es) t) (hkw : PK X kws tk)
    (hall : (backToKw pos (keywordEach kws X.env)).all (·.1.isSome) = true := by rfl)
    (hks : (backToKw pos (keywordEach kws X.env)).filterMap (·.1) = ks := by rfl)
    (hst : starEach (e :: es) X.env = (false, eval e X.env) :: starEach es X.env := by rfl)
    (hpl : ((backTo pos (starEach (e :: es) X.env)).any (·.1) ||
      (backToKw pos (keywordEach kws X.env)).any (·.1.isNone)) = false := by rfl)
    (ht : eval (.Call (.Attribute o m apos) (e :: es) kws pos) X.env = (do
      let y ← eval o X.env
      standAt apos.atName
      let (g, a) ← holding [y] (getMethod y m pl)
      callWith pos g a (backTo pos (starEach (e :: es) X.env))
        (backToKw pos (keywordEach kws X.env))) := by rfl) :
    PE X (.Call (.Attribute o m apos) (e :: es) kws pos) (tMw C m n ks.length sp gV E ta t tk) := by
  obtain ⟨g, hb⟩ := hb
  constructor
  intro pins s σ H Q I h
  refine PySem.W.methodCall_KW (pl := pl) (thn (he.run pins s σ H _ I h) ?_) ht
  intro u s1 y
  obtain ⟨v, H1, I1, rx, a, dx, fs, ex, ea, l, q⟩ := y
  subst ex
  obtain rfl : u = Value.ref a := rx
  refine getmeth_ok I1 ea c hm l ?_
  refine PySem.W.callWith_KW (first := [.ref a]) (h₀ := X.base) I.ok.mod.kin hm.kp hall ?_ hpl hst
  refine thn (ha.run pos pins s1 σ H1 _ I1 q) ?_
  intro us s2 y
  obtain ⟨vs, H2, I2, r, q2⟩ := y
  refine thn (hkw.run pos pins s2 σ H2 _ I2 q2) ?_
  intro ws s3 y
  obtain ⟨zs, H3, I3, rz, l1, l2, q3⟩ := y
  refine ⟨I3.kIn, ?_⟩
  rw [hks]
  exact runK (us := .ref a :: us) (vs := .ref a :: vs) F z hb hx I3 (.cons rfl r) rz (by rw [List.length_cons, l1]) l2 q3
theorem km0 {pl : Sem Bool} (c : Cls X.K C) (hm : Meth X.K C m f)
    (F : Fg X k f fd ps sp) (z : RoomG k X.A) (hb : KBnD X.K fd ps 1 ks gV)
    (hx : Ps X E) (he : PE X o ta) (hkw : PK X kws tk)
    (hall : (backToKw pos (keywordEach kws X.env)).all (·.1.isSome) = true := by rfl)
    (hks : (backToKw pos (keywordEach kws X.env)).filterMap (·.1) = ks := by rfl)
    (hpl : ((backTo pos (starEach [] X.env)).any (·.1) ||
      (backToKw pos (keywordEach kws X.env)).any (·.1.isNone)) = false := by rfl)
    (ht : eval (.Call (.Attribute o m apos) [] kws pos) X.env = (do
      let y ← eval o X.env
      standAt apos.atName
      let (g, a) ← holding [y] (getMethod y m pl)
      callWith pos g a (backTo pos (starEach [] X.env))
        (backToKw pos (keywordEach kws X.env))) := by rfl) :
    PE X (.Call (.Attribute o m apos) [] kws pos) (tMw C m 0 ks.length sp gV E ta tNil tk) := by
  obtain ⟨g, hb⟩ := hb
  constructor
  intro pins s σ H Q I h
  refine PySem.W.methodCall_KW (pl := pl) (thn (he.run pins s σ H _ I h) ?_) ht
  intro u s1 y
  obtain ⟨v, H1, I1, rx, a, dx, fs, ex, ea, l, q⟩ := y
  subst ex
  obtain rfl : u = Value.ref a := rx
  refine getmeth_ok I1 ea c hm l ?_
  refine PySem.W.callWith_KW0 (first := [.ref a]) (h₀ := X.base) I.ok.mod.kin hm.kp hall ?_ hpl
  refine thn (hkw.run pos pins s1 σ H1 _ I1 q) ?_
  intro ws s3 y
  obtain ⟨zs, H3, I3, rz, l1, l2, q3⟩ := y
  refine ⟨I3.kIn, ?_⟩
  rw [hks]
  exact runK (us := [.ref a]) (vs := [.ref a]) F z hb hx I3 (.cons rfl .nil) rz (by rw [List.length_singleton]) l2 q3
/-- a new instance, then its __init__ -/
def Made (C : Addr) (sp : Sp) (E : XK) (H : Hp) (Q : VK) (vs : Addr → List V) : Prop :=
  ∀ x dx, H x = none → H dx = none → dx ≠ x →
    sp (vs x) (upd (upd H dx (.own x)) x (.ins C dx [])) (fun v H2 => v = .non ∧ Q (.ref x) H2) E
theorem runM {vs : Addr → List V} (M : Mk X.K C f) (F : Fg X k f fd ps sp)
    (z : RoomG (k + 1) X.A) (hx : Ps X E) (I : Inv X pins σ H s) {us0 : List Value} {kw : List (Str × Value)}
    {us : Addr → List Value} (hb : ∀ (s : Shared) (x : Addr), X.K.In s.heap → BindsTo s fd ⟨.ref x :: us0, kw⟩ (ps.zip (us x)))
    (h : Made C sp E H Q vs)
    (rv : ∀ x, Vals (vs x) (us x)) :
    wpAny (model X.prog X.w) X.A (call (.ref C) us0 kw) (EP X pins σ Q) X.xe s := by
  have hq := h (s.heap.objs.size + 1) s.heap.objs.size (I.hok.fresh (Nat.le_succ _)) (I.hok.fresh (Nat.le_refl _))
    (Nat.ne_of_lt (Nat.lt_succ_self _))
  have I2 := Inv.made (C := C) I
  refine wpAny_call (make_map (f := f) I.kIn M.makes M.init (beq_iff_eq.mp M.fn) (codeAny_mono
    (F.run _ X.stack _ _ ⟨.ref (s.heap.objs.size + 1) :: us0, kw⟩ _ _ _ E (z.make C us0 kw)
      (I2.env0.make C us0 kw) (hb _ _ I2.kIn) (rv _) hq) ?_))
  intro r s' q
  match r, q with
  | .error e, q => exact hx pins σ _ _ e s' I2 q
  | .ok (.ret u), q =>
    obtain ⟨v, H', I3, rv, ev, q3⟩ := I2.after q
    subst ev
    exact ⟨rv, ⟨V.ref (s.heap.objs.size + 1), H', I3, rfl, q3⟩⟩
  | .ok .next, q => exact False.elim q
  | .ok .brk, q => exact False.elim q
  | .ok .cont, q => exact False.elim q
def tMk (C : Addr) (sp : Sp) (dvs : List V) (E : XK) (t : TA) : TE := fun σ H Q => t σ H fun vs H1 =>
  Made C sp E H1 Q fun x => .ref x :: (vs ++ dvs)
def tMkK (C : Addr) (n m : Nat) (sp : Sp) (gV : List V → List V → List V) (E : XK) (t tk : TA) : TE := fun σ H Q =>
  t σ H fun vs H1 => tk σ H1 fun zs H2 => vs.length = n ∧ zs.length = m ∧ Made C sp E H2 Q fun x => gV (.ref x :: vs) zs
theorem made_len {vs : Addr → List V} (F : Fg X k f fd ps sp) (I : Inv X pins σ H s) (h : Made C sp E H Q vs) :
    ∃ x, (vs x).length = ps.length := by
  have hq := h (s.heap.objs.size + 1) s.heap.objs.size (I.hok.fresh (Nat.le_succ _)) (I.hok.fresh (Nat.le_refl _))
    (Nat.ne_of_lt (Nat.lt_succ_self _))
  exact ⟨_, F.len _ _ _ _ hq⟩
theorem mk1 (M : Mk X.K C f) (F : Fg X k f fd ps sp) (z : RoomG (k + 1) X.A) (hg : Gl X x)
    (hm : X.mg x = some (.ref C)) (hb : BindsD X.K fd ps dvs) (hx : Ps X E) (ha : PA X (e :: es) t)
    (hdb : (x == ("__debug__" : Str)) = false := by decide)
    (he : starEach (e :: es) X.env = (false, eval e X.env) :: starEach es X.env := by rfl)
    (hpl : (backTo pos (starEach es X.env)).any (·.1) = false := by rfl) :
    PE X (.Call (.Name x p) (e :: es) [] pos) (tMk C sp dvs E t) := by
  obtain ⟨ds, hd, hb⟩ := hb
  constructor
  intro pins s σ H Q I h
  refine wpAny_Call_Name_kw (ld_glob I hg hm ?_ hdb)
  refine PySem.W.callWith_K (h₀ := X.base) I.ok.mod.kin M.kp ?_ he hpl
  refine thn (ha.run pos pins s σ H _ I h) ?_
  intro us s1 y
  obtain ⟨vs, H1, I1, r, q⟩ := y
  refine ⟨I1.kIn, ?_⟩
  obtain ⟨x0, hl⟩ := made_len F I1 q
  refine runM (us := fun x => .ref x :: (us ++ ds)) M F z hx I1 ?_ q (fun x => .cons rfl (r.append hd))
  intro s2 x2 kin
  refine hb s2 (.ref x2 :: us) kin ?_
  rw [← hl]
  have e1 := r.length
  have e2 := hd.length
  simp only [List.length_cons, List.length_append, List.cons_append] at *
  omega
theorem mk0 (M : Mk X.K C f) (F : Fg X k f fd ps sp) (z : RoomG (k + 1) X.A) (hg : Gl X x)
    (hm : X.mg x = some (.ref C)) (hb : BindsD X.K fd ps dvs) (hx : Ps X E)
    (hdb : (x == ("__debug__" : Str)) = false := by decide) :
    PE X (.Call (.Name x p) [] [] pos) (tMk C sp dvs E tNil) := by
  obtain ⟨ds, hd, hb⟩ := hb
  constructor
  intro pins s σ H Q I h
  refine wpAny_Call_Name_kw (ld_glob I hg hm ?_ hdb)
  refine PySem.W.callWith_K0 I.kIn M.kp ?_
  obtain ⟨x0, hl⟩ := made_len F I h
  refine runM (us0 := []) (us := fun x => .ref x :: ([] ++ ds)) M F z hx I ?_ h (fun x => .cons rfl (Vals.append .nil hd))
  intro s2 x2 kin
  refine hb s2 [.ref x2] kin ?_
  rw [← hl]
  have e2 := hd.length
  simp only [List.length_cons, List.length_append, List.cons_append, List.length_nil, List.nil_append] at *
  omega
theorem mkK (M : Mk X.K C f) (F : Fg X k f fd ps sp) (z : RoomG (k + 1) X.A) (hg : Gl X x)
    (hm : X.mg x = some (.ref C)) (hb : KBnD X.K fd ps (n + 1) ks gV) (hx : Ps X E) (ha : PA X (e :: es) t)
    (hkw : PK X kws tk)
    (hall : (backToKw pos (keywordEach kws X.env)).all (·.1.isSome) = true := by rfl)
    (hks : (backToKw pos (keywordEach kws X.env)).filterMap (·.1) = ks := by rfl)
    (hdb : (x == ("__debug__" : Str)) = false := by decide)
    (he : starEach (e :: es) X.env = (false, eval e X.env) :: starEach es X.env := by rfl)
    (hpl : ((backTo pos (starEach (e :: es) X.env)).any (·.1) ||
      (backToKw pos (keywordEach kws X.env)).any (·.1.isNone)) = false := by rfl) :
    PE X (.Call (.Name x p) (e :: es) kws pos) (tMkK C n ks.length sp gV E t tk) := by
  obtain ⟨g, hb⟩ := hb
  constructor
  intro pins s σ H Q I h
  refine wpAny_Call_Name_kw (ld_glob I hg hm ?_ hdb)
  refine PySem.W.callWith_KW (h₀ := X.base) I.ok.mod.kin M.kp hall ?_ hpl he
  refine thn (ha.run pos pins s σ H _ I h) ?_
  intro us s1 y
  obtain ⟨vs, H1, I1, r, q⟩ := y
  refine thn (hkw.run pos pins s1 σ H1 _ I1 q) ?_
  intro ws s2 y
  obtain ⟨zs, H2, I2, rz, l1, l2, q2⟩ := y
  refine ⟨I2.kIn, ?_⟩
  rw [hks]
  refine runM (us := fun x => g (.ref x :: us) ws) M F z hx I2 ?_ q2 (fun x => hb.rel (.cons rfl r) rz)
  intro s3 x3 kin
  refine hb.to s3 (.ref x3 :: us) ws kin ?_ (rz.length.symm.trans l2)
  rw [List.length_cons, ← r.length, l1]
theorem mkK0 (M : Mk X.K C f) (F : Fg X k f fd ps sp) (z : RoomG (k + 1) X.A) (hg : Gl X x)
    (hm : X.mg x = some (.ref C)) (hb : KBnD X.K fd ps 1 ks gV) (hx : Ps X E)
    (hkw : PK X kws tk)
    (hall : (backToKw pos (keywordEach kws X.env)).all (·.1.isSome) = true := by rfl)
    (hks : (backToKw pos (keywordEach kws X.env)).filterMap (·.1) = ks := by rfl)
    (hdb : (x == ("__debug__" : Str)) = false := by decide)
    (hpl : ((backTo pos (starEach [] X.env)).any (·.1) ||
      (backToKw pos (keywordEach kws X.env)).any (·.1.isNone)) = false := by rfl) :
    PE X (.Call (.Name x p) [] kws pos) (tMkK C 0 ks.length sp gV E tNil tk) := by
  obtain ⟨g, hb⟩ := hb
  constructor
  intro pins s σ H Q I h
  refine wpAny_Call_Name_kw (ld_glob I hg hm ?_ hdb)
  refine PySem.W.callWith_KW0 (h₀ := X.base) I.ok.mod.kin M.kp hall ?_ hpl
  refine thn (hkw.run pos pins s σ H _ I h) ?_
  intro ws s2 y
  obtain ⟨zs, H2, I2, rz, l1, l2, q2⟩ := y
  refine ⟨I2.kIn, ?_⟩
  rw [hks]
  refine runM (us0 := []) (us := fun x => g [.ref x] ws) M F z hx I2 ?_ q2 (fun x => hb.rel (.cons rfl .nil) rz)
  intro s3 x3 kin
  exact hb.to s3 [.ref x3] ws kin rfl (rz.length.symm.trans l2)
end
section
variable {P : Program} {w : World} {K : PySem.W.Frag} {mg : Str → Option Value} {base : Heap}
theorem okD {x qual : Str} {params : Arguments} {body : List Stmt} {scope : Scope} {dvs : List V} {kws : List (Str × V)}
    {f : Addr} {fd : FuncData} {N ps : List Str} {k : Nat} {sp : Sp}
    (F : FunD K x qual params body scope dvs kws f fd) (S : FnScope N ps scope)
    (len : ∀ vs H Q E, sp vs H Q E → vs.length = ps.length)
    (hb : ∀ (cdv : Value) (A : Around) (outer : List Env) (s : Shared) (H : Hp) (vs : List V)
      (Q : VK) (E : XK), RoomG k (A.deeper (envOfC qual scope s.heap.objs.size f cdv)) →
      sp vs H Q E →
      ∃ t, PSs (cxOf (L2.CX P w) P w K mg base N qual scope f cdv A outer s H E) body t ∧
        t { nx := fun _ H' => Q .non H', rt := Q } (start N vs) H) :
    FnG P w K mg base (k + 1) f fd ps sp := by
  obtain ⟨oc, od, dV, kV, doc, pm, an, cdv, ct, osl, rfl, lk, hcd, _, _⟩ := F.ex
  exact FnG.body lk hcd S len fun A outer s H vs Q E z h => hb cdv A outer s H vs Q E z h
end
/-! readings of these -/
section
variable {K : PySem.W.Frag} {σ : L2.St} {H : Hp} {Q : VK} {D : Ends} {a C dx p : Addr} {fs : List (Str × V)} {f m : Str} {v : V}
variable {ta tv : TE} {t tk : TA} {sp : Sp} {E : XK} {vs zs : List V} {gV : List V → List V → List V} {n k : Nat}
def MethR (C : Addr) (m : Str) (sp : Sp) (E : XK) (t : TA) (σ : L2.St) (x : V) (H1 : Hp) (Q : VK) : Prop :=
  ∃ a dx fs, x = .ref a ∧ H1 a = some (.ins C dx fs) ∧ fs.lookup m = none ∧ t σ H1 fun vs H2 => sp (x :: vs) H2 Q E
theorem i_meth (h : ta σ H fun x H1 => MethR C m sp E t σ x H1 Q) : tMeth C m sp [] E ta t σ H Q := by
  unfold tMeth
  simp only [List.append_nil]
  exact h
instance red_i_meth  : Red (tMeth C m sp [] E ta t σ H Q) (ta σ H fun x H1 => MethR C m sp E t σ x H1 Q) := ⟨i_meth⟩
theorem i_methR (ho : H a = some (.ins C dx fs)) (hl : fs.lookup m = none)
    (h : t σ H fun vs H2 => sp (.ref a :: vs) H2 Q E) : MethR C m sp E t σ (.ref a) H Q := ⟨a, dx, fs, rfl, ho, hl, h⟩
def MethW (C : Addr) (nm : Str) (n m : Nat) (sp : Sp) (gV : List V → List V → List V) (E : XK) (t tk : TA) (σ : L2.St) (x : V)
    (H1 : Hp) (Q : VK) : Prop := ∃ a dx fs, x = .ref a ∧ H1 a = some (.ins C dx fs) ∧ fs.lookup nm = none ∧
    t σ H1 fun vs H2 => tk σ H2 fun zs H3 => vs.length = n ∧ zs.length = m ∧ sp (gV (x :: vs) zs) H3 Q E
theorem i_methW (h : ta σ H fun x H1 => MethW C m n k sp gV E t tk σ x H1 Q) : tMw C m n k sp gV E ta t tk σ H Q := h
instance red_i_methW  : Red (tMw C m n k sp gV E ta t tk σ H Q) (ta σ H fun x H1 => MethW C m n k sp gV E t tk σ x H1 Q) := ⟨i_methW⟩
theorem i_methWR (ho : H a = some (.ins C dx fs)) (hl : fs.lookup m = none)
    (h : t σ H fun vs H2 => tk σ H2 fun zs H3 => vs.length = n ∧ zs.length = k ∧ sp (gV (.ref a :: vs) zs) H3 Q E) :
    MethW C m n k sp gV E t tk σ (.ref a) H Q := ⟨a, dx, fs, rfl, ho, hl, h⟩
theorem i_lens {P : Prop} (h1 : vs.length = n) (h2 : zs.length = k) (h : P) : vs.length = n ∧ zs.length = k ∧ P := ⟨h1, h2, h⟩
theorem i_kw (h : t σ H fun vs H1 => tk σ H1 fun zs H2 => vs.length = n ∧ zs.length = k ∧ sp (gV vs zs) H2 Q E) :
    tKw n k sp gV E t tk σ H Q := h
instance red_i_kw  : Red (tKw n k sp gV E t tk σ H Q) (t σ H fun vs H1 => tk σ H1 fun zs H2 => vs.length = n ∧ zs.length = k ∧ sp (gV vs zs) H2 Q E) := ⟨i_kw⟩
theorem i_mk (h : t σ H fun vs H1 => Made C sp E H1 Q fun x => .ref x :: vs) : tMk C sp [] E t σ H Q := by
  unfold tMk
  simp only [List.append_nil]
  exact h
instance red_i_mk  : Red (tMk C sp [] E t σ H Q) (t σ H fun vs H1 => Made C sp E H1 Q fun x => .ref x :: vs) := ⟨i_mk⟩
theorem i_mkD {dvs : List V} (h : t σ H fun vs H1 => Made C sp E H1 Q fun x => .ref x :: (vs ++ dvs)) : tMk C sp dvs E t σ H Q := h
instance (priority := 900) red_i_mkD {dvs : List V} : Red (tMk C sp dvs E t σ H Q) (t σ H fun vs H1 => Made C sp E H1 Q fun x => .ref x :: (vs ++ dvs)) := ⟨i_mkD⟩
theorem i_mkK (h : t σ H fun vs H1 => tk σ H1 fun zs H2 => vs.length = n ∧ zs.length = k ∧
    Made C sp E H2 Q fun x => gV (.ref x :: vs) zs) : tMkK C n k sp gV E t tk σ H Q := h
instance red_i_mkK  : Red (tMkK C n k sp gV E t tk σ H Q) (t σ H fun vs H1 => tk σ H1 fun zs H2 => vs.length = n ∧ zs.length = k ∧
    Made C sp E H2 Q fun x => gV (.ref x :: vs) zs) := ⟨i_mkK⟩
/-- an attribute -/
def FldR (K : PySem.W.Frag) (f : Str) (x : V) (H1 : Hp) (Q : VK) : Prop := ∃ a C dx fs v, x = .ref a ∧
  H1 a = some (.ins C dx fs) ∧ Cls K C ∧ NoAttr K C f ∧ fs.lookup f = some v ∧ Q v H1
theorem i_fld (h : ta σ H fun x H1 => FldR K f x H1 Q) : tFld K ta f σ H Q := h
instance red_i_fld  : Red (tFld K ta f σ H Q) (ta σ H fun x H1 => FldR K f x H1 Q) := ⟨i_fld⟩
theorem i_fldR (ho : H a = some (.ins C dx fs)) (c : Cls K C) (n : NoAttr K C f) (hl : fs.lookup f = some v)
    (h : Q v H) : FldR K f (.ref a) H Q := ⟨a, C, dx, fs, v, rfl, ho, c, n, hl, h⟩
def FldS (K : PySem.W.Frag) (f : Str) (y x : V) (D : Ends) (σ : L2.St) (H2 : Hp) : Prop := ∃ a C dx fs, x = .ref a ∧
  H2 a = some (.ins C dx fs) ∧ Cls K C ∧ NoAttr K C f ∧ fs.length < 1000 ∧ D.nx σ (upd H2 a (.ins C dx (putF f y fs)))
theorem i_fldS (h : tv σ H fun y H1 => ta σ H1 fun x H2 => FldS K f y x D σ H2) : sFld K ta tv f D σ H := h
instance red_i_fldS  : Red (sFld K ta tv f D σ H) (tv σ H fun y H1 => ta σ H1 fun x H2 => FldS K f y x D σ H2) := ⟨i_fldS⟩
theorem i_fldSR {y : V} (ho : H a = some (.ins C dx fs)) (c : Cls K C) (n : NoAttr K C f) (hl : fs.length < 1000)
    (h : D.nx σ (upd H a (.ins C dx (putF f y fs)))) : FldS K f y (.ref a) D σ H := ⟨a, C, dx, fs, rfl, ho, c, n, hl, h⟩
end
end G
namespace G
open PySem PySem.Spec PyProof.Rows L2
/-! the facts of the top -/
section
variable {K : PySem.W.Frag} {x qual : Str} {st : Stmt} {f D : Addr} {oc : Value} {od an : Option Addr} {osl : Array (Option Value)}
variable {kV doc pm cdv ct : Value} {ps : List Str}
theorem fund0 (l : K.lookup f = some ⟨oc, od, .func (PySem.W.fnOf x qual (defArgs st) (defBody st)
      (defScope st) .none kV doc pm an cdv ct), osl⟩)
    (c : PySem.W.codeIn K cdv qual = true) (k : PySem.W.keepIn K (.ref f) = true) :
    FunD K x qual (defArgs st) (defBody st) (defScope st) [] [] f
      (PySem.W.fnOf x qual (defArgs st) (defBody st) (defScope st) .none kV doc pm an cdv ct) :=
  ⟨⟨oc, od, .none, kV, doc, pm, an, cdv, ct, osl, rfl, l, c, .inl ⟨rfl, rfl⟩, .inl rfl⟩, k⟩
theorem fund1 {kws : List (Str × V)} (l : K.lookup f = some ⟨oc, od, .func (PySem.W.fnOf x qual (defArgs st) (defBody st)
      (defScope st) .none (.ref D) doc pm an cdv ct), osl⟩)
    (c : PySem.W.codeIn K cdv qual = true) (k : PySem.W.keepIn K (.ref f) = true)
    (q : ∀ q ∈ kws, ∃ u, PySem.W.nsIn K D q.1 = some (some u) ∧ RelV q.2 u) :
    FunD K x qual (defArgs st) (defBody st) (defScope st) [] kws f
      (PySem.W.fnOf x qual (defArgs st) (defBody st) (defScope st) .none (.ref D) doc pm an cdv ct) :=
  ⟨⟨oc, od, .none, .ref D, doc, pm, an, cdv, ct, osl, rfl, l, c, .inl ⟨rfl, rfl⟩, .inr ⟨D, rfl, q⟩⟩, k⟩
theorem kw_one {nm : Str} {v : V} {u : Value} (e : PySem.W.nsIn K D nm = some (some u)) (r : RelV v u) :
    ∀ q ∈ [(nm, v)], ∃ u, PySem.W.nsIn K D q.1 = some (some u) ∧ RelV q.2 u := fun q hq => by
  rw [List.mem_singleton.mp hq]
  exact ⟨u, e, r⟩
theorem kw_more {nm : Str} {v : V} {u : Value} {l : List (Str × V)} (e : PySem.W.nsIn K D nm = some (some u)) (r : RelV v u)
    (h : ∀ q ∈ l, ∃ u, PySem.W.nsIn K D q.1 = some (some u) ∧ RelV q.2 u) :
    ∀ q ∈ (nm, v) :: l, ∃ u, PySem.W.nsIn K D q.1 = some (some u) ∧ RelV q.2 u := fun q hq => by
  rcases List.mem_cons.mp hq with z | z
  · rw [z]
    exact ⟨u, e, r⟩
  · exact h q z
/-- positional values, then by places of what the keywords and the defaults give -/
def gp (idx : List Nat) {α : Type} (vs mz zs : List α) : List α := vs ++ idx.filterMap fun i => (zs ++ mz)[i]?
theorem vals_idx {vs : List V} {us : List Value} (r : Vals vs us) : ∀ idx : List Nat,
    Vals (idx.filterMap fun i => vs[i]?) (idx.filterMap fun i => us[i]?)
  | [] => .nil
  | i :: idx => by
    have ih := vals_idx r idx
    cases e : vs[i]? with
    | none =>
      have e2 := Vals.none_of r e
      rw [List.filterMap_cons_none e, List.filterMap_cons_none e2]
      exact ih
    | some v =>
      obtain ⟨u, e2, q⟩ := Vals.get r e
      rw [List.filterMap_cons_some e, List.filterMap_cons_some e2]
      exact .cons q ih
theorem gp_rel (idx : List Nat) {vs mz zs : List V} {us mv ws : List Value} (r : Vals vs us) (r1 : Vals mz mv) (r2 : Vals zs ws) :
    Vals (gp idx vs mz zs) (gp idx us mv ws) := r.append (vals_idx (r2.append r1) idx)
variable {params : Arguments} {body : List Stmt} {scope : Scope} {fd : FuncData} {kws : List (Str × V)}
theorem bindN (F : FunD K x qual params body scope [] [] f fd)
    (h : ∀ (kV doc pm : Value) (an : Option Addr) (cdv ct : Value) (us : List Value), us.length = ps.length →
      bindArgs (PySem.W.fnOf x qual params body scope .none kV doc pm an cdv ct) ⟨us, []⟩ = pure (ps.zip us)) :
    BindsD K fd ps [] := BindsD.plain (F.bindsN h)
theorem bindK (F : FunD K x qual params body scope [] kws f fd) (n : Nat) (hk : kws ≠ []) (hn : n + kws.length = ps.length)
    (h : ∀ (D : Addr) (doc pm : Value) (an : Option Addr) (cdv ct : Value) (us ks : List Value), us.length = n →
      ks.length = kws.length → KwChain D ((kws.map (·.1)).zip ks)
        (bindArgs (PySem.W.fnOf x qual params body scope .none (.ref D) doc pm an cdv ct) ⟨us, []⟩) (ps.zip (us ++ ks))) :
    BindsD K fd ps (kws.map (·.2)) := F.binds0 n hk hn h
theorem kbN (F : FunD K x qual params body scope [] [] f fd) (n : Nat) (ks : List Str) (idx : List Nat)
    (h : ∀ (kV doc pm : Value) (an : Option Addr) (cdv ct : Value) (us ws : List Value), us.length = n →
      ws.length = ks.length → bindArgs (PySem.W.fnOf x qual params body scope .none kV doc pm an cdv ct) ⟨us, ks.zip ws⟩ =
        pure (ps.zip (gp idx us [] ws))) : KBnD K fd ps n ks (fun vs zs => gp idx vs [] zs) := by
  refine ⟨fun us ws => gp idx us [] ws, ?_, fun r1 r2 => gp_rel idx r1 .nil r2⟩
  intro s us ws kin l1 l2
  obtain ⟨oc, od, dV, kV, doc, pm, an, cdv, ct, osl, rfl, lk, hcd, hD, hK⟩ := F.ex
  rcases hD with ⟨_, rfl⟩ | ⟨e, _⟩
  · exact .of_eq (h kV doc pm an cdv ct us ws l1 l2)
  · exact absurd rfl e
theorem kbK (F : FunD K x qual params body scope [] kws f fd) (n : Nat) (ks : List Str) (ms : List (Str × V)) (idx : List Nat)
    (hk : kws ≠ []) (hms : ∀ q ∈ ms, q ∈ kws)
    (h : ∀ (D : Addr) (doc pm : Value) (an : Option Addr) (cdv ct : Value) (us mv ws : List Value), us.length = n →
      mv.length = ms.length → ws.length = ks.length → KwChain D ((ms.map (·.1)).zip mv)
        (bindArgs (PySem.W.fnOf x qual params body scope .none (.ref D) doc pm an cdv ct) ⟨us, ks.zip ws⟩)
        (ps.zip (gp idx us mv ws))) : KBnD K fd ps n ks (fun vs zs => gp idx vs (ms.map (·.2)) zs) := by
  obtain ⟨mv, h⟩ := F.kbinds0 n ks ms (fun vs mz zs => gp idx vs mz zs) hk hms (fun r r1 r2 => gp_rel idx r r1 r2) h
  exact ⟨_, h⟩
end
end G
namespace G
open PySem PySem.Spec PyProof.Rows L2
section
variable {X : Cx} {K : PySem.W.Frag} {k n : Nat} {f C : Addr} {fd : FuncData} {ps : List Str} {sp : Sp}
variable {dvs : List V} {E : XK} {x m : Str} {p pos pos' : Pos} {e o value : Expr} {fl : Str} {ta tv : TE}
theorem d0 (F : Fg X k f fd ps sp) (z : RoomG k X.A) (hg : Gl X x) (hm : X.mg x = some (.ref f))
    (hk : PySem.W.keepIn X.K (.ref f) = true) (hb : BindsD X.K fd ps dvs)
    (hx : Ps X E) (hdb : (x == ("__debug__" : Str)) = false := by decide) :
    PE X (.Call (.Name x p) [] [] pos) (tCall sp dvs E tNil) := by
  obtain ⟨ds, hd, hb⟩ := hb
  exact c0 F z hg hm hk hb hd hx hdb
theorem k_sfld (h : X.K = K) (ha : PE X o ta) (hv : PE X value tv)
    (hs : swapsWith value (some (.Attribute o fl pos')) pos.line X.env = pure false) :
    PS X (.Assign [.Attribute o fl pos'] value pos) (sFld K ta tv fl) := h ▸ ps_fld ha hv hs
theorem k_pzip {e2 : Expr} {t : TA} {tpos : Pos} {elts : List Expr} {kk : Nat} (h : X.K = K) (hg : Gl X "zip") (hm : X.mg "zip" = none)
    (ha : PA X [e, e2] t) (hs : starEach [e, e2] X.env = (false, eval e X.env) :: starEach [e2] X.env := by rfl)
    (hpl : (backTo pos (starEach [e2] X.env)).any (·.1) = false := by rfl) :
    PI X (.Tuple elts kk tpos) (.Call (.Name "zip" p) [e, e2] [] pos) (iZip K t) := h ▸ pi_zip hg hm ha hs hpl
end
section
variable {K : PySem.W.Frag} {σ : L2.St} {H H1 : Hp} {Q : VK} {D : Ends} {tb : TS} {te : TE} {tt : TT} {g : TG}
variable {a b p q l C dx : Addr} {xs ys vs us : List V} {v x y : V} {fs : List (Str × V)} {f m : Str} {t ta : TE} {tr : TA} {sp : Sp} {E : XK}
variable {dvs : List V} {vn : List Nat}
theorem i_methD {t : TA} (h : ta σ H fun x H1 => MethR C m sp E (fun σ H Q => t σ H fun vs H' => Q (vs ++ dvs) H') σ x H1 Q) :
    tMeth C m sp dvs E ta t σ H Q := h
instance (priority := 900) red_i_methD {t : TA} : Red (tMeth C m sp dvs E ta t σ H Q) (ta σ H fun x H1 => MethR C m sp E (fun σ H Q => t σ H fun vs H' => Q (vs ++ dvs) H') σ x H1 Q) := ⟨i_methD⟩
theorem i_isNn (h : Q (.bl true) H) : rIsN .non .non H Q := ⟨rfl, h⟩
instance red_i_isNn  : Red (rIsN .non .non H Q) (Q (.bl true) H) := ⟨i_isNn⟩
theorem i_isNr (h : Q (.bl false) H) : rIsN (.ref a) .non H Q := ⟨rfl, h⟩
instance red_i_isNr  : Red (rIsN (.ref a) .non H Q) (Q (.bl false) H) := ⟨i_isNr⟩
theorem i_isNi {n : Int} (h : Q (.bl false) H) : rIsN (.int n) .non H Q := ⟨rfl, h⟩
instance red_i_isNi {n : Int} : Red (rIsN (.int n) .non H Q) (Q (.bl false) H) := ⟨i_isNi⟩
theorem i_notNn (h : Q (.bl false) H) : rNotN .non .non H Q := ⟨rfl, h⟩
instance red_i_notNn  : Red (rNotN .non .non H Q) (Q (.bl false) H) := ⟨i_notNn⟩
theorem i_notNr (h : Q (.bl true) H) : rNotN (.ref a) .non H Q := ⟨rfl, h⟩
instance red_i_notNr  : Red (rNotN (.ref a) .non H Q) (Q (.bl true) H) := ⟨i_notNr⟩
theorem i_notNi {n : Int} (h : Q (.bl true) H) : rNotN (.int n) .non H Q := ⟨rfl, h⟩
instance red_i_notNi {n : Int} : Red (rNotN (.int n) .non H Q) (Q (.bl true) H) := ⟨i_notNi⟩
/-- a for over zip of two lists -/
def ForZ (K : PySem.W.Frag) (ws : List V) (g : TG) (tb : TS) (D : Ends) (σ : L2.St) (H : Hp) : Prop :=
  ∃ a b xs ys, ws = [.ref a, .ref b] ∧ SqL K H a xs ∧ SqL K H b ys ∧ ∃ W : Nat → Nat → L2.St → Hp → Prop,
    (∃ m, W 0 m σ H) ∧ ∀ i m σ H, W i m σ H → ((Itz K a b).stop i H ∧ D.nx σ H) ∨
      ((Itz K a b).go i H ∧ ∃ Nx : L2.St → Hp → Prop,
        (∀ σ' H', Nx σ' H' → ∃ m', m' < m ∧ W (i + 1) m' σ' H') ∧
        ∀ x H', (Itz K a b).yld i H x H' → g x σ H' fun σ2 H2 =>
          tb { D with nx := Nx, ct := Nx, bk := D.nx } σ2 H2)
theorem i_forZ (h : tr σ H fun ws H1 => ForZ K ws g tb D σ H1) : tFor (iZip K tr) g tb D σ H := h
instance red_i_forZ  : Red (tFor (iZip K tr) g tb D σ H) (tr σ H fun ws H1 => ForZ K ws g tb D σ H1) := ⟨i_forZ⟩
theorem i_both (hx : SqL K H a xs) (hy : SqL K H b ys) (Pv : Nat → L2.St → Hp → Prop) (h0 : Pv 0 σ H)
    (hl : ∀ i σ H, Pv i σ H → SqL K H a xs ∧ SqL K H b ys)
    (st : ∀ i x y T σ H, xs[i]? = some x → ys[i]? = some y → Pv i σ H → Fr H T → g (.ref T) σ (upd H T (.tup [x, y])) fun σ2 H2 =>
      tb { D with nx := Pv (i + 1), ct := Pv (i + 1), bk := D.nx } σ2 H2)
    (hd : ∀ σ H, Pv (min xs.length ys.length) σ H → D.nx σ H) : ForZ K [.ref a, .ref b] g tb D σ H := by
  refine ⟨a, b, xs, ys, rfl, hx, hy, fun i m σ H => m = min xs.length ys.length - i ∧ i ≤ min xs.length ys.length ∧ Pv i σ H,
    ⟨_, rfl, Nat.zero_le _, h0⟩, ?_⟩
  rintro i m σ H ⟨rfl, hi, z⟩
  obtain ⟨qx, qy⟩ := hl i σ H z
  by_cases c : i < min xs.length ys.length
  · have c1 : i < xs.length := by omega
    have c2 : i < ys.length := by omega
    refine .inr ⟨⟨xs, ys, _, _, qx, qy, List.getElem?_eq_getElem c1, List.getElem?_eq_getElem c2⟩, Pv (i + 1),
      fun σ' H' w => ⟨_, by omega, rfl, by omega, w⟩, ?_⟩
    rintro v H' ⟨T, x', y', rfl, hT, rfl, f1, f2⟩
    exact st i x' y' T σ H (f1 xs qx) (f2 ys qy) z ⟨hT⟩
  · have e : i = min xs.length ys.length := by omega
    refine .inl ⟨⟨xs, ys, qx, qy, by omega⟩, hd σ H (by rw [← e]; exact z)⟩
/-- a comprehension over zip of two lists -/
def LcZ (K : PySem.W.Frag) (ws : List V) (g : TG) (tt : TT) (te : TE) (vs : List Nat) (σ : L2.St) (H1 : Hp) (Q : VK) : Prop :=
  ∃ a b xs ys, ws = [.ref a, .ref b] ∧ SqL K H1 a xs ∧ SqL K H1 b ys ∧ ∀ D, H1 D = none →
    ∃ W : Nat → Nat → Hp → Prop, (∃ m, W 0 m (upd H1 D (.lst []))) ∧ ∀ i m H, W i m H →
      ((Itz K a b).stop i H ∧ Q (.ref D) H) ∨ ((Itz K a b).go i H ∧ ∃ Nx : Hp → Prop,
        (∀ H', Nx H' → ∃ m', m' < m ∧ W (i + 1) m' H') ∧
        ∀ x H', (Itz K a b).yld i H x H' → g x (wipe σ vs) H' fun σ2 H2 => wipe σ2 vs = wipe σ vs ∧ tt σ2 H2 fun b H3 =>
          if b = true then te σ2 H3 fun y H4 => ∃ acc, H4 D = some (.lst acc) ∧ acc.length < sizeLine ∧
            Nx (upd H4 D (.lst (acc ++ [y]))) else Nx H3)
theorem i_lcZ (h : tr σ H fun ws H1 => LcZ K ws g tt te vn σ H1 Q) : tLc (iZip K tr) g tt te vn σ H Q := h
instance red_i_lcZ  : Red (tLc (iZip K tr) g tt te vn σ H Q) (tr σ H fun ws H1 => LcZ K ws g tt te vn σ H1 Q) := ⟨i_lcZ⟩
theorem i_eltz (hx : SqL K H a xs) (hy : SqL K H b ys) (Pv : Addr → Nat → Hp → Prop)
    (h0 : ∀ D, Fr H D → Pv D 0 (upd H D (.lst [])))
    (hl : ∀ D i H', Fr H D → Pv D i H' → SqL K H' a xs ∧ SqL K H' b ys)
    (st : ∀ D i x y T H', Fr H D → xs[i]? = some x → ys[i]? = some y → Pv D i H' → Fr H' T →
      g (.ref T) (wipe σ vn) (upd H' T (.tup [x, y])) fun σ2 H2 =>
      wipe σ2 vn = wipe σ vn ∧ tt σ2 H2 fun b H3 => if b = true then te σ2 H3 fun y H4 =>
        ∃ acc, H4 D = some (.lst acc) ∧ acc.length < sizeLine ∧ Pv D (i + 1) (upd H4 D (.lst (acc ++ [y])))
        else Pv D (i + 1) H3)
    (hd : ∀ D H', Fr H D → Pv D (min xs.length ys.length) H' → Q (.ref D) H') : LcZ K [.ref a, .ref b] g tt te vn σ H Q := by
  refine ⟨a, b, xs, ys, rfl, hx, hy, fun D hD => ⟨fun i m H => m = min xs.length ys.length - i ∧ i ≤ min xs.length ys.length ∧ Pv D i H,
    ⟨_, rfl, Nat.zero_le _, h0 D ⟨hD⟩⟩, ?_⟩⟩
  rintro i m H ⟨rfl, hi, z⟩
  obtain ⟨qx, qy⟩ := hl D i H ⟨hD⟩ z
  by_cases c : i < min xs.length ys.length
  · have c1 : i < xs.length := by omega
    have c2 : i < ys.length := by omega
    refine .inr ⟨⟨xs, ys, _, _, qx, qy, List.getElem?_eq_getElem c1, List.getElem?_eq_getElem c2⟩, Pv D (i + 1),
      fun H' w => ⟨_, by omega, rfl, by omega, w⟩, ?_⟩
    rintro v H' ⟨T, x', y', rfl, hT, rfl, f1, f2⟩
    exact st D i x' y' T H ⟨hD⟩ (f1 xs qx) (f2 ys qy) z ⟨hT⟩
  · have e : i = min xs.length ys.length := by omega
    refine .inl ⟨⟨xs, ys, qx, qy, by omega⟩, hd D H ⟨hD⟩ (by rw [← e]; exact z)⟩
/-- [v] * n -/
theorem i_rep {n : Int} (h : H l = some (.lst [v])) (h0 : 0 ≤ n) (h1 : n ≤ 1000000)
    (q : New H fun p => Q (.ref p) (upd H p (.lst (List.replicate n.toNat v)))) : rRep (.ref l) (.int n) H Q := by
  refine ⟨l, n, [v], rfl, rfl, h, by omega, by omega, ?_, fun p hp => ?_⟩
  · have e : ([v] : List V).length * n.toNat ≤ 1000000 := by
      rw [List.length_singleton]
      omega
    exact Nat.le_trans e (by decide)
  · have e : (List.replicate n.toNat [v]).flatten = List.replicate n.toNat v := by
      induction n.toNat with
      | zero => rfl
      | succ k ih => rw [List.replicate_succ, List.flatten_cons, ih, List.replicate_succ]; rfl
    rw [e]
    exact q p hp
/-- an object's entry -/
theorem Kp.upi {ws : List Addr} {H0 H1 : Hp} (k : Kp ws H0 H1) (h : H1 p = some (.ins C dx fs)) (hp : p ∈ ws) {o : HO} : Kp ws H0 (L2.upd H1 p o) :=
  k.trans (Kp.mut h (fun z => z) hp)
end
/-! ### runs and cells -/
def cells (ps : List (Int × Int)) : List Int := ps.flatMap fun p => List.replicate p.1.toNat p.2
def tag (c : Int) : Int × Int := (1, c)
end G
namespace G
open PySem PySem.Spec PyProof.Rows L2
section
variable {K : PySem.W.Frag} {σ : L2.St} {H H1 : Hp} {Q : VK} {a b p q l m C dx : Addr} {xs ys : List V} {fs : List (Str × V)} {o : HO}
variable {ds : List PyData} {ws : List Addr}
theorem i_addL (hx : H a = some (.lst xs)) (hy : H b = some (.lst ys)) (hz : xs.length + ys.length ≤ 1000000)
    (h : New H fun p => Q (.ref p) (upd H p (.lst (xs ++ ys)))) : uAdd K (.ref a) (.ref b) H Q :=
  .inr (.inr (.inl ⟨a, b, xs, ys, rfl, rfl, hx, hy, Nat.le_trans hz (by decide), h⟩))
theorem ld_ins (h : LD K H l ds) (hi : imms ds = true) (hq : H q = some (.ins C dx fs)) : LD K (upd H q o) l ds := by
  have k : Kp [q] H (L2.upd H q o) := Kp.mut hq (fun z => z) List.mem_cons_self
  refine h.kp k hi (not_one ?_)
  obtain ⟨vs, e, _⟩ := h
  intro z
  rw [z, hq] at e
  cases e
end
end G
namespace G
open L2 PySem
theorem fs_few {fs : List (Str × V)} (h : fs.length.blt 1000 = true) : fs.length < 1000 := by
  rw [Nat.blt_eq] at h
  exact h
end G
namespace G
open L2 PySem
theorem ld_push {K : PySem.W.Frag} {H0 H1 : Hp} {l : Addr} {vs : List V} {y : V} {ds : List PyData} {d : PyData} {ws : List Addr}
    (kp : Kp ws H0 H1) (h : DpAll K H0 vs ds) (hi : imms ds = true) (hv : H1 l = some (.lst (vs ++ [y]))) (hd : Dp K H1 y d) :
    LD K H1 l (ds ++ [d]) := ⟨_, hv, dpa_app (dpa_imm kp _ _ hi h) (dpa_one hd)⟩
end G
namespace G
open PySem PySem.Spec PyProof.Rows L2
/-! slices: read and written -/
section
variable {X : Cx} {o : Expr} {lo hi : Option Expr} {to : TE} {tl th : TO} {pos p2 : Pos}
def CutS (x : V) (i j : Option Int) (v : V) (H : Hp) (P : Hp → Prop) : Prop := ∃ l b xs ys a c, x = .ref l ∧ v = .ref b ∧
  i = some a ∧ j = some c ∧ H l = some (.lst xs) ∧ H b = some (.lst ys) ∧ l ≠ b ∧ 0 ≤ a ∧ a ≤ c ∧ c ≤ xs.length ∧
  xs.length + ys.length ≤ sizeLine ∧ P (upd H l (.lst (xs.take a.toNat ++ ys ++ xs.drop c.toNat)))
def gCut (to : TE) (tl th : TO) : TG := fun v σ H S => to σ H fun x H1 => tl σ H1 fun i H2 => th σ H2 fun j H3 =>
  CutS x i j v H3 fun H4 => S σ H4
theorem pg_cut (ho : PE X o to) (hl : PO X lo tl) (hu : PO X hi th)
    (ha : ∀ v, assign (.Subscript o (.Slice lo hi none p2) pos) X.env v = (do
      let ov ← holding [v] (eval o X.env)
      let iv ← holding [v, ov] (eval (.Slice lo hi none p2) X.env)
      standAt pos
      holding [v, ov, iv] (setItem ov iv v)
      release [iv, v, ov] []) := by intro _; rfl) :
    PG X (.Subscript o (.Slice lo hi none p2) pos) (gCut to tl th) := by
  constructor
  intro pins s σ H v u Q I r h
  rw [ha]
  refine wpAny_bind (wpAny_holding (thn (ho.run pins s σ H _ I h) ?_))
  rintro ov s1 ⟨x, H1, I1, r1, q1⟩
  refine wpAny_bind (wpAny_holding (PySem.wpAny_Slice (thn (hl.run pins s1 σ H1 _ I1 q1) ?_)))
  rintro vl s2 ⟨i, H2, I2, pl, q2⟩
  refine thn (hu.run pins s2 σ H2 _ I2 q2) ?_
  rintro vu s3 ⟨j, H3, I3, pu, q3⟩
  rw [evalPart_none]
  refine wpAny_pure ?_
  have I4 : Inv X pins σ H3 { s3 with heap := s3.heap.push { cls := .type "slice", data := .fields #[vl, vu, .none] } } :=
    I3.kept (t' := s3.toks) fun b ob z => Heap.get?_push_of_some _ z
  obtain ⟨l, b, xs, ys, a, c, rfl, rfl, rfl, rfl, e1, e2, ne, h0, hac, hc, hz, q⟩ := q3
  cases r1
  cases r
  cases pl
  rename_i ta
  cases pu
  rename_i tc
  refine wpAny_bind (wpAny_standAt (wpAny_bind (wpAny_holding ?_)))
  refine set_slice I4 e1 e2 ne (Heap.IsSliceOf.new ..) ⟨ta, rfl⟩ ⟨tc, rfl⟩ h0 hac hc hz ?_
  intro s5 I5
  exact wpAny_release ⟨σ, _, I5, q⟩
end
section
variable {K : PySem.W.Frag} {σ : L2.St} {H : Hp} {Q : VK} {a b l : Addr} {xs ys : List V} {r : V → Option Int → Option Int → Hp → VK → Prop}
variable {te to : TE} {tl th : TO} {P : Hp → Prop} {S : L2.St → Hp → Prop} {v x : V} {lo hi : Option Int} {R : Option Int → Hp → Prop}
theorem i_gCut (h : to σ H fun x H1 => tl σ H1 fun i H2 => th σ H2 fun j H3 => CutS x i j v H3 fun H4 => S σ H4) :
    gCut to tl th v σ H S := h
instance red_i_gCut  : Red (gCut to tl th v σ H S) (to σ H fun x H1 => tl σ H1 fun i H2 => th σ H2 fun j H3 => CutS x i j v H3 fun H4 => S σ H4) := ⟨i_gCut⟩
theorem i_cutS {i j : Int} (h1 : H l = some (.lst xs)) (h2 : H b = some (.lst ys)) (ne : l ≠ b) (h0 : 0 ≤ i ∧ i ≤ j ∧ j ≤ xs.length)
    (hz : xs.length + ys.length ≤ 1000000) (q : P (upd H l (.lst (xs.take i.toNat ++ ys ++ xs.drop j.toNat)))) :
    CutS (.ref l) (some i) (some j) (.ref b) H P :=
  ⟨l, b, xs, ys, i, j, rfl, rfl, rfl, rfl, h1, h2, ne, h0.1, h0.2.1, h0.2.2, Nat.le_trans hz (by decide), q⟩
theorem i_sl (h : te σ H fun x H1 => tl σ H1 fun l H2 => th σ H2 fun u H3 => r x l u H3 Q) : tSl r te tl th σ H Q := h
instance red_i_sl  : Red (tSl r te tl th σ H Q) (te σ H fun x H1 => tl σ H1 fun l H2 => th σ H2 fun u H3 => r x l u H3 Q) := ⟨i_sl⟩
theorem i_part (h : te σ H fun x H1 => ∃ i, x = .int i ∧ R (some i) H1) : tPart te σ H R := h
instance red_i_part  : Red (tPart te σ H R) (te σ H fun x H1 => ∃ i, x = .int i ∧ R (some i) H1) := ⟨i_part⟩
theorem i_partI {n : Int} {P : Int → Prop} (h : P n) : ∃ i, V.int n = .int i ∧ P i := ⟨n, rfl, h⟩
instance red_i_partI {n : Int} {P : Int → Prop} : Red (∃ i, V.int n = .int i ∧ P i) (P n) := ⟨i_partI⟩
theorem i_noPart (h : R none H) : tNoPart σ H R := h
instance red_i_noPart  : Red (tNoPart σ H R) (R none H) := ⟨i_noPart⟩
theorem i_slL (h : SqL K H a xs) (q : New H fun p => Q (.ref p) (upd H p (.lst (cutV xs lo hi)))) : rSlL K (.ref a) lo hi H Q :=
  ⟨a, xs, rfl, h, q⟩
end
theorem cutV_mid {xs : List V} {i j : Int} (h : 0 ≤ i ∧ i ≤ j ∧ j ≤ xs.length) :
    cutV xs (some i) (some j) = (xs.drop i.toNat).take (j.toNat - i.toNat) := by
  obtain ⟨a, rfl⟩ := Int.eq_ofNat_of_zero_le h.1
  obtain ⟨c, rfl⟩ := Int.eq_ofNat_of_zero_le (Int.le_trans h.1 h.2.1)
  unfold cutV
  rw [HT.sIx_nat, HT.sIx_nat, Int.toNat_natCast, Int.toNat_natCast, Nat.min_eq_left (by omega), Nat.min_eq_left (by omega)]
theorem cutV_tail (x : V) (xs : List V) : cutV (x :: xs) (some 1) none = xs := by
  have e := HT.sIx_nat (x :: xs).length 0 1
  unfold cutV
  rw [show ((1 : Int)) = ((1 : Nat) : Int) from rfl, e, HT.sIx_none, List.length_cons, Nat.min_eq_left (by omega), List.drop_succ_cons, List.drop_zero]
  exact List.take_of_length_le (by omega)
theorem ix_nat {n j : Nat} (h : j < n) : ixN n (j : Int) = some j := by
  unfold ixN
  rw [if_pos (by omega), if_pos (by omega), Int.toNat_natCast]
theorem ix_int {n : Nat} {j : Int} (h0 : 0 ≤ j) (h : j < n) : ixN n j = some j.toNat := by
  unfold ixN
  rw [if_pos h0, if_pos h]
/-- one of two -/
theorem at_two {f : Nat → V} {r : Int} (h0 : 0 ≤ r) (h1 : r < 2) : atI [f 0, f 1] r = some (f r.toNat) := by
  have e : r = 0 ∨ r = 1 := by omega
  rcases e with rfl | rfl <;> rfl
end G
set_option Elab.async false
set_option linter.all false
set_option maxRecDepth 100000
set_option maxHeartbeats 4000000
namespace My
open PySem L2 G
local macro_rules | `(tactic| walk_at "g_tr") => `(tactic| first
  | with_reducible assumption
  | (with_reducible exact tr_of (by with_reducible assumption))
  | with_reducible exact tr_same
  | ((with_reducible refine tr_upd ?_); walk_at "g_tr")
  | (with_reducible exact tr_pot (by with_reducible assumption))
  | (with_reducible exact tr_ld (by with_reducible assumption))
  | ((with_reducible apply tr_kp (by with_reducible assumption) ?h); (case h => walk_at "g_tr")))
local macro_rules | `(tactic| walk_at "g_ne") => `(tactic| first
  | with_reducible assumption
  | (with_reducible exact Ne.symm (by with_reducible assumption))
  | ((with_reducible apply fr_tr ?h (by with_reducible assumption)); (case h => walk_at "g_tr"))
  | ((with_reducible apply Ne.symm (fr_tr ?h (by with_reducible assumption))); (case h => walk_at "g_tr")))
local macro_rules | `(tactic| walk_at "g_hp") => `(tactic| first
  | with_reducible assumption
  | with_reducible apply upd_same
  | ((with_reducible apply upd_nn ?h ?k); (case h => walk_at "g_ne"); (case k => walk_at "g_hp"))
  | ((with_reducible apply kp_at (by with_reducible assumption) ?h ?n); (case n => walk_at "g_ni"); (case h => walk_at "g_hp")))
local macro_rules | `(tactic| walk_at "g_ni") => `(tactic| first
  | exact not_nil
  | with_reducible assumption
  | ((with_reducible refine not_one ?_); walk_at "g_ne")
  | ((with_reducible refine not_two ?_ ?_) <;> walk_at "g_ne"))
local macro_rules | `(tactic| walk_at "g_pot") => `(tactic| first
  | with_reducible assumption
  | ((with_reducible apply pot_upd ?h ?n); (case n => walk_at "g_ne"); (case h => walk_at "g_pot"))
  | ((with_reducible apply PotAt.kp ?h (by with_reducible assumption) ?n); (case n => walk_at "g_ni"); (case h => walk_at "g_pot")))
local macro_rules | `(tactic| walk_at "g_ld") => `(tactic| first
  | with_reducible assumption
  | ((with_reducible apply ld_upd ?h ?i ?n); (case n => walk_at "g_fr"); (case i => walk_at "g_im"); (case h => walk_at "g_ld"))
  | ((with_reducible apply ld_upl ?h ?i ?n ?m); (case n => walk_at "g_hp"); (case m => walk_at "g_ne"); (case i => walk_at "g_im"); (case h => walk_at "g_ld"))
  | ((with_reducible apply ld_ins ?h ?i ?n); (case n => walk_at "g_hp"); (case i => walk_at "g_im"); (case h => walk_at "g_ld"))
  | ((with_reducible apply LD.kp ?h (by with_reducible assumption) ?i ?n); (case n => walk_at "g_ni"); (case i => walk_at "g_im"); (case h => walk_at "g_ld")))
local macro_rules | `(tactic| walk_at "g_im") => `(tactic| first
  | with_reducible assumption
  | exact imms_d2 _
  | rfl)
local macro_rules | `(tactic| walk_at "g_fx") => `(tactic| first
  | with_reducible assumption
  | with_reducible exact fx_refl
  | ((with_reducible apply fx_new ?h ?f); (case f => with_reducible assumption); (case h => walk_at "g_fx"))
  | ((with_reducible apply fx_mut ?h ?f ?g); (case f => walk_at "g_hp"); (case g => exact fun z => z); (case h => walk_at "g_fx"))
  | ((with_reducible apply fx_kp (by with_reducible assumption) ?h); (case h => walk_at "g_fx")))
local macro_rules | `(tactic| walk_at "g_st") => `(tactic| first
  | with_reducible assumption
  | ((with_reducible apply Fx.seqT ?k (by with_reducible assumption)); (case k => walk_at "g_fx"))
  | ((with_reducible apply SqT.of ?h); (case h => walk_at "g_hp")))
local macro_rules | `(tactic| walk_at "g_sq") => `(tactic| first
  | with_reducible assumption
  | ((with_reducible apply SqL.of ?h); (case h => walk_at "g_hp"))
  | ((with_reducible apply sqL_new ?h (by with_reducible assumption)); (case h => walk_at "g_sq"))
  | ((with_reducible apply sqL_kp (by with_reducible assumption) ?h ?n); (case h => walk_at "g_sq"); (case n => walk_at "g_ni")))
local macro_rules | `(tactic| walk_at "g_kp") => `(tactic| first
  | with_reducible assumption
  | with_reducible exact Kp.refl
  | with_reducible exact Kp.wide (by with_reducible assumption)
  | ((with_reducible apply Kp.trans ?k (by with_reducible assumption)); (case k => walk_at "g_kp"))
  | ((with_reducible apply Kp.trans ?k (Kp.wide (by with_reducible assumption))); (case k => walk_at "g_kp"))
  | ((with_reducible apply Kp.trans ?k (Kp.mono (by with_reducible assumption) ?m)); (case m => simp only [List.mem_cons, List.not_mem_nil, or_false, forall_eq, true_or, or_true, List.mem_singleton, implies_true]); (case k => walk_at "g_kp"))
  | ((with_reducible apply Kp.upd ?k ?h); (case h => walk_at "g_fr"); (case k => walk_at "g_kp"))
  | ((with_reducible apply Kp.upi ?k ?h ?m); (case h => walk_at "g_hp"); (case m => simp only [List.mem_cons, true_or, or_true]); (case k => walk_at "g_kp"))
  | ((with_reducible apply Kp.upm ?k ?h ?m); (case h => walk_at "g_hp"); (case m => simp only [List.mem_cons, true_or, or_true]); (case k => walk_at "g_kp")))
local macro_rules | `(tactic| walk_at "g_old") => `(tactic| first
  | with_reducible exact Old.refl
  | ((with_reducible apply old_upd ?k); (case k => walk_at "g_old"))
  | ((with_reducible apply old_kp (by with_reducible assumption) ?k); (case k => walk_at "g_old")))
local macro_rules | `(tactic| walk_at "g_fr") => `(tactic| first
  | with_reducible assumption
  | ((with_reducible apply fr_of (by with_reducible assumption) ?o); (case o => walk_at "g_old")))
local macro_rules | `(tactic| walk_at "g_at") => `(tactic| first
  | assumption
  | exact atI_last _ _
  | exact at_zero
  | rfl)
local macro_rules | `(tactic| walk_at "g_sz") => `(tactic| first
  | assumption
  | ((with_reducible apply small_sz); (try simp only [List.length_append, List.length_cons, List.length_nil]); omega))
local macro_rules | `(tactic| walk_at "g1") => `(tactic| first
  | (with_reducible refine Red.r ?_)
  | ((with_reducible apply i_var ?h ?_); (case h => exact rfl))
  | (with_reducible refine i_few (by simp only [List.length_cons, List.length_nil]; decide) ?_)
  | ((with_reducible apply i_aug ?h ?_); (case h => exact rfl))
  | ((with_reducible refine i_wipe ?e ?_); (case e => rfl))
  | ((with_reducible apply i_tyL ?h ?_); (case h => walk_at "g_sq"))
  | ((with_reducible apply i_app ?h ?g ?_); (case h => walk_at "g_hp"); (case g => walk_at "g_sz"))
  | ((with_reducible apply i_lenO ?h ?g ?_); (case h => walk_at "g_hp"); (case g => exact rfl))
  | ((with_reducible apply i_lenL ?h ?_); (case h => walk_at "g_sq"))
  | ((with_reducible apply i_lenT ?h ?_); (case h => walk_at "g_st"))
  | ((with_reducible apply i_gTup ?h ?g ?_); (case h => walk_at "g_st"); (case g => rfl))
  | ((with_reducible apply i_setL ?h ?g ?_); (case h => walk_at "g_hp"); (case g => first | (simp only [List.length_append, List.length_cons, List.length_nil]; exact ix_last _) | (simp only [List.length_cons]; exact ix_zero _) | rfl))
  | ((with_reducible apply i_revd ?h ?g); (case h => walk_at "g_sq"))
  | ((with_reducible apply i_ins0 ?h ?g ?k); (case h => walk_at "g_hp"); (case g => walk_at "g_sz"))
  | ((with_reducible apply i_ixS (by with_reducible assumption) ?k ?g ?_); (case k => walk_at "g_fx"); (case g => walk_at "g_at"))
  | ((with_reducible apply i_ixO ?h ?g ?_); (case h => walk_at "g_hp"); (case g => walk_at "g_at"))
  | ((with_reducible apply i_ixL ?h ?g ?_); (case h => walk_at "g_sq"); (case g => walk_at "g_at"))
  | ((with_reducible refine i_mod ?c ?_); (case c => omega))
  | ((with_reducible refine i_div ?c ?d ?_); (case c => omega); (case d => omega))
  | ((with_reducible refine i_dm ?c ?d ?_); (case c => omega); (case d => omega))
  | ((with_reducible apply i_listL ?h ?g); (case h => walk_at "g_sq"))
  | ((with_reducible apply i_listT ?h ?g); (case h => walk_at "g_st"))
  | ((with_reducible apply i_methR ?h ?g ?_); (case h => walk_at "g_hp"); (case g => exact rfl))
  | (walk_at "g_own")
  | ((with_reducible apply i_methWR ?h ?g ?_); (case h => walk_at "g_hp"); (case g => exact rfl))
  | ((with_reducible apply i_lens ?h ?g ?_); (case h => exact rfl); (case g => exact rfl))
  | ((with_reducible apply i_fldR ?h ?c ?n ?g ?_); (case h => walk_at "g_hp"); (case c => with_reducible assumption); (case n => with_reducible assumption); (case g => exact rfl))
  | ((with_reducible apply i_fldSR ?h ?c ?n ?g ?_); (case h => walk_at "g_hp"); (case c => with_reducible assumption); (case n => with_reducible assumption); (case g => exact fs_few (by rfl)))
  | ((with_reducible apply i_slL ?h ?_); (case h => walk_at "g_sq"))
  | ((with_reducible apply i_addL ?h ?g ?z ?_); (case h => walk_at "g_hp"); (case g => walk_at "g_hp"); (case z => (try simp only [List.length_append, List.length_cons, List.length_nil, List.length_map]); omega))
  | ((with_reducible refine i_mulI ?c ?_); (case c => first | exact Or.inl ⟨by omega, by omega⟩ | exact Or.inr ⟨by omega, by omega⟩)))
local macro_rules | `(tactic| walk_at "gr") => `(tactic| first | ((walk_at "g1"); (walk_at "gr")) | skip)
local macro_rules | `(tactic| walk_at "gs") => `(tactic| (walk_at "gr"))

def top (i : Nat) : Stmt := PySem.Challenge.pw_forkthrift_k53_whole_no_paper_above_a_ke.main.body.getD i (.Pass ⟨0, 0, 0, 0⟩)
abbrev s_wall : Stmt := top 0
abbrev s_steps_of : Stmt := top 3
abbrev s_is_led : Stmt := top 4
abbrev s_is_way : Stmt := top 5
abbrev s_is_paper : Stmt := top 6
abbrev s_cost_of : Stmt := top 8
abbrev s_walked_from : Stmt := top 9
abbrev s_best_of : Stmt := top 10
abbrev s_tied_on : Stmt := top 11
abbrev s_ways_at : Stmt := top 12
abbrev s_best_at : Stmt := top 13
abbrev s_least_cost : Stmt := top 14
abbrev s_the_keeping : Stmt := top 15
abbrev s_is_count : Stmt := top 22
abbrev s_Ties_init : Stmt := inClass (top 23) 0
abbrev s_Ties_ever : Stmt := inClass (top 23) 1
abbrev s_Ties_living : Stmt := inClass (top 23) 2
abbrev s_Ties_free : Stmt := inClass (top 23) 3
abbrev s_Ties_rows : Stmt := inClass (top 23) 4
abbrev s_Ties_lives : Stmt := inClass (top 23) 5
abbrev s_Ties_has : Stmt := inClass (top 23) 6
abbrev s_Ties_tied : Stmt := inClass (top 23) 7
abbrev s_Ties_way : Stmt := inClass (top 23) 8
abbrev s_Ties_spread : Stmt := inClass (top 23) 9
abbrev s_Ties_fork : Stmt := inClass (top 23) 10
abbrev s_Ties_end : Stmt := inClass (top 23) 11
abbrev s_Ties_may_go : Stmt := inClass (top 23) 12
abbrev s_Ties_taken_out : Stmt := inClass (top 23) 13
abbrev s_Ties_copied : Stmt := inClass (top 23) 14
abbrev s_Ties_eq : Stmt := inClass (top 23) 15
abbrev s_Ties_told : Stmt := inClass (top 23) 16
abbrev s_Ties_len : Stmt := inClass (top 23) 17
abbrev s_made : Stmt := top 24
abbrev s_are_worlds : Stmt := top 25
abbrev s_are_pairs : Stmt := top 26
abbrev s_is_tree : Stmt := top 27
abbrev s_ties_of : Stmt := top 28
abbrev s_law_pot : Stmt := top 30
abbrev s_law_draw : Stmt := top 31
abbrev s_law_tree : Stmt := top 32
abbrev s_law_given : Stmt := top 33
abbrev s_law_near : Stmt := top 34
abbrev s_law_all_ways : Stmt := top 35
abbrev s_law_grown : Stmt := top 36
abbrev s_law_kept : Stmt := top 37
abbrev s_law_cost : Stmt := top 38
abbrev s_law : Stmt := top 39
def tyNames : List String := ["NoneType", "int", "bool", "str", "list", "tuple", "dict"]
theorem kit_other {K : PySem.W.Frag} {C : Addr} (hc : PySem.W.isClsIn K C = true) (ht : PySem.W.typeIn K (.ref C) = some (.type "type")) {n : String} (h : PySem.W.subIn K (.type n) (.ref C) = some false) : PySem.W.kitOne K (.type n) (.ref C) = some false := by
  unfold PySem.W.kitOne PySem.W.kitCls
  unfold PySem.W.isClsIn at hc
  rw [if_neg (by simp)]
  simp only [hc, ht, h, beq_self_eq_true, Bool.and_self, if_true]
theorem kit_me {K : PySem.W.Frag} {C : Addr} : PySem.W.kitOne K (.ref C) (.ref C) = some true := by
  unfold PySem.W.kitOne
  rw [if_pos (by simp)]
/-- what the top leaves -/
structure Txt (K : PySem.W.Frag) (mg : Str → Option Value) where
  c_Ties : Addr
  cl_Ties : Cls K c_Ties
  mg_Ties : mg "Ties" = some (.ref c_Ties)
  na_Ties_near : NoAttr K c_Ties "near"
  na_Ties_own_ever : NoAttr K c_Ties "own_ever"
  na_Ties_own_living : NoAttr K c_Ties "own_living"
  ic_Ties : C8.InsC K c_Ties
  ot_Ties : ∀ n ∈ tyNames, PySem.W.kitOne K (.type n) (.ref c_Ties) = some false
  ne_Ties : PySem.W.findIn K (.ref c_Ties) "__ne__" = some (some (.builtin "object.__ne__"))
  a_wall : Addr
  d_wall : FuncData
  F_wall : FunD K "_wall" "_wall" (defArgs s_wall) (defBody s_wall) (defScope s_wall) [] ([] : List (Str × V)) a_wall d_wall
  m_wall : mg "_wall" = some (.ref a_wall)
  b_wall : BindsD K d_wall ["k"] []
  a_steps_of : Addr
  d_steps_of : FuncData
  F_steps_of : FunD K "steps_of" "steps_of" (defArgs s_steps_of) (defBody s_steps_of) (defScope s_steps_of) [] ([] : List (Str × V)) a_steps_of d_steps_of
  m_steps_of : mg "steps_of" = some (.ref a_steps_of)
  b_steps_of : BindsD K d_steps_of ["way"] []
  a_is_led : Addr
  d_is_led : FuncData
  F_is_led : FunD K "is_led" "is_led" (defArgs s_is_led) (defBody s_is_led) (defScope s_is_led) [] ([] : List (Str × V)) a_is_led d_is_led
  m_is_led : mg "is_led" = some (.ref a_is_led)
  b_is_led : BindsD K d_is_led ["ties", "thing"] []
  a_is_way : Addr
  d_is_way : FuncData
  F_is_way : FunD K "is_way" "is_way" (defArgs s_is_way) (defBody s_is_way) (defScope s_is_way) [] ([] : List (Str × V)) a_is_way d_is_way
  m_is_way : mg "is_way" = some (.ref a_is_way)
  b_is_way : BindsD K d_is_way ["ties", "numbers", "thing"] []
  a_is_paper : Addr
  d_is_paper : FuncData
  F_is_paper : FunD K "is_paper" "is_paper" (defArgs s_is_paper) (defBody s_is_paper) (defScope s_is_paper) [] ([] : List (Str × V)) a_is_paper d_is_paper
  m_is_paper : mg "is_paper" = some (.ref a_is_paper)
  b_is_paper : BindsD K d_is_paper ["ties", "numbers", "thing"] []
  a_cost_of : Addr
  d_cost_of : FuncData
  F_cost_of : FunD K "cost_of" "cost_of" (defArgs s_cost_of) (defBody s_cost_of) (defScope s_cost_of) [] ([] : List (Str × V)) a_cost_of d_cost_of
  m_cost_of : mg "cost_of" = some (.ref a_cost_of)
  b_cost_of : BindsD K d_cost_of ["ties", "keeping"] []
  a_walked_from : Addr
  d_walked_from : FuncData
  F_walked_from : FunD K "walked_from" "walked_from" (defArgs s_walked_from) (defBody s_walked_from) (defScope s_walked_from) [] ([] : List (Str × V)) a_walked_from d_walked_from
  m_walked_from : mg "walked_from" = some (.ref a_walked_from)
  b_walked_from : BindsD K d_walked_from ["ties", "root"] []
  a_best_of : Addr
  d_best_of : FuncData
  F_best_of : FunD K "best_of" "best_of" (defArgs s_best_of) (defBody s_best_of) (defScope s_best_of) [] ([] : List (Str × V)) a_best_of d_best_of
  m_best_of : mg "best_of" = some (.ref a_best_of)
  b_best_of : BindsD K d_best_of ["ways"] []
  a_tied_on : Addr
  d_tied_on : FuncData
  F_tied_on : FunD K "tied_on" "tied_on" (defArgs s_tied_on) (defBody s_tied_on) (defScope s_tied_on) [] ([] : List (Str × V)) a_tied_on d_tied_on
  m_tied_on : mg "tied_on" = some (.ref a_tied_on)
  b_tied_on : BindsD K d_tied_on ["ways", "beneath"] []
  a_ways_at : Addr
  d_ways_at : FuncData
  F_ways_at : FunD K "ways_at" "ways_at" (defArgs s_ways_at) (defBody s_ways_at) (defScope s_ways_at) [] ([] : List (Str × V)) a_ways_at d_ways_at
  m_ways_at : mg "ways_at" = some (.ref a_ways_at)
  b_ways_at : BindsD K d_ways_at ["ties", "told", "root"] []
  a_best_at : Addr
  d_best_at : FuncData
  F_best_at : FunD K "best_at" "best_at" (defArgs s_best_at) (defBody s_best_at) (defScope s_best_at) [] ([] : List (Str × V)) a_best_at d_best_at
  m_best_at : mg "best_at" = some (.ref a_best_at)
  b_best_at : BindsD K d_best_at ["ties", "told", "root"] []
  a_least_cost : Addr
  d_least_cost : FuncData
  F_least_cost : FunD K "least_cost" "least_cost" (defArgs s_least_cost) (defBody s_least_cost) (defScope s_least_cost) [] ([] : List (Str × V)) a_least_cost d_least_cost
  m_least_cost : mg "least_cost" = some (.ref a_least_cost)
  b_least_cost : BindsD K d_least_cost ["ties", "numbers"] []
  a_the_keeping : Addr
  d_the_keeping : FuncData
  F_the_keeping : FunD K "the_keeping" "the_keeping" (defArgs s_the_keeping) (defBody s_the_keeping) (defScope s_the_keeping) [] ([] : List (Str × V)) a_the_keeping d_the_keeping
  m_the_keeping : mg "the_keeping" = some (.ref a_the_keeping)
  b_the_keeping : BindsD K d_the_keeping ["ties", "numbers"] []
  a_is_count : Addr
  d_is_count : FuncData
  F_is_count : FunD K "is_count" "is_count" (defArgs s_is_count) (defBody s_is_count) (defScope s_is_count) [] ([] : List (Str × V)) a_is_count d_is_count
  m_is_count : mg "is_count" = some (.ref a_is_count)
  b_is_count : BindsD K d_is_count ["thing"] []
  a_Ties_init : Addr
  d_Ties_init : FuncData
  F_Ties_init : FunD K "__init__" "Ties.__init__" (defArgs s_Ties_init) (defBody s_Ties_init) (defScope s_Ties_init) [] ([] : List (Str × V)) a_Ties_init d_Ties_init
  mk_Ties : Mk K c_Ties a_Ties_init
  b_Ties_init : BindsD K d_Ties_init ["self"] []
  a_Ties_ever : Addr
  d_Ties_ever : FuncData
  F_Ties_ever : FunD K "ever" "Ties.ever" (defArgs s_Ties_ever) (defBody s_Ties_ever) (defScope s_Ties_ever) [] ([] : List (Str × V)) a_Ties_ever d_Ties_ever
  me_Ties_ever : Meth K c_Ties "ever" a_Ties_ever
  b_Ties_ever : BindsD K d_Ties_ever ["self"] []
  a_Ties_living : Addr
  d_Ties_living : FuncData
  F_Ties_living : FunD K "living" "Ties.living" (defArgs s_Ties_living) (defBody s_Ties_living) (defScope s_Ties_living) [] ([] : List (Str × V)) a_Ties_living d_Ties_living
  me_Ties_living : Meth K c_Ties "living" a_Ties_living
  b_Ties_living : BindsD K d_Ties_living ["self"] []
  a_Ties_free : Addr
  d_Ties_free : FuncData
  F_Ties_free : FunD K "free" "Ties.free" (defArgs s_Ties_free) (defBody s_Ties_free) (defScope s_Ties_free) [] ([] : List (Str × V)) a_Ties_free d_Ties_free
  me_Ties_free : Meth K c_Ties "free" a_Ties_free
  b_Ties_free : BindsD K d_Ties_free ["self"] []
  a_Ties_rows : Addr
  d_Ties_rows : FuncData
  F_Ties_rows : FunD K "rows" "Ties.rows" (defArgs s_Ties_rows) (defBody s_Ties_rows) (defScope s_Ties_rows) [] ([] : List (Str × V)) a_Ties_rows d_Ties_rows
  me_Ties_rows : Meth K c_Ties "rows" a_Ties_rows
  b_Ties_rows : BindsD K d_Ties_rows ["self"] []
  a_Ties_lives : Addr
  d_Ties_lives : FuncData
  F_Ties_lives : FunD K "lives" "Ties.lives" (defArgs s_Ties_lives) (defBody s_Ties_lives) (defScope s_Ties_lives) [] ([] : List (Str × V)) a_Ties_lives d_Ties_lives
  me_Ties_lives : Meth K c_Ties "lives" a_Ties_lives
  b_Ties_lives : BindsD K d_Ties_lives ["self", "thing"] []
  a_Ties_has : Addr
  d_Ties_has : FuncData
  F_Ties_has : FunD K "has" "Ties.has" (defArgs s_Ties_has) (defBody s_Ties_has) (defScope s_Ties_has) [] ([] : List (Str × V)) a_Ties_has d_Ties_has
  me_Ties_has : Meth K c_Ties "has" a_Ties_has
  b_Ties_has : BindsD K d_Ties_has ["self", "thing"] []
  a_Ties_tied : Addr
  d_Ties_tied : FuncData
  F_Ties_tied : FunD K "tied" "Ties.tied" (defArgs s_Ties_tied) (defBody s_Ties_tied) (defScope s_Ties_tied) [] ([] : List (Str × V)) a_Ties_tied d_Ties_tied
  me_Ties_tied : Meth K c_Ties "tied" a_Ties_tied
  b_Ties_tied : BindsD K d_Ties_tied ["self", "world"] []
  a_Ties_way : Addr
  d_Ties_way : FuncData
  F_Ties_way : FunD K "way" "Ties.way" (defArgs s_Ties_way) (defBody s_Ties_way) (defScope s_Ties_way) [] ([] : List (Str × V)) a_Ties_way d_Ties_way
  me_Ties_way : Meth K c_Ties "way" a_Ties_way
  b_Ties_way : BindsD K d_Ties_way ["self", "one", "other"] []
  a_Ties_spread : Addr
  d_Ties_spread : FuncData
  F_Ties_spread : FunD K "spread" "Ties.spread" (defArgs s_Ties_spread) (defBody s_Ties_spread) (defScope s_Ties_spread) [] ([] : List (Str × V)) a_Ties_spread d_Ties_spread
  me_Ties_spread : Meth K c_Ties "spread" a_Ties_spread
  b_Ties_spread : BindsD K d_Ties_spread ["self", "goal"] []
  a_Ties_fork : Addr
  d_Ties_fork : FuncData
  F_Ties_fork : FunD K "fork" "Ties.fork" (defArgs s_Ties_fork) (defBody s_Ties_fork) (defScope s_Ties_fork) [] ([] : List (Str × V)) a_Ties_fork d_Ties_fork
  me_Ties_fork : Meth K c_Ties "fork" a_Ties_fork
  b_Ties_fork : BindsD K d_Ties_fork ["self", "world"] []
  a_Ties_end : Addr
  d_Ties_end : FuncData
  F_Ties_end : FunD K "end" "Ties.end" (defArgs s_Ties_end) (defBody s_Ties_end) (defScope s_Ties_end) [] ([] : List (Str × V)) a_Ties_end d_Ties_end
  me_Ties_end : Meth K c_Ties "end" a_Ties_end
  b_Ties_end : BindsD K d_Ties_end ["self", "world"] []
  a_Ties_may_go : Addr
  d_Ties_may_go : FuncData
  F_Ties_may_go : FunD K "may_go" "Ties.may_go" (defArgs s_Ties_may_go) (defBody s_Ties_may_go) (defScope s_Ties_may_go) [] ([] : List (Str × V)) a_Ties_may_go d_Ties_may_go
  me_Ties_may_go : Meth K c_Ties "may_go" a_Ties_may_go
  b_Ties_may_go : BindsD K d_Ties_may_go ["self", "world"] []
  a_Ties_taken_out : Addr
  d_Ties_taken_out : FuncData
  F_Ties_taken_out : FunD K "taken_out" "Ties.taken_out" (defArgs s_Ties_taken_out) (defBody s_Ties_taken_out) (defScope s_Ties_taken_out) [] ([] : List (Str × V)) a_Ties_taken_out d_Ties_taken_out
  me_Ties_taken_out : Meth K c_Ties "taken_out" a_Ties_taken_out
  b_Ties_taken_out : BindsD K d_Ties_taken_out ["self", "world"] []
  a_Ties_copied : Addr
  d_Ties_copied : FuncData
  F_Ties_copied : FunD K "copied" "Ties.copied" (defArgs s_Ties_copied) (defBody s_Ties_copied) (defScope s_Ties_copied) [] ([] : List (Str × V)) a_Ties_copied d_Ties_copied
  me_Ties_copied : Meth K c_Ties "copied" a_Ties_copied
  b_Ties_copied : BindsD K d_Ties_copied ["self"] []
  a_Ties_eq : Addr
  d_Ties_eq : FuncData
  F_Ties_eq : FunD K "__eq__" "Ties.__eq__" (defArgs s_Ties_eq) (defBody s_Ties_eq) (defScope s_Ties_eq) [] ([] : List (Str × V)) a_Ties_eq d_Ties_eq
  me_Ties_eq : Meth K c_Ties "__eq__" a_Ties_eq
  b_Ties_eq : BindsD K d_Ties_eq ["self", "other"] []
  a_Ties_told : Addr
  d_Ties_told : FuncData
  F_Ties_told : FunD K "told" "Ties.told" (defArgs s_Ties_told) (defBody s_Ties_told) (defScope s_Ties_told) [] ([] : List (Str × V)) a_Ties_told d_Ties_told
  me_Ties_told : Meth K c_Ties "told" a_Ties_told
  b_Ties_told : BindsD K d_Ties_told ["self"] []
  a_Ties_len : Addr
  d_Ties_len : FuncData
  F_Ties_len : FunD K "__len__" "Ties.__len__" (defArgs s_Ties_len) (defBody s_Ties_len) (defScope s_Ties_len) [] ([] : List (Str × V)) a_Ties_len d_Ties_len
  me_Ties_len : Meth K c_Ties "__len__" a_Ties_len
  b_Ties_len : BindsD K d_Ties_len ["self"] []
  a_made : Addr
  d_made : FuncData
  F_made : FunD K "made" "made" (defArgs s_made) (defBody s_made) (defScope s_made) [] ([] : List (Str × V)) a_made d_made
  m_made : mg "made" = some (.ref a_made)
  b_made : BindsD K d_made ["ever", "living", "worlds", "rows"] []
  a_are_worlds : Addr
  d_are_worlds : FuncData
  F_are_worlds : FunD K "are_worlds" "are_worlds" (defArgs s_are_worlds) (defBody s_are_worlds) (defScope s_are_worlds) [] ([] : List (Str × V)) a_are_worlds d_are_worlds
  m_are_worlds : mg "are_worlds" = some (.ref a_are_worlds)
  b_are_worlds : BindsD K d_are_worlds ["thing", "ever"] []
  a_are_pairs : Addr
  d_are_pairs : FuncData
  F_are_pairs : FunD K "are_pairs" "are_pairs" (defArgs s_are_pairs) (defBody s_are_pairs) (defScope s_are_pairs) [] ([] : List (Str × V)) a_are_pairs d_are_pairs
  m_are_pairs : mg "are_pairs" = some (.ref a_are_pairs)
  b_are_pairs : BindsD K d_are_pairs ["thing", "worlds"] []
  a_is_tree : Addr
  d_is_tree : FuncData
  F_is_tree : FunD K "is_tree" "is_tree" (defArgs s_is_tree) (defBody s_is_tree) (defScope s_is_tree) [] ([] : List (Str × V)) a_is_tree d_is_tree
  m_is_tree : mg "is_tree" = some (.ref a_is_tree)
  b_is_tree : BindsD K d_is_tree ["ties"] []
  a_ties_of : Addr
  d_ties_of : FuncData
  F_ties_of : FunD K "ties_of" "ties_of" (defArgs s_ties_of) (defBody s_ties_of) (defScope s_ties_of) [] ([] : List (Str × V)) a_ties_of d_ties_of
  m_ties_of : mg "ties_of" = some (.ref a_ties_of)
  b_ties_of : BindsD K d_ties_of ["ever", "living", "free", "rows"] []
  a_law_pot : Addr
  d_law_pot : FuncData
  F_law_pot : FunD K "_law_pot" "_law_pot" (defArgs s_law_pot) (defBody s_law_pot) (defScope s_law_pot) [] ([] : List (Str × V)) a_law_pot d_law_pot
  m_law_pot : mg "_law_pot" = some (.ref a_law_pot)
  b_law_pot : BindsD K d_law_pot ["_law_script", "_law_k"] []
  a_law_draw : Addr
  d_law_draw : FuncData
  F_law_draw : FunD K "_law_draw" "_law_draw" (defArgs s_law_draw) (defBody s_law_draw) (defScope s_law_draw) [] ([] : List (Str × V)) a_law_draw d_law_draw
  m_law_draw : mg "_law_draw" = some (.ref a_law_draw)
  b_law_draw : BindsD K d_law_draw ["_law_pot_here", "_law_many"] []
  a_law_tree : Addr
  d_law_tree : FuncData
  F_law_tree : FunD K "_law_tree" "_law_tree" (defArgs s_law_tree) (defBody s_law_tree) (defScope s_law_tree) [] ([] : List (Str × V)) a_law_tree d_law_tree
  m_law_tree : mg "_law_tree" = some (.ref a_law_tree)
  b_law_tree : BindsD K d_law_tree ["_law_pot_here", "_law_most"] []
  a_law_given : Addr
  d_law_given : FuncData
  F_law_given : FunD K "_law_given" "_law_given" (defArgs s_law_given) (defBody s_law_given) (defScope s_law_given) [] ([] : List (Str × V)) a_law_given d_law_given
  m_law_given : mg "_law_given" = some (.ref a_law_given)
  b_law_given : BindsD K d_law_given ["_law_pot_here", "_law_tree_here"] []
  a_law_near : Addr
  d_law_near : FuncData
  F_law_near : FunD K "_law_near" "_law_near" (defArgs s_law_near) (defBody s_law_near) (defScope s_law_near) [] ([] : List (Str × V)) a_law_near d_law_near
  m_law_near : mg "_law_near" = some (.ref a_law_near)
  b_law_near : BindsD K d_law_near ["_law_tree_here", "_law_label"] []
  a_law_all_ways : Addr
  d_law_all_ways : FuncData
  F_law_all_ways : FunD K "_law_all_ways" "_law_all_ways" (defArgs s_law_all_ways) (defBody s_law_all_ways) (defScope s_law_all_ways) [] ([] : List (Str × V)) a_law_all_ways d_law_all_ways
  m_law_all_ways : mg "_law_all_ways" = some (.ref a_law_all_ways)
  b_law_all_ways : BindsD K d_law_all_ways ["_law_tree_here", "_law_given_here"] []
  a_law_grown : Addr
  d_law_grown : FuncData
  F_law_grown : FunD K "_law_grown" "_law_grown" (defArgs s_law_grown) (defBody s_law_grown) (defScope s_law_grown) [] ([] : List (Str × V)) a_law_grown d_law_grown
  m_law_grown : mg "_law_grown" = some (.ref a_law_grown)
  b_law_grown : BindsD K d_law_grown ["_law_pot_here", "_law_ties_here", "_law_given_here", "_law_ways"] []
  a_law_kept : Addr
  d_law_kept : FuncData
  F_law_kept : FunD K "_law_kept" "_law_kept" (defArgs s_law_kept) (defBody s_law_kept) (defScope s_law_kept) [] ([] : List (Str × V)) a_law_kept d_law_kept
  m_law_kept : mg "_law_kept" = some (.ref a_law_kept)
  b_law_kept : BindsD K d_law_kept ["_law_pot_here", "_law_tree_here", "_law_given_here"] []
  a_law_cost : Addr
  d_law_cost : FuncData
  F_law_cost : FunD K "_law_cost" "_law_cost" (defArgs s_law_cost) (defBody s_law_cost) (defScope s_law_cost) [] ([] : List (Str × V)) a_law_cost d_law_cost
  m_law_cost : mg "_law_cost" = some (.ref a_law_cost)
  b_law_cost : BindsD K d_law_cost ["_law_tree_here", "_law_kept_here"] []
  a_law : Addr
  d_law : FuncData
  F_law : FunD K "law" "law" (defArgs s_law) (defBody s_law) (defScope s_law) [] ([] : List (Str × V)) a_law d_law
  m_law : mg "law" = some (.ref a_law)
  b_law : BindsD K d_law ["_law_script"] []
  t_FEWEST_TIES : Tok
  g_FEWEST_TIES : mg "FEWEST_TIES" = some (.int 3 t_FEWEST_TIES)
  t_FEWEST_WORLDS : Tok
  g_FEWEST_WORLDS : mg "FEWEST_WORLDS" = some (.int 2 t_FEWEST_WORLDS)
  n_LookupError : mg "LookupError" = none
  n_ValueError : mg "ValueError" = none
  n_abs : mg "abs" = none
  n_all : mg "all" = none
  n_any : mg "any" = none
  n_bool : mg "bool" = none
  n_dict : mg "dict" = none
  n_divmod : mg "divmod" = none
  n_enumerate : mg "enumerate" = none
  n_int : mg "int" = none
  n_isinstance : mg "isinstance" = none
  n_len : mg "len" = none
  n_list : mg "list" = none
  n_max : mg "max" = none
  n_min : mg "min" = none
  n_range : mg "range" = none
  n_set : mg "set" = none
  n_sorted : mg "sorted" = none
  n_sum : mg "sum" = none
  n_tuple : mg "tuple" = none
  n_zip : mg "zip" = none
/-! ### the head: facts by names, the run in the kernel -/
def dd0 : He.DefD := ⟨("_wall", none), "_wall", "_wall", defArgs s_wall, defBody s_wall, defScope s_wall, [], []⟩
def dd1 : He.DefD := ⟨("steps_of", none), "steps_of", "steps_of", defArgs s_steps_of, defBody s_steps_of, defScope s_steps_of, [], []⟩
def dd2 : He.DefD := ⟨("is_led", none), "is_led", "is_led", defArgs s_is_led, defBody s_is_led, defScope s_is_led, [], []⟩
def dd3 : He.DefD := ⟨("is_way", none), "is_way", "is_way", defArgs s_is_way, defBody s_is_way, defScope s_is_way, [], []⟩
def dd4 : He.DefD := ⟨("is_paper", none), "is_paper", "is_paper", defArgs s_is_paper, defBody s_is_paper, defScope s_is_paper, [], []⟩
def dd5 : He.DefD := ⟨("cost_of", none), "cost_of", "cost_of", defArgs s_cost_of, defBody s_cost_of, defScope s_cost_of, [], []⟩
def dd6 : He.DefD := ⟨("walked_from", none), "walked_from", "walked_from", defArgs s_walked_from, defBody s_walked_from, defScope s_walked_from, [], []⟩
def dd7 : He.DefD := ⟨("best_of", none), "best_of", "best_of", defArgs s_best_of, defBody s_best_of, defScope s_best_of, [], []⟩
def dd8 : He.DefD := ⟨("tied_on", none), "tied_on", "tied_on", defArgs s_tied_on, defBody s_tied_on, defScope s_tied_on, [], []⟩
def dd9 : He.DefD := ⟨("ways_at", none), "ways_at", "ways_at", defArgs s_ways_at, defBody s_ways_at, defScope s_ways_at, [], []⟩
def dd10 : He.DefD := ⟨("best_at", none), "best_at", "best_at", defArgs s_best_at, defBody s_best_at, defScope s_best_at, [], []⟩
def dd11 : He.DefD := ⟨("least_cost", none), "least_cost", "least_cost", defArgs s_least_cost, defBody s_least_cost, defScope s_least_cost, [], []⟩
def dd12 : He.DefD := ⟨("the_keeping", none), "the_keeping", "the_keeping", defArgs s_the_keeping, defBody s_the_keeping, defScope s_the_keeping, [], []⟩
def dd13 : He.DefD := ⟨("is_count", none), "is_count", "is_count", defArgs s_is_count, defBody s_is_count, defScope s_is_count, [], []⟩
def dd14 : He.DefD := ⟨("Ties", some "__init__"), "__init__", "Ties.__init__", defArgs s_Ties_init, defBody s_Ties_init, defScope s_Ties_init, [], []⟩
def dd15 : He.DefD := ⟨("Ties", some "ever"), "ever", "Ties.ever", defArgs s_Ties_ever, defBody s_Ties_ever, defScope s_Ties_ever, [], []⟩
def dd16 : He.DefD := ⟨("Ties", some "living"), "living", "Ties.living", defArgs s_Ties_living, defBody s_Ties_living, defScope s_Ties_living, [], []⟩
def dd17 : He.DefD := ⟨("Ties", some "free"), "free", "Ties.free", defArgs s_Ties_free, defBody s_Ties_free, defScope s_Ties_free, [], []⟩
def dd18 : He.DefD := ⟨("Ties", some "rows"), "rows", "Ties.rows", defArgs s_Ties_rows, defBody s_Ties_rows, defScope s_Ties_rows, [], []⟩
def dd19 : He.DefD := ⟨("Ties", some "lives"), "lives", "Ties.lives", defArgs s_Ties_lives, defBody s_Ties_lives, defScope s_Ties_lives, [], []⟩
def dd20 : He.DefD := ⟨("Ties", some "has"), "has", "Ties.has", defArgs s_Ties_has, defBody s_Ties_has, defScope s_Ties_has, [], []⟩
def dd21 : He.DefD := ⟨("Ties", some "tied"), "tied", "Ties.tied", defArgs s_Ties_tied, defBody s_Ties_tied, defScope s_Ties_tied, [], []⟩
def dd22 : He.DefD := ⟨("Ties", some "way"), "way", "Ties.way", defArgs s_Ties_way, defBody s_Ties_way, defScope s_Ties_way, [], []⟩
def dd23 : He.DefD := ⟨("Ties", some "spread"), "spread", "Ties.spread", defArgs s_Ties_spread, defBody s_Ties_spread, defScope s_Ties_spread, [], []⟩
def dd24 : He.DefD := ⟨("Ties", some "fork"), "fork", "Ties.fork", defArgs s_Ties_fork, defBody s_Ties_fork, defScope s_Ties_fork, [], []⟩
def dd25 : He.DefD := ⟨("Ties", some "end"), "end", "Ties.end", defArgs s_Ties_end, defBody s_Ties_end, defScope s_Ties_end, [], []⟩
def dd26 : He.DefD := ⟨("Ties", some "may_go"), "may_go", "Ties.may_go", defArgs s_Ties_may_go, defBody s_Ties_may_go, defScope s_Ties_may_go, [], []⟩
def dd27 : He.DefD := ⟨("Ties", some "taken_out"), "taken_out", "Ties.taken_out", defArgs s_Ties_taken_out, defBody s_Ties_taken_out, defScope s_Ties_taken_out, [], []⟩
def dd28 : He.DefD := ⟨("Ties", some "copied"), "copied", "Ties.copied", defArgs s_Ties_copied, defBody s_Ties_copied, defScope s_Ties_copied, [], []⟩
def dd29 : He.DefD := ⟨("Ties", some "__eq__"), "__eq__", "Ties.__eq__", defArgs s_Ties_eq, defBody s_Ties_eq, defScope s_Ties_eq, [], []⟩
def dd30 : He.DefD := ⟨("Ties", some "told"), "told", "Ties.told", defArgs s_Ties_told, defBody s_Ties_told, defScope s_Ties_told, [], []⟩
def dd31 : He.DefD := ⟨("Ties", some "__len__"), "__len__", "Ties.__len__", defArgs s_Ties_len, defBody s_Ties_len, defScope s_Ties_len, [], []⟩
def dd32 : He.DefD := ⟨("made", none), "made", "made", defArgs s_made, defBody s_made, defScope s_made, [], []⟩
def dd33 : He.DefD := ⟨("are_worlds", none), "are_worlds", "are_worlds", defArgs s_are_worlds, defBody s_are_worlds, defScope s_are_worlds, [], []⟩
def dd34 : He.DefD := ⟨("are_pairs", none), "are_pairs", "are_pairs", defArgs s_are_pairs, defBody s_are_pairs, defScope s_are_pairs, [], []⟩
def dd35 : He.DefD := ⟨("is_tree", none), "is_tree", "is_tree", defArgs s_is_tree, defBody s_is_tree, defScope s_is_tree, [], []⟩
def dd36 : He.DefD := ⟨("ties_of", none), "ties_of", "ties_of", defArgs s_ties_of, defBody s_ties_of, defScope s_ties_of, [], []⟩
def dd37 : He.DefD := ⟨("_law_pot", none), "_law_pot", "_law_pot", defArgs s_law_pot, defBody s_law_pot, defScope s_law_pot, [], []⟩
def dd38 : He.DefD := ⟨("_law_draw", none), "_law_draw", "_law_draw", defArgs s_law_draw, defBody s_law_draw, defScope s_law_draw, [], []⟩
def dd39 : He.DefD := ⟨("_law_tree", none), "_law_tree", "_law_tree", defArgs s_law_tree, defBody s_law_tree, defScope s_law_tree, [], []⟩
def dd40 : He.DefD := ⟨("_law_given", none), "_law_given", "_law_given", defArgs s_law_given, defBody s_law_given, defScope s_law_given, [], []⟩
def dd41 : He.DefD := ⟨("_law_near", none), "_law_near", "_law_near", defArgs s_law_near, defBody s_law_near, defScope s_law_near, [], []⟩
def dd42 : He.DefD := ⟨("_law_all_ways", none), "_law_all_ways", "_law_all_ways", defArgs s_law_all_ways, defBody s_law_all_ways, defScope s_law_all_ways, [], []⟩
def dd43 : He.DefD := ⟨("_law_grown", none), "_law_grown", "_law_grown", defArgs s_law_grown, defBody s_law_grown, defScope s_law_grown, [], []⟩
def dd44 : He.DefD := ⟨("_law_kept", none), "_law_kept", "_law_kept", defArgs s_law_kept, defBody s_law_kept, defScope s_law_kept, [], []⟩
def dd45 : He.DefD := ⟨("_law_cost", none), "_law_cost", "_law_cost", defArgs s_law_cost, defBody s_law_cost, defScope s_law_cost, [], []⟩
def dd46 : He.DefD := ⟨("law", none), "law", "law", defArgs s_law, defBody s_law, defScope s_law, [], []⟩
def fnH : List He.DefD := [dd0, dd1, dd2, dd3, dd4, dd5, dd6, dd7, dd8, dd9, dd10, dd11, dd12, dd13, dd14, dd15, dd16, dd17, dd18, dd19, dd20, dd21, dd22, dd23, dd24, dd25, dd26, dd27, dd28, dd29, dd30, dd31, dd32, dd33, dd34, dd35, dd36, dd37, dd38, dd39, dd40, dd41, dd42, dd43, dd44, dd45, dd46]
def gH0 (K : PySem.W.Frag) : Bool := (He.Fa.glo "_wall").ok K && ((He.Fa.glo "steps_of").ok K && ((He.Fa.glo "is_led").ok K && ((He.Fa.glo "is_way").ok K && ((He.Fa.glo "is_paper").ok K && ((He.Fa.glo "cost_of").ok K && ((He.Fa.glo "walked_from").ok K && ((He.Fa.glo "best_of").ok K && ((He.Fa.glo "tied_on").ok K && ((He.Fa.glo "ways_at").ok K && ((He.Fa.glo "best_at").ok K && ((He.Fa.glo "least_cost").ok K)))))))))))
def gH1 (K : PySem.W.Frag) : Bool := (He.Fa.glo "the_keeping").ok K && ((He.Fa.glo "is_count").ok K && ((He.Fa.meth "Ties" "ever").ok K && ((He.Fa.meth "Ties" "living").ok K && ((He.Fa.meth "Ties" "free").ok K && ((He.Fa.meth "Ties" "rows").ok K && ((He.Fa.meth "Ties" "lives").ok K && ((He.Fa.meth "Ties" "has").ok K && ((He.Fa.meth "Ties" "tied").ok K && ((He.Fa.meth "Ties" "way").ok K && ((He.Fa.meth "Ties" "spread").ok K && ((He.Fa.meth "Ties" "fork").ok K)))))))))))
def gH2 (K : PySem.W.Frag) : Bool := (He.Fa.meth "Ties" "end").ok K && ((He.Fa.meth "Ties" "may_go").ok K && ((He.Fa.meth "Ties" "taken_out").ok K && ((He.Fa.meth "Ties" "copied").ok K && ((He.Fa.meth "Ties" "__eq__").ok K && ((He.Fa.meth "Ties" "told").ok K && ((He.Fa.meth "Ties" "__len__").ok K && ((He.Fa.glo "made").ok K && ((He.Fa.glo "are_worlds").ok K && ((He.Fa.glo "are_pairs").ok K && ((He.Fa.glo "is_tree").ok K && ((He.Fa.glo "ties_of").ok K)))))))))))
def gH3 (K : PySem.W.Frag) : Bool := (He.Fa.glo "_law_pot").ok K && ((He.Fa.glo "_law_draw").ok K && ((He.Fa.glo "_law_tree").ok K && ((He.Fa.glo "_law_given").ok K && ((He.Fa.glo "_law_near").ok K && ((He.Fa.glo "_law_all_ways").ok K && ((He.Fa.glo "_law_grown").ok K && ((He.Fa.glo "_law_kept").ok K && ((He.Fa.glo "_law_cost").ok K && ((He.Fa.glo "law").ok K && ((He.Fa.glo "Ties").ok K && ((He.Fa.cls "Ties").ok K)))))))))))
def gH4 (K : PySem.W.Frag) : Bool := (He.Fa.mkr "Ties").ok K && ((He.Fa.noat "Ties" "near").ok K && ((He.Fa.noat "Ties" "own_ever").ok K && ((He.Fa.noat "Ties" "own_living").ok K && (He.eqO (PySem.W.findIn K (.ref (He.ga K "Ties")) "__class__") (some (some (.builtin "object.__class__"))) && (decide (PySem.W.mroIn K (He.ga K "Ties") (.type "object") = some true) && (decide (PySem.W.kitOne K (.type "NoneType") (.ref (He.ga K "Ties")) = some false) && (decide (PySem.W.kitOne K (.type "int") (.ref (He.ga K "Ties")) = some false) && (decide (PySem.W.kitOne K (.type "bool") (.ref (He.ga K "Ties")) = some false) && (decide (PySem.W.kitOne K (.type "str") (.ref (He.ga K "Ties")) = some false) && (decide (PySem.W.kitOne K (.type "list") (.ref (He.ga K "Ties")) = some false) && (decide (PySem.W.kitOne K (.type "tuple") (.ref (He.ga K "Ties")) = some false))))))))))))
def gH5 (K : PySem.W.Frag) : Bool := decide (PySem.W.kitOne K (.type "dict") (.ref (He.ga K "Ties")) = some false) && (He.eqO (PySem.W.findIn K (.ref (He.ga K "Ties")) "__ne__") (some (some (.builtin "object.__ne__"))) && (He.eqO (PySem.W.specialIn K (.builtin "object.__class__") "__get__") (some (some (.builtin "getset_descriptor.__get__"))) && (decide (PySem.W.takesIn K (.builtin "object.__class__") = some true) && ((He.Fa.int "FEWEST_TIES" 3).ok K && ((He.Fa.int "FEWEST_WORLDS" 2).ok K && ((He.Fa.free "LookupError").ok K && ((He.Fa.free "ValueError").ok K && ((He.Fa.free "abs").ok K && ((He.Fa.free "all").ok K && ((He.Fa.free "any").ok K && ((He.Fa.free "bool").ok K)))))))))))
def gH6 (K : PySem.W.Frag) : Bool := (He.Fa.free "dict").ok K && ((He.Fa.free "divmod").ok K && ((He.Fa.free "enumerate").ok K && ((He.Fa.free "int").ok K && ((He.Fa.free "isinstance").ok K && ((He.Fa.free "len").ok K && ((He.Fa.free "list").ok K && ((He.Fa.free "max").ok K && ((He.Fa.free "min").ok K && ((He.Fa.free "range").ok K && ((He.Fa.free "set").ok K && ((He.Fa.free "sorted").ok K)))))))))))
def gH7 (K : PySem.W.Frag) : Bool := (He.Fa.free "sum").ok K && ((He.Fa.free "tuple").ok K && ((He.Fa.free "zip").ok K))
def exH (K : PySem.W.Frag) : Bool := gH0 K && (gH1 K && (gH2 K && (gH3 K && (gH4 K && (gH5 K && (gH6 K && (gH7 K)))))))
abbrev RwH : PySem.W.OpenRow := PySem.W.OpenLaw.row PySem.Challenge.rw_forkthrift_k53_whole_no_paper_above_a_ke
/-- what the names reach in n steps -/
def lvM (g : Addr → Option Obj) : Nat → List Addr → List Addr
  | 0, as => as
  | n + 1, as => as ++ lvM g n (as.flatMap fun a => match g a with | some o => He.refsD o | none => [])
def frM (g : Addr → Option Obj) (n : Nat) : PySem.W.Frag := He.frG g (lvM g n [mainGlobals])
def hookM (n : Nat) (fn : List He.DefD) (ex : PySem.W.Frag → Bool) : PySem.W.Hook where
  α := He.AlD × Bool
  obs := fun s => (He.obsD [] fn (frM s.heap.get? n), ex (frM s.heap.get? n))
  val := fun _ => (He.valD fn, true)
  says := fun _ h => ∃ K : PySem.W.Frag, K.In h ∧ He.SaysD [] fn K ∧ ex K = true
  of := fun _ _ e => ⟨_, He.frG_in, congrArg Prod.fst e, congrArg Prod.snd e⟩
  keeps := fun _ _ _ ⟨K, hK, c⟩ k => ⟨K, PySem.W.Frag.In.keeps hK k, c⟩
abbrev hkH : PySem.W.Hook := hookM 5 fnH exH
def obH (s : PySem.W.SharedT) : He.AlD × Bool := (He.obsD [] fnH (frM (HandSHeadRun.getT s) 5), exH (frM (HandSHeadRun.getT s) 5))
theorem obH_eq (s : PySem.W.SharedT) : obH s = hkH.obs s.abs := by
  have e : HandSHeadRun.getT s = s.abs.heap.get? := funext (HandSHeadRun.getT_eq s)
  unfold obH
  rw [e] <;> rfl
def lsH0 : List Str := ["_wall", "__name__", "FEWEST_WORLDS", "steps_of", "is_led", "is_way", "is_paper", "cost_of", "walked_from", "best_of", "tied_on", "ways_at", "best_at", "least_cost", "the_keeping", "ForkError", "NoTies", "NoWorld", "FEWEST_TIES", "is_count", "Ties", "made", "are_worlds", "are_pairs"]
def lsH1 : List Str := ["is_tree", "ties_of", "_law_pot", "_law_draw", "_law_tree", "_law_given", "_law_near", "_law_all_ways", "_law_grown", "_law_kept", "_law_cost"]
def lsH : List Str := lsH0 ++ lsH1
set_option maxHeartbeats 0 in
theorem runH (w : World) : HandSHeadRun.RunEq RwH (PySem.W.view RwH.prog [39]) hkH obH 200000 lsH w := by
  intro os
  kernel_rfl

/-! ### trees by their distances -/
section
variable {D : Int → Int → Int} {U : Int → Prop} {ks : List Int} {nb : Int → List Int}
def Btw (D : Int → Int → Int) (u x v : Int) : Prop := D u x + D x v = D u v
structure TreeU (D : Int → Int → Int) (U : Int → Prop) : Prop where
  nn : ∀ u v, U u → U v → 0 ≤ D u v
  self : ∀ u, U u → D u u = 0
  eq : ∀ u v, U u → U v → D u v = 0 → u = v
  sym : ∀ u v, U u → U v → D u v = D v u
  four : ∀ a b c d, U a → U b → U c → U d → D a b + D c d ≤ D a c + D b d ∨ D a b + D c d ≤ D a d + D b c
theorem TreeU.tri (t : TreeU D U) {a b c : Int} (ha : U a) (hb : U b) (hc : U c) : D a b ≤ D a c + D c b := by
  have := t.four a b c c ha hb hc hc
  have := t.self c hc
  have := t.sym b c hb hc
  omega
theorem TreeU.pos (t : TreeU D U) {a b : Int} (ha : U a) (hb : U b) (n : a ≠ b) : 0 < D a b := by
  have := t.nn a b ha hb
  rcases Int.lt_or_eq_of_le this with h | h
  · exact h
  · exact absurd (t.eq a b ha hb h.symm) n
theorem Btw.sym (t : TreeU D U) {a b c : Int} (ha : U a) (hb : U b) (hc : U c) (h : Btw D a b c) : Btw D c b a := by
  unfold Btw at h ⊢
  have := t.sym a b ha hb
  have := t.sym b c hb hc
  have := t.sym a c ha hc
  omega
/-- the three sums of four points -/
theorem TreeU.sums (t : TreeU D U) {a b c d : Int} (ha : U a) (hb : U b) (hc : U c) (hd : U d) :
    (D a b + D c d ≤ D a c + D b d ∨ D a b + D c d ≤ D a d + D b c) ∧ (D a c + D b d ≤ D a b + D c d ∨ D a c + D b d ≤ D a d + D b c) ∧ (D a d + D b c ≤ D a b + D c d ∨ D a d + D b c ≤ D a c + D b d) := by
  have h1 := t.four a b c d ha hb hc hd
  have h2 := t.four a c b d ha hc hb hd
  have h3 := t.four a d b c ha hd hb hc
  rw [t.sym c b hc hb] at h2
  rw [t.sym d c hd hc, t.sym d b hd hb] at h3
  exact ⟨h1, h2, h3⟩
/-- on one way, x and z: z is on one side of x -/
theorem TreeU.line (t : TreeU D U) {a x b z : Int} (ha : U a) (hx : U x) (hb : U b) (hz : U z) (h1 : Btw D a x b) (h2 : Btw D a z b) : Btw D a z x ∨ Btw D x z b := by
  obtain ⟨q1, q2, q3⟩ := t.sums ha hb hx hz
  have := t.sym b x hb hx
  have := t.sym b z hb hz
  have := t.sym x z hx hz
  have := t.nn x z hx hz
  unfold Btw at *
  omega
theorem TreeU.med1 (t : TreeU D U) {a b c x y : Int} (ha : U a) (hb : U b) (hc : U c) (hx : U x) (hy : U y)
    (h1 : Btw D a x b) (h2 : Btw D a x c) (h3 : Btw D b x c) (k1 : Btw D a y b) (k2 : Btw D a y c) (k3 : Btw D b y c) : x = y := by
  refine t.eq x y hx hy ?_
  obtain ⟨q1, q2, q3⟩ := t.sums ha hb hx hy
  have := t.sym b x hb hx
  have := t.sym b y hb hy
  have := t.sym c x hc hx
  have := t.sym c y hc hy
  have := t.nn x y hx hy
  unfold Btw at *
  omega
theorem TreeU.mid_l (t : TreeU D U) {u x v z : Int} (hu : U u) (hx : U x) (hv : U v) (hz : U z) (h : Btw D u x v) (k : Btw D u z x) : Btw D u z v ∧ Btw D z x v := by
  have := t.tri hu hv hz
  have := t.tri hz hv hx
  unfold Btw at *
  omega
theorem TreeU.mid_ne (t : TreeU D U) {u x v z : Int} (hu : U u) (hx : U x) (hv : U v) (h : Btw D u x v) (n : x ≠ v) (k : Btw D u z x) : z ≠ v := fun e => by
  subst e
  have := t.pos hx hv n
  have := t.sym x z hx hv
  unfold Btw at *
  omega
structure Rp (D : Int → Int → Int) (ks : List Int) (nb : Int → List Int) : Prop where
  nd : ∀ u ∈ ks, (nb u).Nodup
  adj : ∀ u ∈ ks, ∀ v, v ∈ nb u ↔ v ∈ ks ∧ v ≠ u ∧ ∀ x ∈ ks, x ≠ u → x ≠ v → ¬ Btw D u x v
  med : ∀ u ∈ ks, ∀ v ∈ ks, ∀ w ∈ ks, ∃ m ∈ ks, Btw D u m v ∧ Btw D u m w ∧ Btw D v m w
theorem Rp.sym (r : Rp D ks nb) (t : TreeU D U) (hU : ∀ u ∈ ks, U u) {u v : Int} (hu : u ∈ ks) (h : v ∈ nb u) : u ∈ nb v := by
  obtain ⟨a, b, c⟩ := (r.adj u hu v).mp h
  refine (r.adj v a u).mpr ⟨hu, Ne.symm b, fun x hx n1 n2 k => c x hx n2 n1 (k.sym t (hU v a) (hU x hx) (hU u hu))⟩
/-- x lies between two of its neighbours -/
theorem Rp.through (r : Rp D ks nb) (t : TreeU D U) (hU : ∀ u ∈ ks, U u) {x p q : Int} (hx : x ∈ ks) (hp : p ∈ nb x) (hq : q ∈ nb x) (n : p ≠ q) : Btw D p x q := by
  obtain ⟨p1, p2, p3⟩ := (r.adj x hx p).mp hp
  obtain ⟨q1, q2, q3⟩ := (r.adj x hx q).mp hq
  obtain ⟨m, hm, m1, m2, m3⟩ := r.med x hx p p1 q q1
  by_cases c1 : m = x
  · rw [← c1]
    exact m3
  · by_cases c2 : m = p
    · subst c2
      exact absurd m2 (q3 m hm c1 n)
    · exact absurd m1 (p3 m hm c1 c2)
theorem min_of {p : Int → Prop} (f : Int → Int) : ∀ l : List Int, (∃ z ∈ l, p z) → ∃ y ∈ l, p y ∧ ∀ z ∈ l, p z → f y ≤ f z
  | [], h => by
    obtain ⟨z, hz, _⟩ := h
    cases hz
  | a :: l, h => by
    by_cases c : ∃ z ∈ l, p z
    · obtain ⟨y, y1, y2, y3⟩ := min_of f l c
      by_cases d : p a ∧ f a < f y
      · refine ⟨a, List.mem_cons_self, d.1, fun z hz pz => ?_⟩
        rcases List.mem_cons.mp hz with rfl | hz
        · exact Int.le_refl _
        · have := y3 z hz pz
          omega
      · refine ⟨y, List.mem_cons_of_mem _ y1, y2, fun z hz pz => ?_⟩
        rcases List.mem_cons.mp hz with rfl | hz
        · by_cases e : f z < f y
          · exact absurd ⟨pz, e⟩ d
          · omega
        · exact y3 z hz pz
    · obtain ⟨z, hz, pz⟩ := h
      refine ⟨z, hz, pz, fun w hw pw => ?_⟩
      rcases List.mem_cons.mp hw with e | hw
      · rcases List.mem_cons.mp hz with e2 | hz
        · rw [e, e2]
          exact Int.le_refl _
        · exact absurd ⟨z, hz, pz⟩ c
      · exact absurd ⟨w, hw, pw⟩ c
/-- the neighbour on the way from x to u -/
theorem Rp.toward (r : Rp D ks nb) (t : TreeU D U) (hU : ∀ u ∈ ks, U u) {x u : Int} (hx : x ∈ ks) (hu : u ∈ ks) (n : x ≠ u) : ∃ y ∈ nb x, Btw D x y u := by
  have s : Btw D x u u := by
    have := t.self u (hU u hu)
    unfold Btw
    omega
  obtain ⟨y, hy, ⟨y1, y2⟩, y3⟩ := min_of (p := fun y => y ≠ x ∧ Btw D x y u) (fun y => D x y) ks ⟨u, hu, Ne.symm n, s⟩
  refine ⟨y, (r.adj x hx y).mpr ⟨hy, y1, fun z hz n1 n2 k => ?_⟩, y2⟩
  have hzy := t.pos (hU z hz) (hU y hy) n2
  have m := (t.mid_l (hU x hx) (hU y hy) (hU u hu) (hU z hz) y2 k).1
  have := y3 z hz ⟨n1, m⟩
  unfold Btw at k
  omega
theorem two_lists {l : List Int} (h : l.length ≤ 2) {a b : Int} (ha : a ∈ l) (hb : b ∈ l) (n : a ≠ b) : l = [a, b] ∨ l = [b, a] := by
  match l, h with
  | [], _ => cases ha
  | [c], _ =>
    rw [List.mem_singleton] at ha hb
    exact absurd (ha.trans hb.symm) n
  | [c, d], _ =>
    simp only [List.mem_cons, List.not_mem_nil, or_false] at ha hb
    rcases ha with rfl | rfl <;> rcases hb with rfl | rfl
    · exact absurd rfl n
    · exact .inl rfl
    · exact .inr rfl
    · exact absurd rfl n
/-- what is left at u when x goes -/
def cutN (nb : Int → List Int) (x : Int) : Int → List Int := fun u =>
  match nb x with
  | [a, b] => if u = a then (nb u).erase x ++ [b] else if u = b then (nb u).erase x ++ [a] else (nb u).erase x
  | _ => (nb u).erase x
theorem mem_cutN {nb : Int → List Int} {x u v : Int} (nd : (nb u).Nodup) (nx : (nb x).Nodup) : v ∈ cutN nb x u ↔ (v ∈ nb u ∧ v ≠ x) ∨ ((nb x = [u, v] ∨ nb x = [v, u]) ∧ u ≠ v) := by
  have e : v ∈ (nb u).erase x ↔ v ∈ nb u ∧ v ≠ x := by
    rw [nd.mem_erase_iff]
    exact ⟨fun h => ⟨h.2, h.1⟩, fun h => ⟨h.2, h.1⟩⟩
  unfold cutN
  split
  · rename_i a b h
    rw [h] at nx
    have nab : a ≠ b := by
      simp only [List.nodup_cons, List.mem_singleton] at nx
      exact nx.1
    by_cases c1 : u = a
    · rw [if_pos c1, List.mem_append, e, List.mem_singleton]
      subst c1
      constructor
      · rintro (z | rfl)
        · exact .inl z
        · exact .inr ⟨.inl h, nab⟩
      · rintro (z | ⟨z | z, n⟩)
        · exact .inl z
        · rw [h] at z
          injection z with _ z
          injection z with z
          exact .inr z.symm
        · rw [h] at z
          injection z with z1 z
          exact absurd z1 n
    · rw [if_neg c1]
      by_cases c2 : u = b
      · rw [if_pos c2, List.mem_append, e, List.mem_singleton]
        subst c2
        constructor
        · rintro (z | rfl)
          · exact .inl z
          · exact .inr ⟨.inr h, Ne.symm nab⟩
        · rintro (z | ⟨z | z, n⟩)
          · exact .inl z
          · rw [h] at z
            injection z with z1 z
            exact absurd z1.symm c1
          · rw [h] at z
            injection z with z1 z
            exact .inr z1.symm
      · rw [if_neg c2, e]
        constructor
        · exact .inl
        · rintro (z | ⟨z | z, n⟩)
          · exact z
          · rw [h] at z
            injection z with z1 z
            exact absurd z1.symm c1
          · rw [h] at z
            injection z with z1 z
            injection z with z2 z
            exact absurd z2.symm c2
  · rename_i h
    rw [e]
    constructor
    · exact .inl
    · rintro (z | ⟨z | z, n⟩)
      · exact z
      · exact absurd z (h _ _)
      · exact absurd z (h _ _)
/-- a node with less than three ties goes -/
theorem Rp.cut (r : Rp D ks nb) (t : TreeU D U) (hU : ∀ u ∈ ks, U u) (nk : ks.Nodup) {x : Int} (hx : x ∈ ks) (few : (nb x).length < 3) : Rp D (ks.erase x) (cutN nb x) := by
  have me : ∀ {u}, u ∈ ks.erase x ↔ u ≠ x ∧ u ∈ ks := fun {u} => nk.mem_erase_iff
  have nxx : x ∉ nb x := fun z => ((r.adj x hx x).mp z).2.1 rfl
  have key : ∀ a b, a ∈ nb x → b ∈ nb x → a ≠ b → b ∉ nb a := fun a b ha hb n z => by
    obtain ⟨a1, a2, _⟩ := (r.adj x hx a).mp ha
    obtain ⟨b1, b2, _⟩ := (r.adj x hx b).mp hb
    exact ((r.adj a a1 b).mp z).2.2 x hx (Ne.symm a2) (Ne.symm b2) (r.through t hU hx ha hb n)
  refine ⟨fun u hu => ?_, fun u hu v => ?_, fun u hu v hv w hw => ?_⟩
  · obtain ⟨u1, u2⟩ := me.mp hu
    have e1 := (r.nd u u2).erase x
    unfold cutN
    split
    · rename_i a b h
      have nx := r.nd x hx
      rw [h] at nx
      have nab : a ≠ b := by
        simp only [List.nodup_cons, List.mem_singleton] at nx
        exact nx.1
      have ha : a ∈ nb x := by rw [h]; exact List.mem_cons_self
      have hb : b ∈ nb x := by rw [h]; exact List.mem_cons_of_mem _ List.mem_cons_self
      split
      · rename_i c
        subst c
        refine List.nodup_append.mpr ⟨e1, by simp, fun y hy z hz e => ?_⟩
        rw [List.mem_singleton.mp hz] at e
        rw [e] at hy
        exact key u b ha hb nab (List.mem_of_mem_erase hy)
      · split
        · rename_i c
          subst c
          refine List.nodup_append.mpr ⟨e1, by simp, fun y hy z hz e => ?_⟩
          rw [List.mem_singleton.mp hz] at e
          rw [e] at hy
          exact key u a hb ha (Ne.symm nab) (List.mem_of_mem_erase hy)
        · exact e1
    · exact e1
  · obtain ⟨u1, u2⟩ := me.mp hu
    rw [mem_cutN (r.nd u u2) (r.nd x hx)]
    constructor
    · rintro (⟨h, n⟩ | ⟨h, n⟩)
      · obtain ⟨v1, v2, v3⟩ := (r.adj u u2 v).mp h
        exact ⟨me.mpr ⟨n, v1⟩, v2, fun z hz => v3 z (me.mp hz).2⟩
      · have hu3 : u ∈ nb x := by rcases h with h | h <;> rw [h] <;> simp
        have hv3 : v ∈ nb x := by rcases h with h | h <;> rw [h] <;> simp
        obtain ⟨v1, v2, v3⟩ := (r.adj x hx v).mp hv3
        obtain ⟨w1, w2, w3⟩ := (r.adj x hx u).mp hu3
        refine ⟨me.mpr ⟨v2, v1⟩, Ne.symm n, fun z hz n1 n2 k => ?_⟩
        obtain ⟨z1, z2⟩ := me.mp hz
        have th := r.through t hU hx hu3 hv3 n
        rcases t.line (hU u u2) (hU x hx) (hU v v1) (hU z z2) th k with l | l
        · exact w3 z z2 z1 n1 (l.sym t (hU u u2) (hU z z2) (hU x hx))
        · exact v3 z z2 z1 n2 l
    · rintro ⟨hv, n, h⟩
      obtain ⟨v1, v2⟩ := me.mp hv
      by_cases c : Btw D u x v
      · have a1 : u ∈ nb x := r.sym t hU u2 ((r.adj u u2 x).mpr ⟨hx, Ne.symm u1, fun z hz n1 n2 k => h z (me.mpr ⟨n2, hz⟩) n1 (t.mid_ne (hU u u2) (hU x hx) (hU v v2) c (Ne.symm v1) k) (t.mid_l (hU u u2) (hU x hx) (hU v v2) (hU z hz) c k).1⟩)
        have c' := c.sym t (hU u u2) (hU x hx) (hU v v2)
        have a2 : v ∈ nb x := r.sym t hU v2 ((r.adj v v2 x).mpr ⟨hx, Ne.symm v1, fun z hz n1 n2 k => h z (me.mpr ⟨n2, hz⟩) (t.mid_ne (hU v v2) (hU x hx) (hU u u2) c' (Ne.symm u1) k) n1 ((t.mid_l (hU v v2) (hU x hx) (hU u u2) (hU z hz) c' k).1.sym t (hU v v2) (hU z hz) (hU u u2))⟩)
        exact .inr ⟨two_lists (by omega) a1 a2 (Ne.symm n), Ne.symm n⟩
      · refine .inl ⟨(r.adj u u2 v).mpr ⟨v2, n, fun z hz n1 n2 k => ?_⟩, v1⟩
        by_cases cz : z = x
        · subst cz
          exact c k
        · exact h z (me.mpr ⟨cz, hz⟩) n1 n2 k
  · obtain ⟨u1, u2⟩ := me.mp hu
    obtain ⟨v1, v2⟩ := me.mp hv
    obtain ⟨w1, w2⟩ := me.mp hw
    obtain ⟨m, hm, m1, m2, m3⟩ := r.med u u2 v v2 w w2
    by_cases c : m = x
    · exfalso
      subst c
      obtain ⟨a, ha, a1⟩ := r.toward t hU hm u2 (Ne.symm u1)
      obtain ⟨b, hb, b1⟩ := r.toward t hU hm v2 (Ne.symm v1)
      obtain ⟨c, hc, c1⟩ := r.toward t hU hm w2 (Ne.symm w1)
      have ne : ∀ {u v a : Int}, u ∈ ks → v ∈ ks → a ∈ nb m → Btw D m a u → Btw D m a v → Btw D u m v → False := fun {u v a} hu hv ha a1 a2 k => by
        obtain ⟨x1, x2, _⟩ := (r.adj m hm a).mp ha
        have := t.tri (hU u hu) (hU v hv) (hU a x1)
        have := t.pos (hU m hm) (hU a x1) (Ne.symm x2)
        have := t.sym a u (hU a x1) (hU u hu)
        have := t.sym m u (hU m hm) (hU u hu)
        unfold Btw at *
        omega
      have nab : a ≠ b := fun e => by subst e; exact ne u2 v2 ha a1 b1 m1
      have nac : a ≠ c := fun e => by subst e; exact ne u2 w2 ha a1 c1 m2
      have nbc : b ≠ c := fun e => by subst e; exact ne v2 w2 hb b1 c1 m3
      rcases two_lists (by omega) ha hb nab with e | e
      all_goals
        rw [e] at hc
        simp only [List.mem_cons, List.not_mem_nil, or_false] at hc
        rcases hc with rfl | rfl
        · first | exact nac rfl | exact nbc rfl
        · first | exact nbc rfl | exact nac rfl
    · exact ⟨m, me.mpr ⟨c, hm⟩, m1, m2, m3⟩
end

/-! ### what ties are, as a tree of worlds -/
section
variable {D : Int → Int → Int} {ever w : Int} {liv liv' ks ks' : List Int} {nb nb' : Int → List Int}
def Un (ever : Int) (x : Int) : Prop := 0 ≤ x ∧ x < ever
structure Tr3 (D : Int → Int → Int) (ever : Int) (liv ks : List Int) (nb : Int → List Int) : Prop where
  t : TreeU D (Un ever)
  hU : ∀ u ∈ ks, Un ever u
  rp : Rp D ks nb
  nk : ks.Nodup
  nl : liv.Nodup
  sub : ∀ x ∈ liv, x ∈ ks
  red : ∀ x ∈ ks, x ∉ liv → 3 ≤ (nb x).length
  e0 : 0 < ever
theorem sub_len : ∀ {l m : List Int}, l.Nodup → (∀ x ∈ l, x ∈ m) → l.length ≤ m.length
  | [], _, _, _ => Nat.zero_le _
  | a :: l, m, n, h => by
    rw [List.nodup_cons] at n
    have ha := h a List.mem_cons_self
    have e := List.length_erase_of_mem ha
    have ih := sub_len (m := m.erase a) n.2 fun x hx => (List.mem_erase_of_ne (fun z => n.1 (by rw [← z]; exact hx))).mpr (h x (List.mem_cons_of_mem _ hx))
    have := List.length_pos_of_mem ha
    rw [List.length_cons]
    omega
theorem un_len {l : List Int} (n : l.Nodup) (h : ∀ x ∈ l, Un ever x) : l.length ≤ ever.toNat := by
  have := sub_len (m := (List.range ever.toNat).map Int.ofNat) n fun x hx => by
    obtain ⟨a, b⟩ := h x hx
    refine List.mem_map.mpr ⟨x.toNat, List.mem_range.mpr (by omega), ?_⟩
    show (x.toNat : Int) = x
    omega
  rw [List.length_map, List.length_range] at this
  exact this
theorem Tr3.klen (z : Tr3 D ever liv ks nb) : ks.length ≤ ever.toNat := un_len z.nk z.hU
theorem Tr3.nlen (z : Tr3 D ever liv ks nb) {u : Int} (hu : u ∈ ks) : (nb u).length ≤ ever.toNat := un_len (z.rp.nd u hu) fun x hx => z.hU x ((z.rp.adj u hu x).mp hx).1
theorem Tr3.llen (z : Tr3 D ever liv ks nb) : liv.length ≤ ever.toNat := un_len z.nl fun x hx => z.hU x (z.sub x hx)
/-- the same ties, told in another order -/
theorem Rp.alike (r : Rp D ks nb) (m : ∀ x, x ∈ ks' ↔ x ∈ ks) (nd : ∀ u ∈ ks, (nb' u).Nodup) (h : ∀ u ∈ ks, ∀ v, v ∈ nb' u ↔ v ∈ nb u) : Rp D ks' nb' :=
  ⟨fun u hu => nd u ((m u).mp hu), fun u hu v => by
    rw [h u ((m u).mp hu), r.adj u ((m u).mp hu), m]
    exact ⟨fun ⟨a, b, c⟩ => ⟨a, b, fun x hx => c x ((m x).mp hx)⟩, fun ⟨a, b, c⟩ => ⟨a, b, fun x hx => c x ((m x).mpr hx)⟩⟩, fun u hu v hv w hw => by
    obtain ⟨x, x1, x2⟩ := r.med u ((m u).mp hu) v ((m v).mp hv) w ((m w).mp hw)
    exact ⟨x, (m x).mpr x1, x2⟩⟩
theorem nd_perm {l m : List Int} (h1 : l.Nodup) (h2 : m.Nodup) (h : ∀ x, x ∈ l ↔ x ∈ m) : l.Perm m := (List.perm_ext_iff_of_nodup h1 h2).mpr fun a => h a
theorem Tr3.alike (z : Tr3 D ever liv ks nb) (nk : ks'.Nodup) (m : ∀ x, x ∈ ks' ↔ x ∈ ks) (nl : liv'.Nodup) (ml : ∀ x, x ∈ liv' ↔ x ∈ liv) (nd : ∀ u ∈ ks, (nb' u).Nodup) (h : ∀ u ∈ ks, ∀ v, v ∈ nb' u ↔ v ∈ nb u) : Tr3 D ever liv' ks' nb' :=
  ⟨z.t, fun u hu => z.hU u ((m u).mp hu), z.rp.alike m nd h, nk, nl, fun x hx => (m x).mpr (z.sub x ((ml x).mp hx)), fun x hx n => by
    have hx' := (m x).mp hx
    rw [(nd_perm (nd x hx') (z.rp.nd x hx') (h x hx')).length_eq]
    exact z.red x hx' fun q => n ((ml x).mpr q), z.e0⟩
def D0 : Int → Int → Int := fun _ _ => 0
theorem tr3_init : Tr3 D0 1 [0] [0] (fun _ => []) := by
  have e : ∀ u, Un 1 u → u = 0 := fun u h => by
    obtain ⟨a, b⟩ := h
    omega
  refine ⟨⟨fun _ _ _ _ => Int.le_refl _, fun _ _ => rfl, fun u v hu hv _ => by rw [e u hu, e v hv], fun _ _ _ _ => rfl, fun _ _ _ _ _ _ _ _ => .inl (Int.le_refl _)⟩, fun u hu => ?_, ⟨fun _ _ => List.nodup_nil, fun u hu v => ?_, fun u _ _ _ _ _ => ⟨0, List.mem_singleton.mpr rfl, rfl, rfl, rfl⟩⟩, by simp, by simp, fun _ h => h, fun x hx n => absurd hx n, by decide⟩
  · rw [List.mem_singleton.mp hu]
    exact ⟨Int.le_refl _, by decide⟩
  · constructor
    · intro h
      cases h
    · rintro ⟨a, b, _⟩
      rw [List.mem_singleton.mp hu, List.mem_singleton.mp a] at b
      exact absurd rfl b
/-- a fork: n hangs at w -/
def Dk (D : Int → Int → Int) (n w : Int) : Int → Int → Int := fun u v => if u = n then (if v = n then 0 else D w v + 1) else if v = n then D u w + 1 else D u v
theorem dk_old {n u v : Int} (hu : u ≠ n) (hv : v ≠ n) : Dk D n w u v = D u v := by
  unfold Dk
  rw [if_neg hu, if_neg hv]
theorem dk_nl {n v : Int} (hv : v ≠ n) : Dk D n w n v = D w v + 1 := by
  unfold Dk
  rw [if_pos rfl, if_neg hv]
theorem dk_nr {n u : Int} (hu : u ≠ n) : Dk D n w u n = D u w + 1 := by
  unfold Dk
  rw [if_neg hu, if_pos rfl]
theorem dk_nn {n : Int} : Dk D n w n n = 0 := by
  unfold Dk
  rw [if_pos rfl, if_pos rfl]
theorem TreeU.fork (t : TreeU D (Un ever)) (hw : Un ever w) : TreeU (Dk D ever w) (Un (ever + 1)) := by
  have old : ∀ {u}, Un (ever + 1) u → u = ever ∨ (u ≠ ever ∧ Un ever u) := fun {u} h => by
    obtain ⟨a, b⟩ := h
    by_cases c : u = ever
    · exact .inl c
    · exact .inr ⟨c, a, by omega⟩
  have sw := t.self w hw
  refine ⟨fun u v hu hv => ?_, fun u hu => ?_, fun u v hu hv h => ?_, fun u v hu hv => ?_, fun a b c d ha hb hc hd => ?_⟩
  · rcases old hu with rfl | ⟨u1, u2⟩ <;> rcases old hv with rfl | ⟨v1, v2⟩
    · rw [dk_nn]; exact Int.le_refl _
    · rw [dk_nl v1]; have := t.nn w v hw v2; omega
    · rw [dk_nr u1]; have := t.nn u w u2 hw; omega
    · rw [dk_old u1 v1]; exact t.nn u v u2 v2
  · rcases old hu with rfl | ⟨u1, u2⟩
    · rw [dk_nn]
    · rw [dk_old u1 u1]; exact t.self u u2
  · rcases old hu with rfl | ⟨u1, u2⟩ <;> rcases old hv with rfl | ⟨v1, v2⟩
    · rfl
    · rw [dk_nl v1] at h; have := t.nn w v hw v2; omega
    · rw [dk_nr u1] at h; have := t.nn u w u2 hw; omega
    · rw [dk_old u1 v1] at h; exact t.eq u v u2 v2 h
  · rcases old hu with rfl | ⟨u1, u2⟩ <;> rcases old hv with rfl | ⟨v1, v2⟩
    · rfl
    · rw [dk_nl v1, dk_nr v1, t.sym w v hw v2]
    · rw [dk_nl u1, dk_nr u1, t.sym w u hw u2]
    · rw [dk_old u1 v1, dk_old v1 u1, t.sym u v u2 v2]
  · rcases old ha with rfl | ⟨a1, a2⟩ <;> rcases old hb with rfl | ⟨b1, b2⟩ <;> rcases old hc with rfl | ⟨c1, c2⟩ <;> rcases old hd with rfl | ⟨d1, d2⟩
    · simp only [dk_nn]; omega
    · simp only [dk_nn, dk_nl d1]; omega
    · simp only [dk_nn, dk_nl c1, dk_nr c1]; have := t.sym w c hw c2; omega
    · simp only [dk_nn, dk_nl d1, dk_nl c1, dk_old c1 d1]
      have := t.tri c2 d2 hw
      have := t.sym w c hw c2
      omega
    · simp only [dk_nn, dk_nl b1, dk_nr b1]; have := t.sym w b hw b2; omega
    · simp only [dk_nn, dk_nl d1, dk_nl b1, dk_nr b1, dk_old b1 d1]
      have := t.tri b2 d2 hw
      have := t.sym w b hw b2
      omega
    · simp only [dk_nn, dk_nl c1, dk_nr c1, dk_nl b1, dk_nr b1, dk_old b1 c1]
      have := t.tri b2 c2 hw
      have := t.sym w b hw b2
      have := t.sym w c hw c2
      omega
    · simp only [dk_nl d1, dk_nl b1, dk_nl c1, dk_old b1 d1, dk_old c1 d1, dk_old b1 c1]
      have := t.four w b c d hw b2 c2 d2
      omega
    · simp only [dk_nn, dk_nr a1]; omega
    · simp only [dk_nn, dk_nl d1, dk_nr a1, dk_old a1 d1]
      have := t.tri a2 d2 hw
      omega
    · simp only [dk_nn, dk_nl c1, dk_nr c1, dk_nr a1, dk_old a1 c1]
      have := t.tri a2 c2 hw
      have := t.sym w c hw c2
      omega
    · simp only [dk_nl d1, dk_nr a1, dk_nl c1, dk_old a1 d1, dk_old c1 d1, dk_old a1 c1]
      have := t.four a w c d a2 hw c2 d2
      omega
    · simp only [dk_nn, dk_nr a1, dk_nr b1, dk_old a1 b1]
      have := t.tri a2 b2 hw
      have := t.sym w b hw b2
      omega
    · simp only [dk_nl d1, dk_nr a1, dk_nr b1, dk_old a1 b1, dk_old b1 d1, dk_old a1 d1]
      have := t.four a b w d a2 b2 hw d2
      omega
    · simp only [dk_nr a1, dk_nr b1, dk_nr c1, dk_old a1 b1, dk_old b1 c1, dk_old a1 c1]
      have := t.four a b c w a2 b2 c2 hw
      omega
    · rw [dk_old a1 b1, dk_old c1 d1, dk_old a1 c1, dk_old b1 d1, dk_old a1 d1, dk_old b1 c1]
      exact t.four a b c d a2 b2 c2 d2
def forkN (nb : Int → List Int) (n w : Int) : Int → List Int := fun u => if u = n then [w] else if u = w then nb u ++ [n] else nb u
theorem Rp.fork (r : Rp D ks nb) (t : TreeU D (Un ever)) (hU : ∀ u ∈ ks, Un ever u) (hw : w ∈ ks) : Rp (Dk D ever w) (ks ++ [ever]) (forkN nb ever w) := by
  have old : ∀ {u}, u ∈ ks → u ≠ ever := fun {u} h e => by
    obtain ⟨a, b⟩ := hU u h
    omega
  have hwU := hU w hw
  have nin : ∀ {u}, u ∈ ks → ever ∉ nb u := fun {u} hu z => old ((r.adj u hu ever).mp z).1 rfl
  have me : ∀ {u}, u ∈ ks ++ [ever] ↔ u ∈ ks ∨ u = ever := fun {u} => by rw [List.mem_append, List.mem_singleton]
  have sw := t.self w hwU
  refine ⟨fun u hu => ?_, fun u hu v => ?_, fun u hu v hv x hx => ?_⟩
  · unfold forkN
    split
    · simp
    · rename_i c
      have hu' := (me.mp hu).resolve_right c
      split
      · exact List.nodup_append.mpr ⟨r.nd u hu', by simp, fun a ha b hb e => nin hu' (by rw [List.mem_singleton.mp hb] at e; rw [← e]; exact ha)⟩
      · exact r.nd u hu'
  · unfold forkN
    by_cases c : u = ever
    · subst c
      rw [if_pos rfl, List.mem_singleton]
      constructor
      · rintro rfl
        refine ⟨me.mpr (.inl hw), old hw, fun x hx n1 n2 k => ?_⟩
        have hx' := (me.mp hx).resolve_right n1
        unfold Btw at k
        rw [dk_nl n1, dk_nl (old hw), dk_old n1 (old hw)] at k
        have := t.pos (hU v hw) (hU x hx') (Ne.symm n2)
        have := t.sym v x hwU (hU x hx')
        omega
      · rintro ⟨a, b, h⟩
        have hv' := (me.mp a).resolve_right b
        refine Classical.byContradiction fun n => h w (me.mpr (.inl hw)) (old hw) (fun z => n z.symm) ?_
        unfold Btw
        rw [dk_nl (old hw), dk_nl b, dk_old (old hw) b]
        omega
    · rw [if_neg c]
      have hu' := (me.mp hu).resolve_right c
      by_cases cv : v = ever
      · subst cv
        by_cases cw : u = w
        · subst cw
          rw [if_pos rfl]
          refine ⟨fun _ => ⟨me.mpr (.inr rfl), Ne.symm c, fun x hx n1 n2 k => ?_⟩, fun _ => List.mem_append.mpr (.inr (List.mem_singleton.mpr rfl))⟩
          have hx' := (me.mp hx).resolve_right n2
          unfold Btw at k
          rw [dk_old c n2, dk_nr n2, dk_nr c] at k
          have := t.pos hwU (hU x hx') (Ne.symm n1)
          have := t.sym u x hwU (hU x hx')
          omega
        · rw [if_neg cw]
          refine ⟨fun z => absurd z (nin hu'), fun ⟨_, _, h⟩ => ?_⟩
          refine absurd ?_ (h w (me.mpr (.inl hw)) (fun z => cw z.symm) (old hw))
          unfold Btw
          rw [dk_old c (old hw), dk_nr (old hw), dk_nr c]
          omega
      · have e : (v ∈ if u = w then nb u ++ [ever] else nb u) ↔ v ∈ nb u := by
          split
          · rw [List.mem_append, List.mem_singleton]
            exact ⟨fun z => z.resolve_right cv, .inl⟩
          · exact Iff.rfl
        rw [e, r.adj u hu' v]
        constructor
        · rintro ⟨a, b, h⟩
          refine ⟨me.mpr (.inl a), b, fun x hx n1 n2 k => ?_⟩
          unfold Btw at k
          rcases me.mp hx with hx' | rfl
          · rw [dk_old c (old hx'), dk_old (old hx') cv, dk_old c cv] at k
            exact h x hx' n1 n2 k
          · rw [dk_nr c, dk_nl cv, dk_old c cv] at k
            have := t.tri (hU u hu') (hU v a) hwU
            omega
        · rintro ⟨a, b, h⟩
          refine ⟨(me.mp a).resolve_right cv, b, fun x hx n1 n2 k => h x (me.mpr (.inl hx)) n1 n2 ?_⟩
          unfold Btw at k ⊢
          rw [dk_old c (old hx), dk_old (old hx) cv, dk_old c cv]
          exact k
  · -- medians
    have self : ∀ {u}, u ∈ ks → D u u = 0 := fun {u} h => t.self u (hU u h)
    have bo : ∀ {a b c}, a ∈ ks → b ∈ ks → c ∈ ks → Btw D a b c → Btw (Dk D ever w) a b c := fun {a b c} ha hb hc h => by
      unfold Btw at h ⊢
      rw [dk_old (old ha) (old hb), dk_old (old hb) (old hc), dk_old (old ha) (old hc)]
      exact h
    have bl : ∀ {b c}, b ∈ ks → c ∈ ks → Btw D w b c → Btw (Dk D ever w) ever b c := fun {b c} hb hc h => by
      unfold Btw at h ⊢
      rw [dk_nl (old hb), dk_old (old hb) (old hc), dk_nl (old hc)]
      omega
    have br : ∀ {a b}, a ∈ ks → b ∈ ks → Btw D a b w → Btw (Dk D ever w) a b ever := fun {a b} ha hb h => by
      unfold Btw at h ⊢
      rw [dk_nr (old hb), dk_old (old ha) (old hb), dk_nr (old ha)]
      omega
    have en : ∀ {a}, a ∈ ks → Btw (Dk D ever w) a ever ever ∧ Btw (Dk D ever w) ever ever a := fun {a} ha => by
      unfold Btw
      rw [dk_nn, dk_nr (old ha), dk_nl (old ha)]
      omega
    have nn : Btw (Dk D ever w) ever ever ever := by
      unfold Btw
      rw [dk_nn]
      omega
    replace hu := me.mp hu
    replace hv := me.mp hv
    replace hx := me.mp hx
    rcases hu with hu | rfl <;> rcases hv with hv | rfl <;> rcases hx with hx | rfl
    · obtain ⟨m, hm, m1, m2, m3⟩ := r.med u hu v hv x hx
      exact ⟨m, me.mpr (.inl hm), bo hu hm hv m1, bo hu hm hx m2, bo hv hm hx m3⟩
    · obtain ⟨m, hm, m1, m2, m3⟩ := r.med u hu v hv w hw
      exact ⟨m, me.mpr (.inl hm), bo hu hm hv m1, br hu hm m2, br hv hm m3⟩
    · obtain ⟨m, hm, m1, m2, m3⟩ := r.med u hu w hw x hx
      exact ⟨m, me.mpr (.inl hm), br hu hm m1, bo hu hm hx m2, bl hm hx m3⟩
    · exact ⟨_, me.mpr (.inr rfl), (en hu).1, (en hu).1, nn⟩
    · obtain ⟨m, hm, m1, m2, m3⟩ := r.med w hw v hv x hx
      exact ⟨m, me.mpr (.inl hm), bl hm hv m1, bl hm hx m2, bo hv hm hx m3⟩
    · exact ⟨_, me.mpr (.inr rfl), (en hv).2, nn, (en hv).1⟩
    · exact ⟨_, me.mpr (.inr rfl), nn, (en hx).2, (en hx).2⟩
    · exact ⟨_, me.mpr (.inr rfl), nn, nn, nn⟩
theorem Tr3.fork (z : Tr3 D ever liv ks nb) (hw : w ∈ ks) : Tr3 (Dk D ever w) (ever + 1) (liv ++ [ever]) (ks ++ [ever]) (forkN nb ever w) := by
  have old : ∀ {u}, u ∈ ks → u ≠ ever := fun {u} h e => by
    obtain ⟨a, b⟩ := z.hU u h
    omega
  refine ⟨z.t.fork (z.hU w hw), fun u hu => ?_, z.rp.fork z.t z.hU hw, ?_, ?_, fun x hx => ?_, fun x hx n => ?_, by have := z.e0; omega⟩
  · rcases List.mem_append.mp hu with h | h
    · obtain ⟨a, b⟩ := z.hU u h
      exact ⟨a, by omega⟩
    · rw [List.mem_singleton.mp h]
      have := z.e0
      exact ⟨by omega, by omega⟩
  · exact List.nodup_append.mpr ⟨z.nk, by simp, fun a ha b hb e => old ha (by rw [e, List.mem_singleton.mp hb])⟩
  · exact List.nodup_append.mpr ⟨z.nl, by simp, fun a ha b hb e => old (z.sub a ha) (by rw [e, List.mem_singleton.mp hb])⟩
  · rcases List.mem_append.mp hx with h | h
    · exact List.mem_append.mpr (.inl (z.sub x h))
    · exact List.mem_append.mpr (.inr h)
  · rw [List.mem_append, not_or] at n
    rcases List.mem_append.mp hx with h | h
    · have := z.red x h n.1
      unfold forkN
      rw [if_neg (old h)]
      split
      · rw [List.length_append]
        omega
      · exact this
    · exact absurd h n.2
/-! ### what stays: the living and the medians of three -/
theorem TreeU.join {U : Int → Prop} (t : TreeU D U) {p x q y z : Int} (hp : U p) (hx : U x) (hq : U q) (hy : U y) (hz : U z) (nxp : x ≠ p) (nxq : x ≠ q) (th : Btw D p x q) (h1 : Btw D x p y) (h2 : Btw D x q z) : Btw D y x z := by
  have a1 := t.pos hx hp nxp
  have a2 := t.pos hx hq nxq
  obtain ⟨q1, q2, q3⟩ := t.sums hx hq hp hy
  obtain ⟨r1, r2, r3⟩ := t.sums hx hy hq hz
  have s1 := t.sym p x hp hx
  have s2 := t.sym p q hp hq
  have s3 := t.sym x q hx hq
  have s4 := t.sym x y hx hy
  have s5 := t.sym q y hq hy
  have s6 := t.sym p y hp hy
  have tr := t.tri hy hz hx
  have tr2 := t.tri hy hq hx
  have tr3 := t.tri hy hq hp
  unfold Btw at *
  omega
theorem max_of {p : Int → Prop} (f : Int → Int) (l : List Int) (h : ∃ z ∈ l, p z) : ∃ y ∈ l, p y ∧ ∀ z ∈ l, p z → f z ≤ f y := by
  obtain ⟨y, y1, y2, y3⟩ := min_of (fun x => - f x) l h
  refine ⟨y, y1, y2, fun z hz pz => ?_⟩
  have := y3 z hz pz
  omega
theorem two_of {l : List Int} (nd : l.Nodup) (h : 3 ≤ l.length) (x : Int) : ∃ a ∈ l, a ≠ x := by
  match l, h with
  | a :: b :: _, _ =>
    by_cases c : a = x
    · refine ⟨b, by simp, fun e => ?_⟩
      rw [List.nodup_cons] at nd
      refine nd.1 ?_
      rw [c, ← e]
      exact List.mem_cons_self
    · exact ⟨a, by simp, c⟩
/-- beyond each neighbour there is one that lives -/
theorem Tr3.leaf (z : Tr3 D ever liv ks nb) {x p : Int} (hx : x ∈ ks) (hp : p ∈ nb x) : ∃ y ∈ liv, Btw D x p y := by
  obtain ⟨p1, p2, p3⟩ := (z.rp.adj x hx p).mp hp
  have s : Btw D x p p := by
    have := z.t.self p (z.hU p p1)
    unfold Btw
    omega
  obtain ⟨y, y1, y2, y3⟩ := max_of (p := fun y => Btw D x p y) (fun y => D x y) ks ⟨p, p1, s⟩
  refine Classical.byContradiction fun n => ?_
  have yl : y ∉ liv := fun h => n ⟨y, h, y2⟩
  have nyx : y ≠ x := fun e => by
    subst e
    have := z.t.pos (z.hU y hx) (z.hU p p1) (Ne.symm p2)
    have := z.t.self y (z.hU y hx)
    have := z.t.sym y p (z.hU y hx) (z.hU p p1)
    unfold Btw at y2
    omega
  have hxU := z.hU x hx
  have hyU := z.hU y y1
  have hpU := z.hU p p1
  obtain ⟨v, hv, v1⟩ := z.rp.toward z.t z.hU y1 hx nyx
  obtain ⟨u, hu, nu⟩ := two_of (z.rp.nd y y1) (z.red y y1 yl) v
  obtain ⟨u1, u2, u3⟩ := (z.rp.adj y y1 u).mp hu
  obtain ⟨w1, w2, w3⟩ := (z.rp.adj y y1 v).mp hv
  have huU := z.hU u u1
  have hvU := z.hU v w1
  have th := z.rp.through z.t z.hU y1 hu hv nu
  have k : Btw D u y x := z.t.join huU hyU hvU huU hxU (Ne.symm u2) (Ne.symm w2) th (by
    have := z.t.self u huU
    unfold Btw
    omega) v1
  have k' := k.sym z.t huU hyU hxU
  have f := z.t.pos hyU huU (Ne.symm u2)
  have m := y3 u u1 (by
    have := z.t.tri hxU huU hpU
    have := z.t.tri hpU huU hyU
    unfold Btw at *
    omega)
  unfold Btw at k'
  omega
def Med (D : Int → Int → Int) (liv : List Int) (x : Int) : Prop := ∃ a ∈ liv, ∃ b ∈ liv, ∃ c ∈ liv, Btw D a x b ∧ Btw D a x c ∧ Btw D b x c
theorem three_of {l : List Int} (nd : l.Nodup) (h : 3 ≤ l.length) : ∃ a ∈ l, ∃ b ∈ l, ∃ c ∈ l, a ≠ b ∧ a ≠ c ∧ b ≠ c := by
  match l, h with
  | a :: b :: c :: _, _ =>
    simp only [List.nodup_cons, List.mem_cons, not_or] at nd
    exact ⟨a, by simp, b, by simp, c, by simp, nd.1.1, nd.1.2.1, nd.2.1.1⟩
theorem Tr3.char (z : Tr3 D ever liv ks nb) (x : Int) : x ∈ ks ↔ Un ever x ∧ (x ∈ liv ∨ Med D liv x) := by
  constructor
  · intro hx
    refine ⟨z.hU x hx, ?_⟩
    by_cases c : x ∈ liv
    · exact .inl c
    refine .inr ?_
    obtain ⟨p, hp, q, hq, r, hr, n1, n2, n3⟩ := three_of (z.rp.nd x hx) (z.red x hx c)
    obtain ⟨a, ha, a1⟩ := z.leaf hx hp
    obtain ⟨b, hb, b1⟩ := z.leaf hx hq
    obtain ⟨d, hd, d1⟩ := z.leaf hx hr
    obtain ⟨p1, p2, _⟩ := (z.rp.adj x hx p).mp hp
    obtain ⟨q1, q2, _⟩ := (z.rp.adj x hx q).mp hq
    obtain ⟨r1, r2, _⟩ := (z.rp.adj x hx r).mp hr
    have U : ∀ {y}, y ∈ liv → Un ever y := fun {y} h => z.hU y (z.sub y h)
    exact ⟨a, ha, b, hb, d, hd, z.t.join (z.hU p p1) (z.hU x hx) (z.hU q q1) (U ha) (U hb) (Ne.symm p2) (Ne.symm q2) (z.rp.through z.t z.hU hx hp hq n1) a1 b1,
      z.t.join (z.hU p p1) (z.hU x hx) (z.hU r r1) (U ha) (U hd) (Ne.symm p2) (Ne.symm r2) (z.rp.through z.t z.hU hx hp hr n2) a1 d1,
      z.t.join (z.hU q q1) (z.hU x hx) (z.hU r r1) (U hb) (U hd) (Ne.symm q2) (Ne.symm r2) (z.rp.through z.t z.hU hx hq hr n3) b1 d1⟩
  · rintro ⟨hU, h | ⟨a, ha, b, hb, c, hc, h1, h2, h3⟩⟩
    · exact z.sub x h
    · obtain ⟨m, hm, m1, m2, m3⟩ := z.rp.med a (z.sub a ha) b (z.sub b hb) c (z.sub c hc)
      rw [z.t.med1 (z.hU a (z.sub a ha)) (z.hU b (z.sub b hb)) (z.hU c (z.sub c hc)) hU (z.hU m hm) h1 h2 h3 m1 m2 m3]
      exact hm
/-- what the living are says which ties there are -/
theorem Tr3.same (z : Tr3 D ever liv ks nb) (y : Tr3 D ever liv' ks' nb') (h : ∀ x, x ∈ liv ↔ x ∈ liv') : (∀ x, x ∈ ks ↔ x ∈ ks') ∧ ∀ u ∈ ks, ∀ v, v ∈ nb u ↔ v ∈ nb' u := by
  have e : ∀ x, x ∈ ks ↔ x ∈ ks' := fun x => by
    rw [z.char x, y.char x, h x]
    unfold Med
    constructor
    · rintro ⟨a, b | ⟨p, hp, q, hq, r, hr, k⟩⟩
      · exact ⟨a, .inl b⟩
      · exact ⟨a, .inr ⟨p, (h p).mp hp, q, (h q).mp hq, r, (h r).mp hr, k⟩⟩
    · rintro ⟨a, b | ⟨p, hp, q, hq, r, hr, k⟩⟩
      · exact ⟨a, .inl b⟩
      · exact ⟨a, .inr ⟨p, (h p).mpr hp, q, (h q).mpr hq, r, (h r).mpr hr, k⟩⟩
  refine ⟨e, fun u hu v => ?_⟩
  rw [z.rp.adj u hu v, y.rp.adj u ((e u).mp hu) v, e v]
  exact ⟨fun ⟨a, b, c⟩ => ⟨a, b, fun x hx => c x ((e x).mpr hx)⟩, fun ⟨a, b, c⟩ => ⟨a, b, fun x hx => c x ((e x).mp hx)⟩⟩
/-! ### the loop of end -/
structure Going (D : Int → Int → Int) (ever : Int) (liv ks0 : List Int) (ks : List Int) (nb : Int → List Int) (went waiting : List Int) : Prop where
  t : TreeU D (Un ever)
  hU : ∀ u ∈ ks, Un ever u
  rp : Rp D ks nb
  nk : ks.Nodup
  nl : liv.Nodup
  sub : ∀ x ∈ liv, x ∈ ks
  red : ∀ x ∈ ks, x ∉ liv → 3 ≤ (nb x).length ∨ x ∈ waiting
  pm : (ks ++ went).Perm ks0
  wl : waiting.length ≤ 1 + 2 * went.length
  e0 : 0 < ever
theorem Tr3.going (z : Tr3 D ever liv ks nb) : Going D ever (liv.erase w) ks ks nb [] [w] :=
  ⟨z.t, z.hU, z.rp, z.nk, z.nl.erase _, fun x hx => z.sub x (List.mem_of_mem_erase hx), fun x hx n => by
    by_cases c : x = w
    · exact .inr (List.mem_singleton.mpr c)
    · exact .inl (z.red x hx fun h => n ((List.mem_erase_of_ne c).mpr h)), by rw [List.append_nil], by simp, z.e0⟩
theorem Going.tr3 {ks0 went : List Int} (z : Going D ever liv ks0 ks nb went []) : Tr3 D ever liv ks nb :=
  ⟨z.t, z.hU, z.rp, z.nk, z.nl, z.sub, fun x hx n => (z.red x hx n).resolve_right (by simp), z.e0⟩
theorem Going.skip {ks0 went wait : List Int} {x : Int} (z : Going D ever liv ks0 ks nb went (wait ++ [x])) (h : ¬ (x ∈ ks ∧ x ∉ liv ∧ (nb x).length < 3)) : Going D ever liv ks0 ks nb went wait :=
  ⟨z.t, z.hU, z.rp, z.nk, z.nl, z.sub, fun y hy n => by
    rcases z.red y hy n with e | e
    · exact .inl e
    · rcases List.mem_append.mp e with e | e
      · exact .inr e
      · rw [List.mem_singleton] at e
        subst e
        refine .inl ?_
        refine Classical.byContradiction fun k => h ⟨hy, n, by omega⟩, z.pm, by
    have := z.wl
    rw [List.length_append, List.length_singleton] at this
    omega, z.e0⟩
theorem Going.go {ks0 went wait : List Int} {x : Int} (z : Going D ever liv ks0 ks nb went (wait ++ [x])) (hx : x ∈ ks) (n : x ∉ liv) (few : (nb x).length < 3) : Going D ever liv ks0 (ks.erase x) (cutN nb x) (went ++ [x]) (wait ++ nb x) := by
  have me : ∀ {u}, u ∈ ks.erase x ↔ u ≠ x ∧ u ∈ ks := fun {u} => z.nk.mem_erase_iff
  refine ⟨z.t, fun u hu => z.hU u (me.mp hu).2, z.rp.cut z.t z.hU z.nk hx few, z.nk.erase _, z.nl, fun y hy => me.mpr ⟨fun e => n (by rw [← e]; exact hy), z.sub y hy⟩, fun y hy ny => ?_, ?_, ?_, z.e0⟩
  · obtain ⟨y1, y2⟩ := me.mp hy
    by_cases c : y ∈ nb x
    · exact .inr (List.mem_append.mpr (.inr c))
    · rcases z.red y y2 ny with e | e
      · refine .inl ?_
        have nx : x ∉ nb y := fun h => c (z.rp.sym z.t z.hU y2 h)
        have e2 : cutN nb x y = nb y := by
          unfold cutN
          rw [List.erase_of_not_mem nx]
          split
          · rename_i a b h
            rw [h] at c
            simp only [List.mem_cons, List.not_mem_nil, or_false, not_or] at c
            rw [if_neg c.1, if_neg c.2]
          · rfl
        rw [e2]
        exact e
      · rcases List.mem_append.mp e with e | e
        · exact .inr (List.mem_append.mpr (.inl e))
        · exact absurd (List.mem_singleton.mp e) y1
  · refine List.Perm.trans ?_ z.pm
    have e := List.perm_cons_erase hx
    refine List.Perm.trans ?_ (e.symm.append_right went)
    rw [← List.append_assoc]
    refine List.Perm.trans (List.perm_append_comm) ?_
    exact List.Perm.refl _
  · have := z.wl
    rw [List.length_append, List.length_singleton] at this
    rw [List.length_append, List.length_append, List.length_singleton]
    omega
end

/-! ### lists of numbers as data -/
theorem dpa_ints {K : PySem.W.Frag} {H : Hp} : ∀ ns : List Int, DpAll K H (ns.map V.int) (ns.map PyData.int)
  | [] => .nil
  | n :: ns => .cons (.int n) (dpa_ints ns)
theorem dp_ints {K : PySem.W.Frag} {H : Hp} {a : Addr} {ns : List Int} (h : SqL K H a (ns.map V.int)) :
    Dp K H (.ref a) (.list (ns.map PyData.int)) := .lst h (dpa_ints ns)
theorem canLay_ints : ∀ ns : List Int, PyData.canLayAll0 (ns.map PyData.int) = true
  | [] => rfl
  | n :: ns => by
    have h := canLay_ints ns
    rw [List.map_cons]
    simp only [PyData.canLayAll0, PyData.canLay0, h, Bool.and_self]
theorem depth_ints : ∀ ns : List Int, PyData.depthAll (ns.map PyData.int) ≤ 0
  | [] => Nat.le_refl _
  | n :: ns => by
    have h := depth_ints ns
    simp only [List.map_cons, PyData.depthAll, PyData.depth]
    omega
theorem shaped_ints (ns : List Int) : SeqAt.shaped (.list (ns.map PyData.int)) = true :=
  shaped_of (by simp only [PyData.canLay0]; exact canLay_ints ns) (by simp only [PyData.depth]; have q := depth_ints ns; omega)
theorem imms_ints : ∀ ns : List Int, imms (ns.map PyData.int) = true
  | [] => rfl
  | n :: ns => by
    rw [List.map_cons]
    simp only [imms, imm, imms_ints ns, Bool.and_self]
theorem ld_ints {K : PySem.W.Frag} {H : Hp} {a : Addr} {ns : List Int} (h : H a = some (.lst (ns.map V.int))) : LD K H a (ns.map PyData.int) := ⟨_, h, dpa_ints ns⟩
theorem eqv_ints : ∀ l r : List Int, PyData.eqvAll (l.map PyData.int) (r.map PyData.int) = decide (l = r)
  | [], [] => rfl
  | [], _ :: _ => by simp [PyData.eqvAll]
  | _ :: _, [] => by simp [PyData.eqvAll]
  | p :: l, q :: r => by
    rw [List.map_cons, List.map_cons]
    simp only [PyData.eqvAll]
    have h := eqv_ints l r
    rw [h, Bool.eq_iff_iff]
    simp [PyData.eqv]
theorem ne_ints {K : PySem.W.Frag} {H : Hp} {Q : VK} {a b : Addr} {l r : List Int} (hx : SqL K H a (l.map V.int)) (hy : SqL K H b (r.map V.int))
    (h : Q (.bl (!decide (l = r))) H) : uNe K (.ref a) (.ref b) H Q := by
  refine i_neD (dp_ints hx) (dp_ints hy) (shaped_ints _) (shaped_ints _) ?_
  simp only [PyData.eqv]
  rw [eqv_ints]
  exact h
theorem ne_ints0 {K : PySem.W.Frag} {H : Hp} {Q : VK} {a b : Addr} {l : List Int} (hx : SqL K H a (l.map V.int)) (hy : H b = some (.lst []))
    (h : Q (.bl (!decide (l = []))) H) : uNe K (.ref a) (.ref b) H Q := ne_ints (r := []) hx (SqL.of hy) h
theorem eq_ints {K : PySem.W.Frag} {H : Hp} {Q : VK} {a b : Addr} {l r : List Int} (hx : SqL K H a (l.map V.int)) (hy : SqL K H b (r.map V.int))
    (h : Q (.bl (decide (l = r))) H) : uEq K (.ref a) (.ref b) H Q := by
  refine i_eqD (dp_ints hx) (dp_ints hy) (shaped_ints _) (shaped_ints _) ?_
  simp only [PyData.eqv]
  rw [eqv_ints]
  exact h
theorem eqv_d2T (p q : Int × Int) : PyData.eqv (d2 p) (d2 q) = decide (p = q) := by
  simp only [PyData.eqv, PyData.eqvAll, Bool.and_true]
  obtain ⟨a, b⟩ := p
  obtain ⟨c, d⟩ := q
  rw [Bool.eq_iff_iff]
  simp
theorem eqv_pairsT : ∀ l r : List (Int × Int), PyData.eqvAll (l.map d2) (r.map d2) = decide (l = r)
  | [], [] => rfl
  | [], _ :: _ => by simp [PyData.eqvAll]
  | _ :: _, [] => by simp [PyData.eqvAll]
  | p :: l, q :: r => by
    rw [List.map_cons, List.map_cons]
    simp only [PyData.eqvAll]
    have h := eqv_pairsT l r
    have h2 := eqv_d2T p q
    rw [h, h2, Bool.eq_iff_iff]
    simp

/-! ### while; three at once -/
theorem i_par3 {i j l : Nat} {tt : TA} {D : Ends} {σ : L2.St} {H : Hp}
    (h : tt σ H fun vs H1 => ∃ u v w, vs = [u, v, w] ∧ D.nx (((σ.set i (some u)).set j (some v)).set l (some w)) H1) : tPar3 i j l tt D σ H := h
theorem i_three {P : V → V → V → Prop} {x y z : V} (h : P x y z) : ∃ u v w, [x, y, z] = [u, v, w] ∧ P u v w := ⟨x, y, z, rfl, h⟩
theorem i_while {c : TT} {tb : TS} {D : Ends} {σ : L2.St} {H : Hp} (W : Nat → L2.St → Hp → Prop) (n : Nat) (h0 : W n σ H)
    (st : ∀ m σ H, W m σ H → c σ H fun b H1 => if b = true then ∃ N : L2.St → Hp → Prop, (∀ σ' H', N σ' H' → ∃ m', m' < m ∧ W m' σ' H') ∧ tb { D with nx := N, ct := N, bk := D.nx } σ H1 else D.nx σ H1) :
    tWhile c tb D σ H := ⟨W, ⟨n, h0⟩, st⟩
theorem i_loop {tb : TS} {D : Ends} {σ : L2.St} {H : Hp} {m : Nat} {W : Nat → L2.St → Hp → Prop}
    (h : tb { D with nx := fun σ' H' => ∃ m', m' < m ∧ W m' σ' H', ct := fun σ' H' => ∃ m', m' < m ∧ W m' σ' H', bk := D.nx } σ H) :
    ∃ N : L2.St → Hp → Prop, (∀ σ' H', N σ' H' → ∃ m', m' < m ∧ W m' σ' H') ∧ tb { D with nx := N, ct := N, bk := D.nx } σ H := ⟨_, fun _ _ h => h, h⟩

/-! ### for over a tuple -/
section
variable {K : PySem.W.Frag} {σ : L2.St} {H : Hp} {D : Ends} {tb : TS} {te : TE} {g : TG} {a : Addr} {xs : List V}
def ForT (K : PySem.W.Frag) (x : V) (g : TG) (tb : TS) (D : Ends) (σ : L2.St) (H : Hp) : Prop :=
  ∃ a, x = .ref a ∧ (∃ ys, SqT K H a ys) ∧ ∃ W : Nat → Nat → L2.St → Hp → Prop,
    (∃ m, W 0 m σ H) ∧ ∀ i m σ H, W i m σ H → ((Itt K a).stop i H ∧ D.nx σ H) ∨
      ((Itt K a).go i H ∧ ∃ Nx : L2.St → Hp → Prop,
        (∀ σ' H', Nx σ' H' → ∃ m', m' < m ∧ W (i + 1) m' σ' H') ∧
        ∀ x H', (Itt K a).yld i H x H' → g x σ H' fun σ2 H2 =>
          tb { D with nx := Nx, ct := Nx, bk := D.nx } σ2 H2)
theorem i_forT (h : te σ H fun x H1 => ForT K x g tb D σ H1) : tFor (iTup K te) g tb D σ H := h
theorem i_eachT (hs : SqT K H a xs) (Pv : Nat → L2.St → Hp → Prop) (h0 : Pv 0 σ H)
    (hl : ∀ i σ H, i ≤ xs.length → Pv i σ H → SqT K H a xs)
    (st : ∀ i x σ H, xs[i]? = some x → Pv i σ H → g x σ H fun σ2 H2 =>
      tb { D with nx := Pv (i + 1), ct := Pv (i + 1), bk := D.nx } σ2 H2)
    (hd : ∀ σ H, Pv xs.length σ H → D.nx σ H) : ForT K (.ref a) g tb D σ H :=
  ⟨a, rfl, ⟨_, hs⟩, for_tup Pv h0 hl st hd⟩
end

/-! ### dicts of numbers, each True; sorted -/
theorem u1 {n : Nat} (h : n + 64 < cLine) : n + 1 < cLine := Nat.lt_of_le_of_lt (Nat.add_le_add_left (by decide) n) h
theorem k_sorted {X : Cx} {K : PySem.W.Frag} (h : X.K = K) : CallR X (.builtin "sorted") (rSortedI K) := h ▸ cr_sortedI
def rListD : List V → Hp → VK → Prop := fun xs H Q => ∃ (a : Addr) (kvs : List (Key × V)), xs = [.ref a] ∧ Rd H a (.dK kvs) ∧
  ∀ p, H p = none → Q (.ref p) (upd H p (.lst (kvs.map fun kv => kV kv.1)))
theorem k_listD {X : Cx} (h : X.calm = true) : CallR X (.type "list") rListD := call_listD h
def kT (n : Int) : Key × V := (.inl n, .bl true)
def addK (ns : List Int) (n : Int) : List Int := if n ∈ ns then ns else ns ++ [n]
theorem put_kT (ns : List Int) (n : Int) : putK (ns.map kT) (.inl n) (.bl true) = (addK ns n).map kT := by
  unfold putK addK
  have e1 : ((ns.map kT).any fun kv => decide (kv.1 = Sum.inl n)) = decide (n ∈ ns) := by
    induction ns with
    | nil => rfl
    | cons m ns ih =>
      rw [List.map_cons, List.any_cons, ih]
      by_cases c : m = n
      · subst c
        simp [kT]
      · have c2 : ¬ n = m := fun z => c z.symm
        simp [kT, c, c2]
  rw [e1]
  by_cases c : n ∈ ns
  · rw [if_pos (decide_eq_true c), if_pos c, List.map_map]
    refine List.map_congr_left fun m _ => ?_
    show (if (kT m).1 = Sum.inl n then ((kT m).1, V.bl true) else kT m) = kT m
    split <;> rfl
  · rw [if_neg (by simp [c]), if_neg c, List.map_append]
    rfl
theorem addK_len (ns : List Int) (n : Int) : (addK ns n).length ≤ ns.length + 1 := by
  unfold addK
  split
  · omega
  · simp
theorem foldK_len : ∀ (ms ns : List Int), (ms.foldl addK ns).length ≤ ns.length + ms.length
  | [], ns => Nat.le_refl _
  | m :: ms, ns => by
    have h := foldK_len ms (addK ns m)
    have h2 := addK_len ns m
    rw [List.foldl_cons, List.length_cons]
    omega
theorem mem_addK {ns : List Int} {n x : Int} : x ∈ addK ns n ↔ x ∈ ns ∨ x = n := by
  unfold addK
  by_cases c : n ∈ ns
  · rw [if_pos c]
    refine ⟨.inl, fun h => h.elim id fun e => by rw [e]; exact c⟩
  · rw [if_neg c, List.mem_append, List.mem_singleton]
theorem mem_foldK {x : Int} : ∀ (ms ns : List Int), x ∈ ms.foldl addK ns ↔ x ∈ ns ∨ x ∈ ms
  | [], ns => by simp
  | m :: ms, ns => by
    rw [List.foldl_cons, mem_foldK ms, mem_addK, List.mem_cons]
    constructor
    · rintro ((h | h) | h)
      · exact .inl h
      · exact .inr (.inl h)
      · exact .inr (.inr h)
    · rintro (h | h | h)
      · exact .inl (.inl h)
      · exact .inl (.inr h)
      · exact .inr h
theorem addK_nd {ns : List Int} {n : Int} (h : ns.Nodup) : (addK ns n).Nodup := by
  unfold addK
  by_cases c : n ∈ ns
  · rw [if_pos c]
    exact h
  · rw [if_neg c]
    refine List.nodup_append.mpr ⟨h, by simp, fun a ha b hb e => ?_⟩
    rw [List.mem_singleton.mp hb] at e
    rw [e] at ha
    exact c ha
theorem foldK_nd : ∀ (ms ns : List Int), ns.Nodup → (ms.foldl addK ns).Nodup
  | [], _, h => h
  | m :: ms, ns, h => foldK_nd ms _ (addK_nd h)
section
variable {K : PySem.W.Frag} {H : Hp} {Q : VK} {a l b : Addr} {ns : List Int} {n : Int} {σ : L2.St} {xs ys : List V} {P : Hp → Prop}
theorem i_sorted (h : SqL K H a (ns.map V.int)) (q : ∀ (ns' : List Int) (p : Addr), ns'.Perm ns → ns'.Pairwise (· ≤ ·) → Fr H p → Q (.ref p) (upd H p (.lst (ns'.map V.int)))) :
    rSortedI K [.ref a] H Q := ⟨a, ns, rfl, h, fun ns' p h1 h2 h3 => q ns' p h1 h2 ⟨h3⟩⟩
theorem i_listD (h : H a = some (.dK (ns.map kT))) (q : New H fun p => Q (.ref p) (upd H p (.lst (ns.map V.int)))) : rListD [.ref a] H Q := by
  refine ⟨a, _, rfl, Rd.of h, fun p hp => ?_⟩
  have e : ((ns.map kT).map fun kv => kV kv.1) = ns.map V.int := by
    rw [List.map_map]
    rfl
  rw [e]
  exact q p hp
theorem i_setD (h : H a = some (.dK (ns.map kT))) (hl : ns.length ≤ 1000000) (q : P (upd H a (.dK ((addK ns n).map kT)))) :
    rSetD (.ref a) (.int n) (.bl true) H P := by
  refine ⟨a, _, rfl, DPut.k (k := .inl n) h (by rw [List.length_map]; exact small_sz hl), ?_⟩
  rw [put_kT]
  exact q
theorem i_dict0 (q : New H fun p => Q (.ref p) (upd (upd H p (.dK [])) p (.dK ([(0 : Int)].map kT)))) : tDisp [(tC (.int 0), tC (.bl true))] σ H Q :=
  fun p hp => ⟨upd_same, [kT 0], rfl, by decide, q p hp⟩
theorem i_extend (h1 : H l = some (.lst xs)) (h2 : H b = some (.lst ys)) (hz : xs.length + ys.length ≤ 1000000) (q : Q .non (upd H l (.lst (xs ++ ys)))) :
    rExtend (.ref l) [.ref b] H Q := ⟨l, b, xs, ys, rfl, rfl, h1, h2, Nat.le_trans hz (by decide), q⟩
end
section
variable {σ : L2.St} {H H1 : Hp} {Q : VK} {d : Addr} {g : TG} {tt : TT} {te td : TE} {vs : List Nat} {o : Obj} {ns : List Int}
def LcB (J : It) (g : TG) (tt : TT) (te : TE) (vs : List Nat) (σ : L2.St) (H1 : Hp) (Q : VK) : Prop := ∀ D, H1 D = none →
    ∃ W : Nat → Nat → Hp → Prop, (∃ m, W 0 m (upd H1 D (.lst []))) ∧ ∀ i m H, W i m H →
      (J.stop i H ∧ Q (.ref D) H) ∨ (J.go i H ∧ ∃ Nx : Hp → Prop,
        (∀ H', Nx H' → ∃ m', m' < m ∧ W (i + 1) m' H') ∧
        ∀ x H', J.yld i H x H' → g x (wipe σ vs) H' fun σ2 H2 => wipe σ2 vs = wipe σ vs ∧ tt σ2 H2 fun b H3 =>
          if b = true then te σ2 H3 fun y H4 => ∃ acc, H4 D = some (.lst acc) ∧ acc.length < sizeLine ∧
            Nx (upd H4 D (.lst (acc ++ [y]))) else Nx H3)
def LcK (x : V) (g : TG) (tt : TT) (te : TE) (vs : List Nat) (σ : L2.St) (H1 : Hp) (Q : VK) : Prop := ∃ d o, x = .ref d ∧
  ((∃ kvs, H1 d = some (.frz o (.dK kvs)) ∧ LcB (Itk d o kvs) g tt te vs σ H1 Q) ∨ ∃ kvs, H1 d = some (.frz o (.dT kvs)) ∧ LcB (Itkt d o kvs) g tt te vs σ H1 Q)
theorem i_lcK (h : td σ H fun x H1 => LcK x g tt te vs σ H1 Q) : tLc (iKeys td) g tt te vs σ H Q := h
theorem i_keyz (hd : H d = some (.frz o (.dK (ns.map kT)))) (Pv : Addr → Nat → Hp → Prop)
    (h0 : ∀ R, Fr H R → Pv R 0 (upd H R (.lst [])))
    (hl : ∀ R i H', Fr H R → Pv R i H' → H' d = some (.frz o (.dK (ns.map kT))))
    (st : ∀ R i n H', Fr H R → ns[i]? = some n → Pv R i H' → g (.int n) (wipe σ vs) H' fun σ2 H2 =>
      wipe σ2 vs = wipe σ vs ∧ tt σ2 H2 fun b H3 => if b = true then te σ2 H3 fun y H4 =>
        ∃ acc, H4 R = some (.lst acc) ∧ acc.length < sizeLine ∧ Pv R (i + 1) (upd H4 R (.lst (acc ++ [y])))
        else Pv R (i + 1) H3)
    (hdn : ∀ R H', Fr H R → Pv R ns.length H' → Q (.ref R) H') : LcK (.ref d) g tt te vs σ H Q := by
  refine ⟨d, o, rfl, .inl ⟨_, hd, fun R hR => ⟨fun i m H' => m = ns.length - i ∧ i ≤ ns.length ∧ Pv R i H', ⟨_, rfl, Nat.zero_le _, h0 R ⟨hR⟩⟩, ?_⟩⟩⟩
  rintro i m H' ⟨rfl, hi, z⟩
  have q := hl R i H' ⟨hR⟩ z
  by_cases c : i < ns.length
  · refine .inr ⟨⟨q, by rw [List.length_map]; exact c⟩, Pv R (i + 1), fun H2 w => ⟨_, by omega, rfl, c, w⟩, ?_⟩
    rintro x H2 ⟨rfl, k, v, e, rfl⟩
    obtain ⟨n, hn, e2⟩ := map_get e
    cases e2
    exact st R i n _ ⟨hR⟩ hn z
  · have e : i = ns.length := by omega
    exact .inl ⟨⟨q, by rw [List.length_map]; omega⟩, hdn R H' ⟨hR⟩ (by rw [← e]; exact z)⟩
end

/-! ### dicts whose keys are numbers, whatever they hold -/
theorem k_fldaug {X : Cx} {K : PySem.W.Frag} {op : Operator} {rd : V → V → Hp → VK → Prop} {o value : Expr} {f : Str} {pos tpos : Pos} {ta tv : TE} (h : X.K = K) (ha : PE X o ta) (hv : PE X value tv) (hop : InOp X op rd) :
    PS X (.AugAssign (.Attribute o f tpos) op value pos) (sFldAug K ta tv rd f) := h ▸ ps_fldaug ha hv hop
theorem k_sortedP {X : Cx} {K : PySem.W.Frag} (h : X.K = K) : CallR X (.builtin "sorted") (rSortedPO K) := h ▸ cr_sortedPO
section
variable {K : PySem.W.Frag} {σ : L2.St} {H H1 : Hp} {Q : VK} {D : Ends} {a d : Addr} {kvs : List (Key × V)} {n : Int} {v : V} {td ty tv : TE} {P : Hp → Prop}
def FldA (K : PySem.W.Frag) (x : V) (tv : TE) (rd : V → V → Hp → VK → Prop) (f : Str) (D : Ends) (σ : L2.St) (H1 : Hp) : Prop :=
  ∃ a C dx fs v, x = .ref a ∧ H1 a = some (.ins C dx fs) ∧ Cls K C ∧ NoAttr K C f ∧ fs.lookup f = some v ∧
  tv σ H1 fun y H2 => rd v y H2 fun z H3 => ∃ dx' fs', H3 a = some (.ins C dx' fs') ∧ fs'.length < 1000 ∧ D.nx σ (upd H3 a (.ins C dx' (putF f z fs')))
theorem i_fldaug {rd : V → V → Hp → VK → Prop} {f : Str} (h : td σ H fun x H1 => FldA K x tv rd f D σ H1) : sFldAug K td tv rd f D σ H := h
theorem i_fldaR {rd : V → V → Hp → VK → Prop} {f : Str} {C dx : Addr} {fs : List (Str × V)} {v : V} (ho : H a = some (.ins C dx fs)) (c : Cls K C) (nn : NoAttr K C f) (hl : fs.lookup f = some v)
    (h : tv σ H fun y H2 => rd v y H2 fun z H3 => ∃ dx' fs', H3 a = some (.ins C dx' fs') ∧ fs'.length < 1000 ∧ D.nx σ (upd H3 a (.ins C dx' (putF f z fs')))) : FldA K (.ref a) tv rd f D σ H := ⟨a, C, dx, fs, v, rfl, ho, c, nn, hl, h⟩
def DG (x y : V) (H : Hp) (Q : VK) : Prop := ∃ a v, x = .ref a ∧ DGet H a y (some v) ∧ Q v H
theorem i_dget (h : td σ H fun x H1 => ty σ H1 fun y H2 => DG x y H2 Q) : tDGet td ty σ H Q := h
theorem i_dg (hd : H a = some (.dK kvs)) (hv : valV kvs (.inl n) = some v) (q : Q v H) : DG (.ref a) (.int n) H Q :=
  ⟨a, v, rfl, by
    have e := DGet.k (k := .inl n) hd
    rw [hv] at e
    exact e, q⟩
def DIn (y x : V) (H : Hp) (Q : VK) : Prop := ∃ a o, x = .ref a ∧ DGet H a y o ∧ Q (.bl o.isSome) H
def DNin (y x : V) (H : Hp) (Q : VK) : Prop := ∃ a o, x = .ref a ∧ DGet H a y o ∧ Q (.bl (!o.isSome)) H
theorem i_din (h : ty σ H fun y H1 => td σ H1 fun x H2 => DIn y x H2 Q) : tDIn ty td σ H Q := h
theorem i_dnin (h : ty σ H fun y H1 => td σ H1 fun x H2 => DNin y x H2 Q) : tDNotIn ty td σ H Q := h
theorem i_di (hd : H a = some (.dK kvs)) (q : Q (.bl (valV kvs (.inl n)).isSome) H) : DIn (.int n) (.ref a) H Q := ⟨a, _, rfl, DGet.k (k := .inl n) hd, q⟩
theorem i_dni (hd : H a = some (.dK kvs)) (q : Q (.bl (!(valV kvs (.inl n)).isSome)) H) : DNin (.int n) (.ref a) H Q := ⟨a, _, rfl, DGet.k (k := .inl n) hd, q⟩
theorem i_setK (hd : H a = some (.dK kvs)) (hl : kvs.length ≤ 1000000) (q : P (upd H a (.dK (putK kvs (.inl n) v)))) : rSetD (.ref a) (.int n) v H P :=
  ⟨a, _, rfl, DPut.k (k := .inl n) hd (small_sz hl), q⟩
def DP1 (x : V) (ty : TE) (σ : L2.St) (H1 : Hp) (Q : VK) : Prop := ∃ a, x = .ref a ∧ IsD H1 a ∧ ty σ H1 fun y H2 => ∃ kvs k v, H2 a = some (.dK kvs) ∧ y = kV k ∧ valV kvs k = some v ∧ Q v (upd H2 a (.dK (dropK kvs k)))
def DP2 (a : Addr) (y : V) (H2 : Hp) (Q : VK) : Prop := ∃ kvs k v, H2 a = some (.dK kvs) ∧ y = kV k ∧ valV kvs k = some v ∧ Q v (upd H2 a (.dK (dropK kvs k)))
theorem i_dpop (h : td σ H fun x H1 => DP1 x ty σ H1 Q) : tDPop1 td ty σ H Q := h
theorem i_dp1 (hd : H a = some (.dK kvs)) (h : ty σ H fun y H2 => DP2 a y H2 Q) : DP1 (.ref a) ty σ H Q := ⟨a, rfl, .inl ⟨_, Rd.of hd⟩, h⟩
theorem i_dp2 (hd : H a = some (.dK kvs)) (hv : valV kvs (.inl n) = some v) (q : Q v (upd H a (.dK (dropK kvs (.inl n))))) : DP2 a (.int n) H Q := ⟨_, .inl n, v, hd, rfl, hv, q⟩
theorem i_lockE {t : TE} (h : H d = some (.dK kvs)) (k : ∀ od, t σ (upd H d (.frz od (.dK kvs))) fun v H' => H' d = some (.frz od (.dK kvs)) ∧ Q v (upd H' d (.dK kvs))) : tLockE t σ H Q := ⟨d, _, h, trivial, k⟩
theorem i_remove {l : Addr} {ns : List Int} {k : Int} (hl : H l = some (.lst (ns.map V.int))) (hk : k ∈ ns) (q : Q .non (upd H l (.lst ((ns.erase k).map V.int)))) : rRemI (.ref l) [.int k] H Q := by
  obtain ⟨j, j1, j2, j3, j4⟩ := first_at hk
  refine ⟨l, ns, k, j, rfl, rfl, hl, j2, j3, ?_⟩
  rw [j4]
  exact q
theorem i_popV {l : Addr} {xs : List V} {y : V} (hl : H l = some (.lst (xs ++ [y]))) (q : Q y (upd H l (.lst xs))) : rPop (.ref l) [] H Q := by
  refine ⟨l, _, y, rfl, rfl, hl, ?_, ?_⟩
  · rw [List.length_append, List.length_singleton, Nat.add_sub_cancel]
    exact List.getElem?_concat_length
  · rw [List.dropLast_concat]
    exact q
theorem flat_ints (ns : List Int) : (ns.map V.int).all flatV = true := by
  rw [List.all_eq_true]
  intro v hv
  obtain ⟨n, _, rfl⟩ := List.mem_map.mp hv
  rfl
theorem inV_ints {k : Int} : ∀ ns : List Int, inV (.int k) (ns.map V.int) = decide (k ∈ ns)
  | [] => rfl
  | n :: ns => by
    have ih := inV_ints (k := k) ns
    unfold inV at ih ⊢
    rw [List.map_cons, List.any_cons, ih]
    by_cases c : n = k
    · subst c
      simp [eqV]
    · have c2 : ¬ k = n := fun z => c z.symm
      simp [eqV, c, c2]
theorem i_inI {l : Addr} {ns : List Int} {k : Int} (hl : SqL K H l (ns.map V.int)) (q : Q (.bl (decide (k ∈ ns))) H) : rIn K false (.int k) (.ref l) H Q := by
  refine ⟨l, _, rfl, .inl hl, rfl, flat_ints ns, ?_⟩
  rw [inV_ints]
  exact q
theorem i_ninI {l : Addr} {ns : List Int} {k : Int} (hl : SqL K H l (ns.map V.int)) (q : Q (.bl (!decide (k ∈ ns))) H) : rIn K true (.int k) (.ref l) H Q := by
  refine ⟨l, _, rfl, .inl hl, rfl, flat_ints ns, ?_⟩
  rw [inV_ints]
  exact q
end
theorem kp_unl {H3 H4 : Hp} {d : Addr} {u v : HO} (h : H3 d = some u) (nu : ¬ Fix u) (k : Kp [] (upd H3 d v) H4) : Kp [] H3 (upd H4 d u) := by
  refine ⟨fun a o e n => ?_, fun a o e f => ?_, fun a o e => ?_⟩
  · by_cases z : a = d
    · subst z
      rw [h] at e
      cases e
      exact upd_same
    · rw [upd_ne z]
      exact k.at_ a o (by rw [upd_ne z]; exact e) not_nil
  · have z : a ≠ d := by
      intro z
      subst z
      rw [h] at e
      cases e
      exact nu f
    rw [upd_ne z]
    exact k.at_ a o (by rw [upd_ne z]; exact e) not_nil
  · by_cases z : a = d
    · exact ⟨u, by rw [z]; exact upd_same⟩
    · rw [upd_ne z]
      exact ⟨o, k.at_ a o (by rw [upd_ne z]; exact e) not_nil⟩
section
variable {K : PySem.W.Frag} {σ : L2.St} {H H1 : Hp} {Q : VK} {d : Addr} {g g1 : TG} {tt tt1 : TT} {te td te1 : TE} {vs vs1 : List Nat} {o : Obj} {kvs : List (Key × V)}
/-- a comprehension over the keys -/
theorem i_keyG (hd : H d = some (.frz o (.dK kvs))) (Pv : Addr → Nat → Hp → Prop)
    (h0 : ∀ R, Fr H R → Pv R 0 (upd H R (.lst [])))
    (hl : ∀ R i H', Fr H R → Pv R i H' → H' d = some (.frz o (.dK kvs)))
    (st : ∀ R i k v H', Fr H R → kvs[i]? = some (k, v) → Pv R i H' → g (kV k) (wipe σ vs) H' fun σ2 H2 =>
      wipe σ2 vs = wipe σ vs ∧ tt σ2 H2 fun b H3 => if b = true then te σ2 H3 fun y H4 =>
        ∃ acc, H4 R = some (.lst acc) ∧ acc.length < sizeLine ∧ Pv R (i + 1) (upd H4 R (.lst (acc ++ [y])))
        else Pv R (i + 1) H3)
    (hdn : ∀ R H', Fr H R → Pv R kvs.length H' → Q (.ref R) H') : LcK (.ref d) g tt te vs σ H Q := by
  refine ⟨d, o, rfl, .inl ⟨_, hd, fun R hR => ⟨fun i m H' => m = kvs.length - i ∧ i ≤ kvs.length ∧ Pv R i H', ⟨_, rfl, Nat.zero_le _, h0 R ⟨hR⟩⟩, ?_⟩⟩⟩
  rintro i m H' ⟨rfl, hi, z⟩
  have q := hl R i H' ⟨hR⟩ z
  by_cases c : i < kvs.length
  · refine .inr ⟨⟨q, c⟩, Pv R (i + 1), fun H2 w => ⟨_, by omega, rfl, c, w⟩, ?_⟩
    rintro x H2 ⟨rfl, k, v, e, rfl⟩
    exact st R i k v _ ⟨hR⟩ e z
  · have e : i = kvs.length := by omega
    exact .inl ⟨⟨q, by omega⟩, hdn R H' ⟨hR⟩ (by rw [← e]; exact z)⟩
/-- the walk of the second clause of a comprehension -/
def In2 (J1 : It) (g1 : TG) (tt1 : TT) (te : TE) (vs1 : List Nat) (σ2 : L2.St) (D : Addr) (Nx : Hp → Prop) (H4 : Hp) : Prop := ∃ W1 : Nat → Nat → Hp → Prop, (∃ m, W1 0 m H4) ∧ ∀ j k H, W1 j k H →
      (J1.stop j H ∧ Nx H) ∨ (J1.go j H ∧ ∃ Nx1 : Hp → Prop, (∀ H', Nx1 H' → ∃ k', k' < k ∧ W1 (j + 1) k' H') ∧ ∀ x H', J1.yld j H x H' → g1 x (wipe σ2 vs1) H' fun σ3 H5 => wipe σ3 vs1 = wipe σ2 vs1 ∧ tt1 σ3 H5 fun b H6 =>
        if b = true then te σ3 H6 fun y H7 => ∃ acc, H7 D = some (.lst acc) ∧ acc.length < sizeLine ∧ Nx1 (upd H7 D (.lst (acc ++ [y]))) else Nx1 H6)
def Lc2I (x : V) (g : TG) (tt : TT) (wi1 : TI) (g1 : TG) (tt1 : TT) (te : TE) (vs vs1 : List Nat) (σ : L2.St) (H1 : Hp) (Q : VK) : Prop := ∃ d o kvs, x = .ref d ∧ H1 d = some (.frz o (.dK kvs)) ∧
  ∀ D, H1 D = none → ∃ W : Nat → Nat → Hp → Prop, (∃ m, W 0 m (upd H1 D (.lst []))) ∧ ∀ i m H, W i m H →
  ((Iti d o kvs).stop i H ∧ Q (.ref D) H) ∨ ((Iti d o kvs).go i H ∧ ∃ Nx : Hp → Prop, (∀ H', Nx H' → ∃ m', m' < m ∧ W (i + 1) m' H') ∧ ∀ x H', (Iti d o kvs).yld i H x H' → g x (wipe σ vs) H' fun σ2 H2 => wipe σ2 vs = wipe σ vs ∧ tt σ2 H2 fun b H3 =>
    if b = true then wi1 σ2 H3 fun J1 H4 => In2 J1 g1 tt1 te vs1 σ2 D Nx H4 else Nx H3)
theorem i_lc2I {wi1 : TI} (h : td σ H fun x H1 => Lc2I x g tt wi1 g1 tt1 te vs vs1 σ H1 Q) : tLc2 (iItems td) g tt wi1 g1 tt1 te vs vs1 σ H Q := h
theorem i_itemG {wi1 : TI} (hd : H d = some (.frz o (.dK kvs))) (Pv : Addr → Nat → Hp → Prop)
    (h0 : ∀ R, Fr H R → Pv R 0 (upd H R (.lst [])))
    (hl : ∀ R i H', Fr H R → Pv R i H' → H' d = some (.frz o (.dK kvs)))
    (st : ∀ R i k v T H', Fr H R → kvs[i]? = some (k, v) → Pv R i H' → Fr H' T → g (.ref T) (wipe σ vs) (upd H' T (.tup [kV k, v])) fun σ2 H2 =>
      wipe σ2 vs = wipe σ vs ∧ tt σ2 H2 fun b H3 => if b = true then wi1 σ2 H3 fun J1 H4 => In2 J1 g1 tt1 te vs1 σ2 R (Pv R (i + 1)) H4 else Pv R (i + 1) H3)
    (hdn : ∀ R H', Fr H R → Pv R kvs.length H' → Q (.ref R) H') : Lc2I (.ref d) g tt wi1 g1 tt1 te vs vs1 σ H Q := by
  refine ⟨d, o, _, rfl, hd, fun R hR => ⟨fun i m H' => m = kvs.length - i ∧ i ≤ kvs.length ∧ Pv R i H', ⟨_, rfl, Nat.zero_le _, h0 R ⟨hR⟩⟩, ?_⟩⟩
  rintro i m H' ⟨rfl, hi, z⟩
  have q := hl R i H' ⟨hR⟩ z
  by_cases c : i < kvs.length
  · refine .inr ⟨⟨q, c⟩, Pv R (i + 1), fun H2 w => ⟨_, by omega, rfl, c, w⟩, ?_⟩
    rintro x H2 ⟨T, k, v, e, rfl, hT, rfl⟩
    exact st R i k v T _ ⟨hR⟩ e z ⟨hT⟩
  · have e : i = kvs.length := by omega
    exact .inl ⟨⟨q, by omega⟩, hdn R H' ⟨hR⟩ (by rw [← e]; exact z)⟩
theorem i_in2L {R : Addr} {Nx : Hp → Prop} {σ2 : L2.St} (h : te1 σ2 H fun x H1 => ∃ a, x = .ref a ∧ (∃ xs, SqL K H1 a xs) ∧ In2 (Itl K a) g1 tt1 te vs1 σ2 R Nx H1) :
    iList K te1 σ2 H fun J1 H4 => In2 J1 g1 tt1 te vs1 σ2 R Nx H4 := h
theorem i_inL {a R : Addr} {xs : List V} {Nx : Hp → Prop} {σ2 : L2.St} (hs : SqL K H a xs) (P1 : Nat → Hp → Prop) (h0 : P1 0 H)
    (hl : ∀ j H', j ≤ xs.length → P1 j H' → SqL K H' a xs)
    (st : ∀ j x H', xs[j]? = some x → P1 j H' → g1 x (wipe σ2 vs1) H' fun σ3 H5 => wipe σ3 vs1 = wipe σ2 vs1 ∧ tt1 σ3 H5 fun b H6 =>
        if b = true then te σ3 H6 fun y H7 => ∃ acc, H7 R = some (.lst acc) ∧ acc.length < sizeLine ∧ P1 (j + 1) (upd H7 R (.lst (acc ++ [y]))) else P1 (j + 1) H6)
    (hdn : ∀ H', P1 xs.length H' → Nx H') : ∃ a', V.ref a = .ref a' ∧ (∃ xs, SqL K H a' xs) ∧ In2 (Itl K a') g1 tt1 te vs1 σ2 R Nx H := by
  refine ⟨a, rfl, ⟨_, hs⟩, fun i m H' => m = xs.length - i ∧ i ≤ xs.length ∧ P1 i H', ⟨_, rfl, Nat.zero_le _, h0⟩, ?_⟩
  rintro i m H' ⟨rfl, hi, z⟩
  have q := hl i H' hi z
  by_cases c : i < xs.length
  · refine .inr ⟨⟨xs, xs[i], q, List.getElem?_eq_getElem c⟩, P1 (i + 1), fun H2 w => ⟨_, by omega, rfl, c, w⟩, fun x H2 y => ?_⟩
    obtain ⟨e, y⟩ := y
    subst e
    exact st i x _ (y xs q) z
  · have e : i = xs.length := by omega
    subst e
    exact .inl ⟨⟨xs, q, Nat.le_refl _⟩, hdn _ z⟩
/-- a dict comprehension over the keys -/
def DcB (J : It) (g : TG) (tt : TT) (tk tv : TE) (vs : List Nat) (σ : L2.St) (H1 : Hp) (Q : VK) : Prop := ∀ D, H1 D = none → ∃ W : Nat → Nat → Hp → Prop, (∃ m, W 0 m (upd H1 D (.dK []))) ∧ ∀ i m H, W i m H →
  (J.stop i H ∧ Q (.ref D) H) ∨ (J.go i H ∧ ∃ Nx : Hp → Prop, (∀ H', Nx H' → ∃ m', m' < m ∧ W (i + 1) m' H') ∧ ∀ x H', J.yld i H x H' → g x (wipe σ vs) H' fun σ2 H2 => wipe σ2 vs = wipe σ vs ∧ tt σ2 H2 fun b H3 =>
    if b = true then tk σ2 H3 fun y H4 => tv σ2 H4 fun z H5 => ∃ kvs k, y = kV k ∧ H5 D = some (.dK kvs) ∧ kvs.length < sizeLine ∧ Nx (upd H5 D (.dK (putK kvs k z))) else Nx H3)
def DcK (x : V) (g : TG) (tt : TT) (tk tv : TE) (vs : List Nat) (σ : L2.St) (H1 : Hp) (Q : VK) : Prop := ∃ d o, x = .ref d ∧
  ((∃ kvs, H1 d = some (.frz o (.dK kvs)) ∧ DcB (Itk d o kvs) g tt tk tv vs σ H1 Q) ∨ ∃ kvs, H1 d = some (.frz o (.dT kvs)) ∧ DcB (Itkt d o kvs) g tt tk tv vs σ H1 Q)
theorem i_dcK {tk tv : TE} (h : td σ H fun x H1 => DcK x g tt tk tv vs σ H1 Q) : tDc (iKeys td) g tt tk tv vs σ H Q := h
theorem i_dkeyG {tk tv : TE} (hd : H d = some (.frz o (.dK kvs))) (Pv : Addr → Nat → Hp → Prop)
    (h0 : ∀ R, Fr H R → Pv R 0 (upd H R (.dK [])))
    (hl : ∀ R i H', Fr H R → Pv R i H' → H' d = some (.frz o (.dK kvs)))
    (st : ∀ R i k v H', Fr H R → kvs[i]? = some (k, v) → Pv R i H' → g (kV k) (wipe σ vs) H' fun σ2 H2 =>
      wipe σ2 vs = wipe σ vs ∧ tt σ2 H2 fun b H3 => if b = true then tk σ2 H3 fun y H4 => tv σ2 H4 fun z H5 => ∃ kvs k, y = kV k ∧ H5 R = some (.dK kvs) ∧ kvs.length < sizeLine ∧ Pv R (i + 1) (upd H5 R (.dK (putK kvs k z))) else Pv R (i + 1) H3)
    (hdn : ∀ R H', Fr H R → Pv R kvs.length H' → Q (.ref R) H') : DcK (.ref d) g tt tk tv vs σ H Q := by
  refine ⟨d, o, rfl, .inl ⟨_, hd, fun R hR => ⟨fun i m H' => m = kvs.length - i ∧ i ≤ kvs.length ∧ Pv R i H', ⟨_, rfl, Nat.zero_le _, h0 R ⟨hR⟩⟩, ?_⟩⟩⟩
  rintro i m H' ⟨rfl, hi, z⟩
  have q := hl R i H' ⟨hR⟩ z
  by_cases c : i < kvs.length
  · refine .inr ⟨⟨q, c⟩, Pv R (i + 1), fun H2 w => ⟨_, by omega, rfl, c, w⟩, ?_⟩
    rintro x H2 ⟨rfl, k, v, e, rfl⟩
    exact st R i k v _ ⟨hR⟩ e z
  · have e : i = kvs.length := by omega
    exact .inl ⟨⟨q, by omega⟩, hdn R H' ⟨hR⟩ (by rw [← e]; exact z)⟩
end
--%%M
local macro_rules | `(tactic| walk_at "g_own") => `(tactic| first
  | (with_reducible refine i_fldaug ?_)
  | ((with_reducible apply i_fldaR ?h ?c ?n ?g ?_); (case h => walk_at "g_hp"); (case c => with_reducible assumption); (case n => with_reducible assumption); (case g => exact rfl))
  | (with_reducible refine i_dget ?_)
  | (with_reducible refine i_din ?_)
  | (with_reducible refine i_dnin ?_)
  | (with_reducible refine i_dpop ?_)
  | ((with_reducible apply i_di ?h ?_); (case h => walk_at "g_hp"))
  | ((with_reducible apply i_dni ?h ?_); (case h => walk_at "g_hp"))
  | ((with_reducible apply i_dp1 ?h ?_); (case h => walk_at "g_hp"))
  | (with_reducible refine i_lc2I ?_)
  | (with_reducible refine i_lcK ?_)
  | (with_reducible refine i_dcK ?_)
  | ((with_reducible apply i_inI ?h ?_); (case h => walk_at "g_sq"))
  | ((with_reducible apply i_ninI ?h ?_); (case h => walk_at "g_sq")))
--%%E

/-! ### lists of pairs, sorted -/
def PrsAt (H : Hp) : List V → List (Int × Int) → Prop
  | [], [] => True
  | x :: xs, q :: ps => (∃ t, x = .ref t ∧ H t = some (.tup [.int q.1, .int q.2])) ∧ PrsAt H xs ps
  | _, _ => False
theorem PrsAt.len {H : Hp} : ∀ {xs : List V} {ps : List (Int × Int)}, PrsAt H xs ps → xs.length = ps.length
  | [], [], _ => rfl
  | _ :: _, _ :: _, h => by rw [List.length_cons, List.length_cons, PrsAt.len h.2]
  | [], _ :: _, h => h.elim
  | _ :: _, [], h => h.elim
theorem PrsAt.kp {H H' : Hp} {ws : List Addr} (k : Kp ws H H') : ∀ {xs : List V} {ps : List (Int × Int)}, PrsAt H xs ps → PrsAt H' xs ps
  | [], [], _ => trivial
  | _ :: _, _ :: _, ⟨⟨t, e, h⟩, r⟩ => ⟨⟨t, e, k.fix _ _ h trivial⟩, PrsAt.kp k r⟩
  | [], _ :: _, h => h.elim
  | _ :: _, [], h => h.elim
theorem PrsAt.snoc {H : Hp} {t : Addr} {q : Int × Int} (e : H t = some (.tup [.int q.1, .int q.2])) : ∀ {xs : List V} {ps : List (Int × Int)}, PrsAt H xs ps → PrsAt H (xs ++ [.ref t]) (ps ++ [q])
  | [], [], _ => ⟨⟨t, rfl, e⟩, trivial⟩
  | _ :: _, _ :: _, ⟨a, r⟩ => ⟨a, PrsAt.snoc e r⟩
  | [], _ :: _, h => h.elim
  | _ :: _, [], h => h.elim
theorem PrsAt.dpa {K : PySem.W.Frag} {H : Hp} : ∀ {xs : List V} {ps : List (Int × Int)}, PrsAt H xs ps → DpAll K H xs (ps.map d2)
  | [], [], _ => .nil
  | _ :: _, q :: _, ⟨⟨t, e, h⟩, r⟩ => by
    subst e
    exact .cons (dp_mk2 (.inl (Rd.of h))) (PrsAt.dpa r)
  | [], _ :: _, h => h.elim
  | _ :: _, [], h => h.elim
def kOfO : Option HO → Int × Int
  | some (.tup [.int a, .int b]) => (a, b)
  | _ => (0, 0)
def kOf (H : Hp) (x : V) : Int × Int :=
  match x with
  | .ref t => kOfO (H t)
  | _ => (0, 0)
theorem kOf_at {H : Hp} {t : Addr} {q : Int × Int} (h : H t = some (.tup [.int q.1, .int q.2])) : kOf H (.ref t) = q := by
  show kOfO (H t) = q
  rw [h]
  rfl
theorem PrsAt.key {H : Hp} : ∀ {xs : List V} {ps : List (Int × Int)}, PrsAt H xs ps → ∀ x ∈ xs, ∃ t, x = .ref t ∧ H t = some (.tup [.int (kOf H x).1, .int (kOf H x).2])
  | [], [], _, x, hx => by cases hx
  | y :: _, q :: _, ⟨⟨t, e, h⟩, r⟩, x, hx => by
    rcases List.mem_cons.mp hx with z | z
    · subst z
      subst e
      refine ⟨t, rfl, ?_⟩
      rw [kOf_at h]
      exact h
    · exact PrsAt.key r x z
  | [], _ :: _, h, _, _ => h.elim
  | _ :: _, [], h, _, _ => h.elim
theorem PrsAt.map {H : Hp} : ∀ {xs : List V} {ps : List (Int × Int)}, PrsAt H xs ps → xs.map (kOf H) = ps
  | [], [], _ => rfl
  | y :: _, q :: _, ⟨⟨t, e, h⟩, r⟩ => by
    subst e
    rw [List.map_cons, PrsAt.map r, kOf_at h]
  | [], _ :: _, h => h.elim
  | _ :: _, [], h => h.elim
theorem PrsAt.of {H : Hp} : ∀ {xs : List V}, (∀ x ∈ xs, ∃ t, x = .ref t ∧ H t = some (.tup [.int (kOf H x).1, .int (kOf H x).2])) → PrsAt H xs (xs.map (kOf H))
  | [], _ => trivial
  | x :: xs, h => ⟨h x List.mem_cons_self, PrsAt.of fun y hy => h y (List.mem_cons_of_mem _ hy)⟩
def ltQ (p q : Int × Int) : Prop := p.1 < q.1 ∨ (p.1 = q.1 ∧ p.2 < q.2)
/-- sorted of a list of pairs no two of which are alike -/
theorem i_sortedP {K : PySem.W.Frag} {H : Hp} {Q : VK} {a : Addr} {xs : List V} {ps : List (Int × Int)} (h : H a = some (.lst xs)) (r : PrsAt H xs ps) (nd : ps.Nodup)
    (q : ∀ (rs : List (Int × Int)) (R : Addr) (H' : Hp), Fr H R → Kp [] H H' → LD K H' R (rs.map d2) → rs.Perm ps → rs.Pairwise ltQ → Q (.ref R) H') : rSortedPO K [.ref a] H Q := by
  refine ⟨a, xs, kOf H, rfl, SqL.of h, r.key, fun ys p s1 s2 hp => ?_⟩
  have pm := s2.perm
  have key : ∀ x ∈ ys, ∃ t, x = .ref t ∧ H t = some (.tup [.int (kOf H x).1, .int (kOf H x).2]) := fun x hx => r.key x (pm.mem_iff.mp hx)
  have pm2 : (ys.map (kOf H)).Perm ps := by
    have e := pm.map (kOf H)
    rw [r.map] at e
    exact e
  have k : Kp [] H (upd H p (.lst ys)) := Kp.new ⟨hp⟩
  refine q (ys.map (kOf H)) p _ ⟨hp⟩ k ⟨ys, upd_same, (PrsAt.kp k (PrsAt.of key)).dpa⟩ pm2 ?_
  have nd2 : (ys.map (kOf H)).Nodup := pm2.nodup_iff.mpr nd
  have s3 : (ys.map (kOf H)).Pairwise fun p q => SrtO.lexB q p = false := List.pairwise_map.mpr s1
  refine (s3.and nd2).imp fun {p q} z => ?_
  have z1 := SrtO.lexB_no.mp z.1
  have z2 : p ≠ q := z.2
  unfold ltQ
  by_cases c : p.1 = q.1
  · refine .inr ⟨c, ?_⟩
    by_cases c2 : p.2 = q.2
    · exact absurd (Prod.ext c c2) z2
    · omega
  · omega
theorem pw_uniq {α : Type} {lt : α → α → Prop} (irr : ∀ a, ¬ lt a a) (asym : ∀ a b, lt a b → ¬ lt b a) : ∀ {l m : List α}, l.Pairwise lt → m.Pairwise lt → (∀ x, x ∈ l ↔ x ∈ m) → l = m
  | [], [], _, _, _ => rfl
  | [], b :: m, _, _, h => absurd ((h b).mpr List.mem_cons_self) (by simp)
  | a :: l, [], _, _, h => absurd ((h a).mp List.mem_cons_self) (by simp)
  | a :: l, b :: m, h1, h2, h => by
    rw [List.pairwise_cons] at h1 h2
    have e : a = b := by
      rcases List.mem_cons.mp ((h a).mp List.mem_cons_self) with e | e
      · exact e
      rcases List.mem_cons.mp ((h b).mpr List.mem_cons_self) with e2 | e2
      · exact e2.symm
      exact absurd (h2.1 a e) (asym _ _ (h1.1 b e2))
    subst e
    congr 1
    refine pw_uniq irr asym h1.2 h2.2 fun x => ?_
    constructor
    · intro hx
      rcases List.mem_cons.mp ((h x).mp (List.mem_cons_of_mem _ hx)) with e | e
      · subst e
        exact absurd (h1.1 _ hx) (irr _)
      · exact e
    · intro hx
      rcases List.mem_cons.mp ((h x).mpr (List.mem_cons_of_mem _ hx)) with e | e
      · subst e
        exact absurd (h2.1 _ hx) (irr _)
      · exact e
theorem ltQ_uniq {l m : List (Int × Int)} (h1 : l.Pairwise ltQ) (h2 : m.Pairwise ltQ) (h : ∀ x, x ∈ l ↔ x ∈ m) : l = m :=
  pw_uniq (fun a z => by unfold ltQ at z; omega) (fun a b z y => by unfold ltQ at z y; omega) h1 h2 h
theorem lt_uniq {l m : List Int} (h1 : l.Pairwise (· < ·)) (h2 : m.Pairwise (· < ·)) (h : ∀ x, x ∈ l ↔ x ∈ m) : l = m :=
  pw_uniq (fun a z => Int.lt_irrefl _ z) (fun a b z y => absurd (Int.lt_trans z y) (Int.lt_irrefl _)) h1 h2 h
theorem strict_of {l m : List Int} (p : l.Perm m) (nd : m.Nodup) (h : l.Pairwise (· ≤ ·)) : l.Pairwise (· < ·) := by
  have nd2 : l.Nodup := p.nodup_iff.mpr nd
  refine (h.and nd2).imp fun {a b} z => ?_
  have z2 : a ≠ b := z.2
  omega

/-! ### spread, ways -/
section
variable {D : Int → Int → Int} {ever : Int} {liv ks : List Int} {nb : Int → List Int} {goal here u : Int} {vis : List (Int × Int)} {wait : List Int}
/-- what is known of those met: q.2 stands ahead of q.1 on the way to the goal -/
structure Met (D : Int → Int → Int) (ks : List Int) (nb : Int → List Int) (goal : Int) (vis : List (Int × Int)) : Prop where
  nv : (vis.map (·.1)).Nodup
  g : (goal, goal) ∈ vis
  to : ∀ q ∈ vis, q.1 = goal ∨ (q.2 ∈ nb q.1 ∧ Btw D q.1 q.2 goal ∧ q.2 ∈ vis.map (·.1))
  sub : ∀ q ∈ vis, q.1 ∈ ks
theorem Met.start (hg : goal ∈ ks) : Met D ks nb goal [(goal, goal)] :=
  ⟨by simp, List.mem_singleton.mpr rfl, fun q hq => .inl (by rw [List.mem_singleton.mp hq]), fun q hq => by rw [List.mem_singleton.mp hq]; exact hg⟩
theorem Met.len (m : Met D ks nb goal vis) : vis.length ≤ ks.length := by
  have := sub_len m.nv (m := ks) fun x hx => by
    obtain ⟨q, hq, rfl⟩ := List.mem_map.mp hx
    exact m.sub q hq
  rw [List.length_map] at this
  exact this
theorem Tr3.back (z : Tr3 D ever liv ks nb) (hg : goal ∈ ks) (hh : here ∈ ks) (hu : u ∈ nb here) (h : here = goal ∨ ∃ p, p ∈ nb here ∧ Btw D here p goal ∧ u ≠ p) : Btw D u here goal := by
  obtain ⟨u1, u2, _⟩ := (z.rp.adj here hh u).mp hu
  rcases h with rfl | ⟨p, hp, hb, n⟩
  · have := z.t.self here (z.hU here hh)
    unfold Btw
    omega
  · obtain ⟨p1, p2, _⟩ := (z.rp.adj here hh p).mp hp
    refine z.t.join (z.hU u u1) (z.hU here hh) (z.hU p p1) (z.hU u u1) (z.hU goal hg) (Ne.symm u2) (Ne.symm p2) (z.rp.through z.t z.hU hh hu hp n) ?_ hb
    have := z.t.self u (z.hU u u1)
    unfold Btw
    omega
theorem Met.add (m : Met D ks nb goal vis) (z : Tr3 D ever liv ks nb) (hg : goal ∈ ks) (hh : here ∈ vis.map (·.1)) (hu : u ∈ nb here) (n : u ∉ vis.map (·.1)) : Met D ks nb goal (vis ++ [(u, here)]) := by
  obtain ⟨q, hq, rfl⟩ := List.mem_map.mp hh
  have hk := m.sub q hq
  obtain ⟨u1, u2, _⟩ := (z.rp.adj _ hk u).mp hu
  refine ⟨?_, List.mem_append.mpr (.inl m.g), fun r hr => ?_, fun r hr => ?_⟩
  · rw [List.map_append]
    refine List.nodup_append.mpr ⟨m.nv, by simp, fun a ha b hb e => n ?_⟩
    have e2 : a = u := e.trans (List.mem_singleton.mp hb)
    rw [e2] at ha
    exact ha
  · rw [List.map_append]
    rcases List.mem_append.mp hr with h | h
    · rcases m.to r h with e | ⟨a, b, c⟩
      · exact .inl e
      · exact .inr ⟨a, b, List.mem_append.mpr (.inl c)⟩
    · rw [List.mem_singleton.mp h]
      refine .inr ⟨z.rp.sym z.t z.hU hk hu, z.back hg hk hu ?_, List.mem_append.mpr (.inl hh)⟩
      rcases m.to q hq with e | ⟨a, b, c⟩
      · exact .inl e
      · exact .inr ⟨q.2, a, b, fun e => n (by have e : u = q.2 := e; rw [e]; exact c)⟩
  · rcases List.mem_append.mp hr with h | h
    · exact m.sub r h
    · rw [List.mem_singleton.mp h]
      exact u1
theorem Met.all (m : Met D ks nb goal vis) (z : Tr3 D ever liv ks nb) (hg : goal ∈ ks) (cl : ∀ x ∈ vis.map (·.1), ∀ y ∈ nb x, y ∈ vis.map (·.1)) : ∀ x ∈ ks, x ∈ vis.map (·.1) := by
  have key : ∀ n : Nat, ∀ x ∈ ks, D x goal ≤ n → x ∈ vis.map (·.1) := by
    intro n
    induction n with
    | zero =>
      intro x hx h
      have h1 := z.t.nn x goal (z.hU x hx) (z.hU goal hg)
      rw [z.t.eq x goal (z.hU x hx) (z.hU goal hg) (by omega)]
      exact List.mem_map.mpr ⟨_, m.g, rfl⟩
    | succ n ih =>
      intro x hx h
      by_cases c : x = goal
      · rw [c]
        exact List.mem_map.mpr ⟨_, m.g, rfl⟩
      · obtain ⟨y, hy, b⟩ := z.rp.toward z.t z.hU hx hg c
        obtain ⟨y1, y2, _⟩ := (z.rp.adj x hx y).mp hy
        have p := z.t.pos (z.hU x hx) (z.hU y y1) (Ne.symm y2)
        unfold Btw at b
        exact cl y (ih y y1 (by omega)) x (z.rp.sym z.t z.hU hx hy)
  intro x hx
  exact key (D x goal).toNat x hx (by omega)
/-- the way from the one to the other -/
structure Way (D : Int → Int → Int) (ks : List Int) (nb : Int → List Int) (one other : Int) (fs : List Int) : Prop where
  inc : fs.Pairwise (fun a b => D one a < D one b)
  mem : ∀ x, x ∈ fs ↔ x ∈ ks ∧ Btw D one x other
  adj : ∀ (i : Nat) a b, fs[i]? = some a → fs[i + 1]? = some b → b ∈ nb a
  hd : fs[0]? = some one
  la : ∃ l, fs = l ++ [other]
structure Going2 (D : Int → Int → Int) (ks : List Int) (nb : Int → List Int) (one other : Int) (fs : List Int) (l : Int) : Prop where
  inc : fs.Pairwise (fun a b => D one a < D one b)
  mem : ∀ x ∈ fs, x ∈ ks ∧ Btw D one x other
  all : ∀ x ∈ ks, Btw D one x other → x ∈ fs ∨ Btw D l x other
  adj : ∀ (i : Nat) a b, fs[i]? = some a → fs[i + 1]? = some b → b ∈ nb a
  hd : fs[0]? = some one
  la : ∃ r, fs = r ++ [l]
variable {one other l : Int} {fs gs : List Int}
theorem Going2.start (z : Tr3 D ever liv ks nb) (h1 : one ∈ ks) (h2 : other ∈ ks) : Going2 D ks nb one other [one] one := by
  refine ⟨by simp, fun x hx => ?_, fun x _ h => .inr h, fun i a b h k => ?_, rfl, [], rfl⟩
  · rw [List.mem_singleton.mp hx]
    have := z.t.self one (z.hU one h1)
    refine ⟨h1, ?_⟩
    unfold Btw
    omega
  · have := (List.getElem?_eq_some_iff.mp k).1
    rw [List.length_singleton] at this
    omega
theorem Going2.inl (g : Going2 D ks nb one other fs l) : l ∈ fs := by
  obtain ⟨r, e⟩ := g.la
  rw [e]
  exact List.mem_append.mpr (.inr (List.mem_singleton.mpr rfl))
theorem Going2.go (g : Going2 D ks nb one other fs l) (z : Tr3 D ever liv ks nb) (h1 : one ∈ ks) (h2 : other ∈ ks) {y : Int} (hy : y ∈ nb l) (hb : Btw D l y other) : Going2 D ks nb one other (fs ++ [y]) y ∧ D y other < D l other := by
  obtain ⟨l1, l2⟩ := g.mem l g.inl
  obtain ⟨y1, y2, y3⟩ := (z.rp.adj l l1 y).mp hy
  have U1 := z.hU one h1
  have U2 := z.hU other h2
  have Ul := z.hU l l1
  have Uy := z.hU y y1
  have p := z.t.pos Ul Uy (Ne.symm y2)
  have t1 := z.t.tri U1 U2 Uy
  have t2 := z.t.tri U1 Uy Ul
  have far : D one l < D one y := by
    unfold Btw at l2 hb
    omega
  have by1 : Btw D one y other := by
    unfold Btw at l2 hb ⊢
    omega
  refine ⟨⟨?_, fun x hx => ?_, fun x hx b => ?_, fun i a b ha hb2 => ?_, ?_, fs, rfl⟩, by unfold Btw at hb; omega⟩
  · refine List.pairwise_append.mpr ⟨g.inc, by simp, fun a ha b hb2 => ?_⟩
    rw [List.mem_singleton.mp hb2]
    obtain ⟨r, e⟩ := g.la
    rw [e] at ha
    rcases List.mem_append.mp ha with h | h
    · have i := g.inc
      rw [e] at i
      have := (List.pairwise_append.mp i).2.2 a h l (List.mem_singleton.mpr rfl)
      omega
    · rw [List.mem_singleton.mp h]
      exact far
  · rcases List.mem_append.mp hx with h | h
    · exact g.mem x h
    · rw [List.mem_singleton.mp h]
      exact ⟨y1, by1⟩
  · rcases g.all x hx b with h | h
    · exact .inl (List.mem_append.mpr (.inl h))
    · by_cases c : x = l
      · rw [c]
        exact .inl (List.mem_append.mpr (.inl g.inl))
      · rcases z.t.line Ul Uy U2 (z.hU x hx) hb h with k | k
        · by_cases c2 : x = y
          · rw [c2]
            exact .inl (List.mem_append.mpr (.inr (List.mem_singleton.mpr rfl)))
          · exact absurd k (y3 x hx c c2)
        · exact .inr k
  · have bl := (List.getElem?_eq_some_iff.mp hb2).1
    rw [List.length_append, List.length_singleton] at bl
    by_cases c : i + 1 < fs.length
    · rw [List.getElem?_append_left (by omega)] at ha
      rw [List.getElem?_append_left c] at hb2
      exact g.adj i a b ha hb2
    · obtain ⟨r, e⟩ := g.la
      have el : fs.length = r.length + 1 := by rw [e, List.length_append, List.length_singleton]
      rw [List.getElem?_append_left (by omega), e, List.getElem?_append_right (by omega), show i - r.length = 0 by omega] at ha
      rw [List.getElem?_append_right (by omega), show i + 1 - fs.length = 0 by omega] at hb2
      cases ha
      cases hb2
      exact hy
  · rw [List.getElem?_append_left (List.length_pos_of_mem g.inl)]
    exact g.hd
theorem Going2.way (g : Going2 D ks nb one other fs other) (z : Tr3 D ever liv ks nb) : Way D ks nb one other fs := by
  obtain ⟨l1, l2⟩ := g.mem other g.inl
  refine ⟨g.inc, fun x => ⟨g.mem x, fun ⟨h1, h2⟩ => (g.all x h1 h2).elim id fun k => ?_⟩, g.adj, g.hd, g.la⟩
  have a := z.t.nn other x (z.hU _ l1) (z.hU x h1)
  have b := z.t.nn x other (z.hU x h1) (z.hU _ l1)
  have c := z.t.self other (z.hU _ l1)
  unfold Btw at k
  rw [z.t.eq x other (z.hU x h1) (z.hU _ l1) (by omega)]
  exact g.inl
theorem Way.uniq (h : Way D ks nb one other fs) {nb' : Int → List Int} (k : Way D ks nb' one other gs) : fs = gs :=
  pw_uniq (lt := fun a b => D one a < D one b) (fun a z => Int.lt_irrefl _ z) (fun a b y z => absurd (Int.lt_trans y z) (Int.lt_irrefl _)) h.inc k.inc fun x => by rw [h.mem, k.mem]
theorem Way.rev (h : Way D ks nb one other fs) (z : Tr3 D ever liv ks nb) (h1 : one ∈ ks) (h2 : other ∈ ks) (k : Way D ks nb other one gs) : gs = fs.reverse := by
  have U1 := z.hU one h1
  have U2 := z.hU other h2
  refine pw_uniq (lt := fun a b => D other a < D other b) (fun a z => Int.lt_irrefl _ z) (fun a b y z => absurd (Int.lt_trans y z) (Int.lt_irrefl _)) k.inc ?_ fun x => ?_
  · rw [List.pairwise_reverse]
    refine h.inc.imp_of_mem fun {a b} ha hb lt => ?_
    obtain ⟨a1, a2⟩ := (h.mem a).mp ha
    obtain ⟨b1, b2⟩ := (h.mem b).mp hb
    have := z.t.sym a other (z.hU a a1) U2
    have := z.t.sym b other (z.hU b b1) U2
    unfold Btw at a2 b2
    omega
  · rw [List.mem_reverse, h.mem, k.mem]
    constructor
    · rintro ⟨a, b⟩
      exact ⟨a, b.sym z.t U2 (z.hU x a) U1⟩
    · rintro ⟨a, b⟩
      exact ⟨a, b.sym z.t U1 (z.hU x a) U2⟩
theorem Way.nd (h : Way D ks nb one other fs) : fs.Nodup := h.inc.imp fun {a b} lt e => by
  rw [e] at lt
  omega
end

/-! ### as many ties as worlds but one -/
section
variable {D : Int → Int → Int} {ever g : Int} {liv ks : List Int} {nb : Int → List Int}
theorem Tr3.one_way (z : Tr3 D ever liv ks nb) (hg : g ∈ ks) {x p q : Int} (hx : x ∈ ks) (hp : p ∈ nb x) (hq : q ∈ nb x) (bp : Btw D x p g) (bq : Btw D x q g) : p = q := by
  refine Classical.byContradiction fun n => ?_
  obtain ⟨p1, p2, _⟩ := (z.rp.adj x hx p).mp hp
  obtain ⟨q1, q2, _⟩ := (z.rp.adj x hx q).mp hq
  have th := z.rp.through z.t z.hU hx hp hq n
  have U := fun {u} (h : u ∈ ks) => z.hU u h
  have k := z.t.join (U p1) (U hx) (U q1) (U hg) (U hg) (Ne.symm p2) (Ne.symm q2) th bp bq
  have a := z.t.self g (U hg)
  have b := z.t.nn g x (U hg) (U hx)
  have c := z.t.nn x g (U hx) (U hg)
  have d := z.t.pos (U hx) (U p1) (Ne.symm p2)
  have e := z.t.nn p g (U p1) (U hg)
  unfold Btw at k bp
  omega
theorem Tr3.rows_count (z : Tr3 D ever liv ks nb) {rs : List (Int × Int)} (nd : rs.Nodup) (ro : ∀ q, q ∈ rs ↔ q.1 ∈ ks ∧ q.2 ∈ nb q.1 ∧ q.1 < q.2) (hg : g ∈ ks) : rs.length + 1 = ks.length := by
  obtain ⟨par, hpar⟩ : ∃ par : Int → Int, ∀ x ∈ ks, x ≠ g → par x ∈ nb x ∧ Btw D x (par x) g := by
    have h : ∀ x, ∃ y, x ∈ ks → x ≠ g → y ∈ nb x ∧ Btw D x y g := fun x => by
      by_cases c : x ∈ ks ∧ x ≠ g
      · obtain ⟨y, y1, y2⟩ := z.rp.toward z.t z.hU c.1 hg c.2
        exact ⟨y, fun _ _ => ⟨y1, y2⟩⟩
      · exact ⟨0, fun a b => absurd ⟨a, b⟩ c⟩
    exact ⟨fun x => Classical.choose (h x), fun x => Classical.choose_spec (h x)⟩
  have me : ∀ {x}, x ∈ ks.erase g ↔ x ≠ g ∧ x ∈ ks := fun {x} => z.nk.mem_erase_iff
  have adj : ∀ {x y}, x ∈ ks → y ∈ nb x → y ∈ ks ∧ y ≠ x ∧ x ∈ nb y := fun {x y} hx hy => by
    obtain ⟨a, b, _⟩ := (z.rp.adj x hx y).mp hy
    exact ⟨a, b, z.rp.sym z.t z.hU hx hy⟩
  have key : (((ks.erase g).map fun x => (min x (par x), max x (par x))) : List (Int × Int)).Perm rs := by
    refine (List.perm_ext_iff_of_nodup ?_ nd).mpr fun q => ?_
    · refine List.pairwise_map.mpr ((z.nk.erase g).imp_of_mem fun {x y} hx hy n e => ?_)
      obtain ⟨x1, x2⟩ := me.mp hx
      obtain ⟨y1, y2⟩ := me.mp hy
      obtain ⟨p1, p2⟩ := hpar x x2 x1
      obtain ⟨r1, r2⟩ := hpar y y2 y1
      have e1 := congrArg Prod.fst e
      have e2 := congrArg Prod.snd e
      simp only at e1 e2
      have c : x = par y ∧ y = par x := by omega
      have U := fun {u} (h : u ∈ ks) => z.hU u h
      have s1 := z.t.sym x y (U x2) (U y2)
      have s2 := z.t.pos (U x2) (U y2) n
      rw [← c.2] at p2
      rw [← c.1] at r2
      unfold Btw at p2 r2
      omega
    · rw [List.mem_map, ro]
      constructor
      · rintro ⟨x, hx, rfl⟩
        obtain ⟨x1, x2⟩ := me.mp hx
        obtain ⟨p1, p2⟩ := hpar x x2 x1
        obtain ⟨a, b, c⟩ := adj x2 p1
        by_cases l : x < par x
        · rw [Int.min_eq_left (by omega), Int.max_eq_right (by omega)]
          exact ⟨x2, p1, l⟩
        · rw [Int.min_eq_right (by omega), Int.max_eq_left (by omega)]
          exact ⟨a, c, show par x < x by omega⟩
      · rintro ⟨h1, h2, h3⟩
        obtain ⟨a, b, c⟩ := adj h1 h2
        have hit : ∀ {x y}, x ∈ ks → x ≠ g → y ∈ nb x → Btw D x y g → par x = y := fun {x y} hx n hy hb => z.one_way hg hx (hpar x hx n).1 hy (hpar x hx n).2 hb
        by_cases c1 : q.2 = g
        · have n1 : q.1 ≠ g := by omega
          refine ⟨q.1, me.mpr ⟨n1, h1⟩, ?_⟩
          have bt : Btw D q.1 q.2 g := by
            rw [c1]
            have := z.t.self g (z.hU g hg)
            unfold Btw
            omega
          rw [hit h1 n1 h2 bt, Int.min_eq_left (by omega), Int.max_eq_right (by omega)]
        · by_cases c2 : par q.2 = q.1
          · refine ⟨q.2, me.mpr ⟨c1, a⟩, ?_⟩
            rw [c2, Int.min_eq_right (by omega), Int.max_eq_left (by omega)]
          · have n1 : q.1 ≠ g := fun e => c2 (hit a c1 c (by
              rw [e]
              have := z.t.self g (z.hU g hg)
              unfold Btw
              omega))
            have bt := z.back hg a c (.inr ⟨par q.2, (hpar q.2 a c1).1, (hpar q.2 a c1).2, fun e => c2 e.symm⟩)
            refine ⟨q.1, me.mpr ⟨n1, h1⟩, ?_⟩
            rw [hit h1 n1 h2 bt, Int.min_eq_left (by omega), Int.max_eq_right (by omega)]
  have e := key.length_eq
  rw [List.length_map, List.length_erase_of_mem hg] at e
  have := List.length_pos_of_mem hg
  omega
/-- more numbers told than worlds that were -/
theorem Rp.on {D' : Int → Int → Int} (r : Rp D ks nb) (h : ∀ u ∈ ks, ∀ v ∈ ks, D' u v = D u v) : Rp D' ks nb := by
  have b : ∀ {x y w}, x ∈ ks → y ∈ ks → w ∈ ks → (Btw D' x y w ↔ Btw D x y w) := fun {x y w} hx hy hw => by
    unfold Btw
    rw [h x hx y hy, h y hy w hw, h x hx w hw]
  refine ⟨r.nd, fun u hu v => ?_, fun u hu v hv w hw => ?_⟩
  · rw [r.adj u hu v]
    exact ⟨fun ⟨x, y, k⟩ => ⟨x, y, fun w hw n1 n2 q => k w hw n1 n2 ((b hu hw x).mp q)⟩, fun ⟨x, y, k⟩ => ⟨x, y, fun w hw n1 n2 q => k w hw n1 n2 ((b hu hw x).mpr q)⟩⟩
  · obtain ⟨m, hm, m1, m2, m3⟩ := r.med u hu v hv w hw
    exact ⟨m, hm, (b hu hm hv).mpr m1, (b hu hm hw).mpr m2, (b hv hm hw).mpr m3⟩
theorem Tr3.wider (z : Tr3 D ever liv ks nb) : ∃ D', Tr3 D' (ever + 1) liv ks nb := by
  have h0 : Un ever 0 := ⟨Int.le_refl _, z.e0⟩
  refine ⟨Dk D ever 0, z.t.fork h0, fun u hu => ?_, z.rp.on fun u hu v hv => ?_, z.nk, z.nl, z.sub, z.red, by have := z.e0; omega⟩
  · obtain ⟨a, b⟩ := z.hU u hu
    exact ⟨a, by omega⟩
  · have a := (z.hU u hu).2
    have b := (z.hU v hv).2
    exact dk_old (by omega) (by omega)
theorem Tr3.widen (z : Tr3 D ever liv ks nb) : ∀ n : Nat, ∃ D', Tr3 D' (ever + n) liv ks nb
  | 0 => ⟨D, by rw [Int.natCast_zero, Int.add_zero]; exact z⟩
  | n + 1 => by
    obtain ⟨D1, z1⟩ := z.widen n
    obtain ⟨D2, z2⟩ := z1.wider
    refine ⟨D2, ?_⟩
    rw [show ever + ((n + 1 : Nat) : Int) = ever + n + 1 by omega]
    exact z2
end

/-! ### what hangs beneath a world, and what it costs at the least -/
def minL : List Int → Int
  | [] => 0
  | [a] => a
  | a :: b :: l => min a (minL (b :: l))
theorem minL_spec : ∀ {l : List Int}, l ≠ [] → minL l ∈ l ∧ ∀ y ∈ l, minL l ≤ y
  | [], h => absurd rfl h
  | [a], _ => ⟨List.mem_singleton.mpr rfl, fun y hy => by rw [List.mem_singleton.mp hy]; exact Int.le_refl _⟩
  | a :: b :: l, _ => by
    obtain ⟨h1, h2⟩ := minL_spec (l := b :: l) (by simp)
    show min a (minL (b :: l)) ∈ a :: b :: l ∧ ∀ y ∈ a :: b :: l, min a (minL (b :: l)) ≤ y
    constructor
    · by_cases c : a ≤ minL (b :: l)
      · rw [Int.min_eq_left c]
        exact List.mem_cons_self
      · rw [Int.min_eq_right (by omega)]
        exact List.mem_cons_of_mem _ h1
    · intro y hy
      rcases List.mem_cons.mp hy with rfl | h
      · omega
      · have := h2 y h
        omega
theorem minL_uniq {l : List Int} {m : Int} (h : m ∈ l) (k : ∀ y ∈ l, m ≤ y) : m = minL l := by
  have ne : l ≠ [] := fun e => by rw [e] at h; cases h
  obtain ⟨a, b⟩ := minL_spec ne
  have := k _ a
  have := b _ h
  omega
abbrev Wy := Int × Int × Int
def bestC (qs : List Wy) : Int := minL (qs.map fun q => q.2.1)
def bestM (qs : List Wy) : Int := ((qs.filter fun q => decide (q.2.1 = bestC qs)).map fun q => q.2.2).sum
/-- what stands under a number -/
def wlook (qs : List Wy) (n : Int) : Option (Int × Int) := (qs.find? fun q => decide (q.1 = n)).map (·.2)
/-- what comes of a number over a tie: how much more, and how many -/
def there (qs : List Wy) (n : Int) : Int × Int :=
  match wlook qs n with
  | none => (bestC qs + 1, bestM qs)
  | some (c, m) => if c = bestC qs then (bestC qs, m) else if c = bestC qs + 1 then (bestC qs + 1, bestM qs + m) else (bestC qs + 1, bestM qs)
def tiedOn (qs bs : List Wy) : List Wy := qs.map fun q => (q.1, q.2.1 + (there bs q.1).1, q.2.2 * (there bs q.1).2)
/-- a row of worlds side by side, each with what hangs beneath it -/
inductive Fo where
  | nil : Fo
  | cons (w : Int) (k r : Fo) : Fo
def Fo.tops : Fo → List Int
  | .nil => []
  | .cons w _ r => w :: r.tops
def Fo.labs : Fo → List Int
  | .nil => []
  | .cons w k r => w :: (k.labs ++ r.labs)
def Fo.snoc : Fo → Int → Fo → Fo
  | .nil, u, f => .cons u f .nil
  | .cons w k r, u, f => .cons w k (r.snoc u f)
theorem Fo.snoc_tops (u : Int) (f : Fo) : ∀ F : Fo, (F.snoc u f).tops = F.tops ++ [u]
  | .nil => rfl
  | .cons w k r => by
    show w :: (r.snoc u f).tops = _
    rw [Fo.snoc_tops u f r]
    rfl
/-- the cost beneath a world with the number that g gives it -/
def Fo.cost (g : Int → Int) : Int → Fo → Int
  | _, .nil => 0
  | p, .cons w k r => (if g w = g p then 0 else 1) + k.cost g w + r.cost g p
/-- beneath each world stand its neighbours but the one above it -/
def Fo.Deep (nb : Int → List Int) : Int → Fo → Prop
  | _, .nil => True
  | p, .cons w k r => (k.tops.Nodup ∧ ∀ x, x ∈ k.tops ↔ x ∈ nb w ∧ x ≠ p) ∧ k.Deep nb w ∧ r.Deep nb p
theorem Fo.snoc_deep {nb : Int → List Int} {p u : Int} {f : Fo} (h1 : f.tops.Nodup) (h2 : ∀ x, x ∈ f.tops ↔ x ∈ nb u ∧ x ≠ p) (h3 : f.Deep nb u) : ∀ {F : Fo}, F.Deep nb p → (F.snoc u f).Deep nb p
  | .nil, _ => ⟨⟨h1, h2⟩, h3, trivial⟩
  | .cons _ _ _, h => ⟨h.1, h.2.1, Fo.snoc_deep h1 h2 h3 h.2.2⟩
/-- what hangs beneath w, come to by bk -/
def Fo.Is (nb : Int → List Int) (w : Int) (bk : Option Int) (F : Fo) : Prop := (F.tops.Nodup ∧ ∀ x, x ∈ F.tops ↔ x ∈ nb w ∧ some x ≠ bk) ∧ F.Deep nb w
section
variable {told : Int → Option Int} {nums : List Int}
def vals (told : Int → Option Int) (nums : List Int) (w : Int) : List Int :=
  match told w with
  | some n => [n]
  | none => nums
def ini (told : Int → Option Int) (nums : List Int) (w : Int) : List Wy := (vals told nums w).map fun n => (n, 0, 1)
def Fo.go (told : Int → Option Int) (nums : List Int) : Fo → List Wy → List Wy
  | .nil, a => a
  | .cons w k r, a => r.go told nums (tiedOn a (k.go told nums (ini told nums w)))
theorem Fo.go_snoc (u : Int) (f : Fo) : ∀ (F : Fo) (a : List Wy), (F.snoc u f).go told nums a = tiedOn (F.go told nums a) (f.go told nums (ini told nums u))
  | .nil, _ => rfl
  | .cons _ _ r, _ => Fo.go_snoc u f r _
/-- the ways of a world with what hangs beneath it -/
def Fo.at_ (told : Int → Option Int) (nums : List Int) (k : Fo) (w : Int) : List Wy := k.go told nums (ini told nums w)
def Fo.low (told : Int → Option Int) (nums : List Int) : Fo → Int → Int
  | .nil, _ => 0
  | .cons w k r, n => (there (k.at_ told nums w) n).1 + r.low told nums n
def Fo.mny (told : Int → Option Int) (nums : List Int) : Fo → Int → Int
  | .nil, _ => 1
  | .cons w k r, n => (there (k.at_ told nums w) n).2 * r.mny told nums n
theorem Fo.go_eq : ∀ (F : Fo) (a : List Wy), F.go told nums a = a.map fun q => (q.1, q.2.1 + F.low told nums q.1, q.2.2 * F.mny told nums q.1)
  | .nil, a => by
    refine Eq.trans (List.map_id a).symm (List.map_congr_left fun q _ => ?_)
    show q = (q.1, q.2.1 + 0, q.2.2 * 1)
    rw [Int.add_zero, Int.mul_one]
  | .cons w k r, a => by
    show r.go told nums (tiedOn a (k.at_ told nums w)) = _
    rw [Fo.go_eq r]
    unfold tiedOn
    rw [List.map_map]
    refine List.map_congr_left fun q _ => ?_
    show (q.1, q.2.1 + (there (k.at_ told nums w) q.1).1 + r.low told nums q.1, q.2.2 * (there (k.at_ told nums w) q.1).2 * r.mny told nums q.1) = _
    rw [Int.add_assoc, Int.mul_assoc]
    rfl
theorem Fo.at_eq (k : Fo) (w : Int) : k.at_ told nums w = (vals told nums w).map fun n => (n, k.low told nums n, k.mny told nums n) := by
  unfold Fo.at_
  rw [Fo.go_eq]
  unfold ini
  rw [List.map_map]
  refine List.map_congr_left fun n _ => ?_
  show (n, 0 + k.low told nums n, 1 * k.mny told nums n) = _
  rw [Int.zero_add, Int.one_mul]
theorem vals_ne (hn : nums ≠ []) (w : Int) : vals told nums w ≠ [] := by
  unfold vals
  cases told w with
  | some n => simp
  | none => exact hn
def ne1 (a b : Int) : Int := if a = b then 0 else 1
theorem find_map {f m : Int → Int} {n : Int} : ∀ {vs : List Int}, n ∈ vs → wlook (vs.map fun a => (a, f a, m a)) n = some (f n, m n)
  | [], h => by cases h
  | a :: vs, h => by
    unfold wlook
    rw [List.map_cons, List.find?_cons]
    by_cases c : a = n
    · subst c
      rw [decide_eq_true rfl]
      rfl
    · rw [decide_eq_false c]
      exact find_map ((List.mem_cons.mp h).resolve_left (Ne.symm c))
theorem find_none {f m : Int → Int} {n : Int} {vs : List Int} (h : n ∉ vs) : wlook (vs.map fun a => (a, f a, m a)) n = none := by
  unfold wlook
  rw [List.find?_eq_none.mpr fun q hq => ?_]
  · rfl
  · obtain ⟨a, ha, rfl⟩ := List.mem_map.mp hq
    simp only [decide_eq_true_eq]
    intro e
    exact h (e ▸ ha)
theorem bestC_map {f m : Int → Int} {vs : List Int} : bestC (vs.map fun a => (a, f a, m a)) = minL (vs.map f) := by
  unfold bestC
  rw [List.map_map]
  rfl
theorem there_in {f m : Int → Int} {n : Int} {vs : List Int} (h : n ∈ vs) : (there (vs.map fun a => (a, f a, m a)) n).1 = if f n = minL (vs.map f) then minL (vs.map f) else minL (vs.map f) + 1 := by
  unfold there
  rw [find_map h, bestC_map]
  show (if f n = _ then _ else _ : Int × Int).1 = _
  split
  · rfl
  · split <;> rfl
theorem there_out {f m : Int → Int} {n : Int} {vs : List Int} (h : n ∉ vs) : (there (vs.map fun a => (a, f a, m a)) n).1 = minL (vs.map f) + 1 := by
  unfold there
  rw [find_none h, bestC_map]
theorem there_le {f m : Int → Int} {n : Int} {vs : List Int} : (∀ a ∈ vs, (there (vs.map fun a => (a, f a, m a)) n).1 ≤ ne1 a n + f a) := by
  intro a ha
  have ne : vs.map f ≠ [] := fun e => by
    rw [List.map_eq_nil_iff.mp e] at ha
    cases ha
  have s := (minL_spec ne).2 (f a) (List.mem_map.mpr ⟨a, ha, rfl⟩)
  unfold ne1
  by_cases c : n ∈ vs
  · rw [there_in c]
    by_cases e : a = n
    · rw [if_pos e]
      subst e
      split <;> omega
    · rw [if_neg e]
      split <;> omega
  · rw [there_out c, if_neg (fun e : a = n => c (e ▸ ha))]
    omega
theorem there_got {f m : Int → Int} {n : Int} {vs : List Int} (ne : vs ≠ []) : ∃ a ∈ vs, (there (vs.map fun a => (a, f a, m a)) n).1 = ne1 a n + f a := by
  have s := (minL_spec (l := vs.map f) (fun e => ne (List.map_eq_nil_iff.mp e))).1
  obtain ⟨b, hb, eb⟩ := List.mem_map.mp s
  unfold ne1
  by_cases c : n ∈ vs
  · rw [there_in c]
    by_cases e : f n = minL (vs.map f)
    · exact ⟨n, c, by rw [if_pos e, if_pos rfl]; omega⟩
    · refine ⟨b, hb, ?_⟩
      rw [if_neg e, if_neg fun e2 => e (by rw [← e2, eb])]
      omega
  · rw [there_out c]
    exact ⟨b, hb, by rw [if_neg (fun e2 : b = n => c (e2 ▸ hb))]; omega⟩
/-- the least cost of a world with what hangs beneath it -/
def Fo.bst (told : Int → Option Int) (nums : List Int) (k : Fo) (w : Int) : Int := minL ((vals told nums w).map (k.low told nums))
theorem Fo.bestC_at (k : Fo) (w : Int) : bestC (k.at_ told nums w) = k.bst told nums w := by
  rw [Fo.at_eq]
  exact bestC_map
theorem Fo.low_le (k r : Fo) (w n : Int) : ∀ a ∈ vals told nums w, (Fo.cons w k r).low told nums n ≤ ne1 a n + k.low told nums a + r.low told nums n := fun a ha => by
  show (there (k.at_ told nums w) n).1 + r.low told nums n ≤ _
  rw [Fo.at_eq]
  have := there_le (f := k.low told nums) (m := k.mny told nums) (n := n) a ha
  omega
theorem Fo.low_got (hn : nums ≠ []) (k r : Fo) (w n : Int) : ∃ a ∈ vals told nums w, (Fo.cons w k r).low told nums n = ne1 a n + k.low told nums a + r.low told nums n := by
  obtain ⟨a, ha, e⟩ := there_got (f := k.low told nums) (m := k.mny told nums) (n := n) (vals_ne (told := told) hn w)
  refine ⟨a, ha, ?_⟩
  show (there (k.at_ told nums w) n).1 + r.low told nums n = _
  rw [Fo.at_eq, e]
/-- told by sets: the least cost of each beneath, and one where the number isn't among its best -/
theorem Fo.low_cons (k r : Fo) (w n : Int) : (Fo.cons w k r).low told nums n = k.bst told nums w + (if n ∈ vals told nums w ∧ k.low told nums n = k.bst told nums w then 0 else 1) + r.low told nums n := by
  show (there (k.at_ told nums w) n).1 + r.low told nums n = _
  rw [Fo.at_eq]
  by_cases c : n ∈ vals told nums w
  · rw [there_in c]
    unfold Fo.bst
    by_cases e : k.low told nums n = minL ((vals told nums w).map (k.low told nums))
    · rw [if_pos e, if_pos ⟨c, e⟩]
      omega
    · rw [if_neg e, if_neg fun z => e z.2]
  · rw [there_out c, if_neg fun z => c z.1]
    rfl
theorem vals_sub (tn : ∀ w n, told w = some n → n ∈ nums) (w : Int) : ∀ a ∈ vals told nums w, a ∈ nums := by
  intro a ha
  unfold vals at ha
  cases e : told w with
  | some n =>
    rw [e] at ha
    rw [List.mem_singleton.mp ha]
    exact tn w n e
  | none =>
    rw [e] at ha
    exact ha
theorem Fo.low_out (tn : ∀ w n, told w = some n → n ∈ nums) {a b : Int} (h : a ∉ nums) : ∀ F : Fo, F.low told nums b ≤ F.low told nums a
  | .nil => Int.le_refl _
  | .cons w k r => by
    have ih := Fo.low_out tn (b := b) h r
    rw [Fo.low_cons, Fo.low_cons, if_neg (c := a ∈ vals told nums w ∧ _) fun z => h (vals_sub tn w a z.1)]
    split <;> omega
theorem Fo.low_in (tn : ∀ w n, told w = some n → n ∈ nums) (hn : nums ≠ []) {a : Int} (h : a ∉ nums) : ∀ F : Fo, F.tops ≠ [] → ∃ b ∈ nums, F.low told nums b + 1 ≤ F.low told nums a
  | .nil, z => absurd rfl z
  | .cons w k r, _ => by
    have ne : (vals told nums w).map (k.low told nums) ≠ [] := fun e => vals_ne (told := told) hn w (List.map_eq_nil_iff.mp e)
    obtain ⟨b, hb, e⟩ := List.mem_map.mp (minL_spec ne).1
    refine ⟨b, vals_sub tn w b hb, ?_⟩
    have := Fo.low_out (told := told) tn (b := b) h r
    rw [Fo.low_cons, Fo.low_cons, if_neg (c := a ∈ vals told nums w ∧ _) fun z => h (vals_sub tn w a z.1), if_pos ⟨hb, e⟩]
    omega
/-- worlds of no told number have something beneath them -/
def Fo.Red (told : Int → Option Int) : Fo → Prop
  | .nil => True
  | .cons w k r => (told w = none → k.tops ≠ []) ∧ k.Red told ∧ r.Red told
/-- no keeping costs less -/
theorem Fo.least (tn : ∀ w n, told w = some n → n ∈ nums) (hn : nums ≠ []) {g : Int → Int} : ∀ (F : Fo) (p : Int), F.Red told → (∀ x ∈ F.labs, ∀ n, told x = some n → g x = n) → F.low told nums (g p) ≤ F.cost g p
  | .nil, _, _, _ => Int.le_refl _
  | .cons w k r, p, red, h => by
    have i1 := Fo.least tn hn (g := g) k w red.2.1 fun x hx => h x (List.mem_cons_of_mem _ (List.mem_append_left _ hx))
    have i2 := Fo.least tn hn (g := g) r p red.2.2 fun x hx => h x (List.mem_cons_of_mem _ (List.mem_append_right _ hx))
    have e : (Fo.cons w k r).cost g p = ne1 (g w) (g p) + k.cost g w + r.cost g p := rfl
    rw [e]
    by_cases c : g w ∈ vals told nums w
    · have := Fo.low_le (told := told) (nums := nums) k r w (g p) _ c
      omega
    · have tw : told w = none := by
        cases et : told w with
        | none => rfl
        | some n =>
          refine absurd ?_ c
          unfold vals
          rw [et]
          exact List.mem_singleton.mpr (h w List.mem_cons_self n et)
      have ev : vals told nums w = nums := by
        unfold vals
        rw [tw]
      rw [ev] at c
      obtain ⟨b, hb, le⟩ := Fo.low_in tn hn c k (red.1 tw)
      have := Fo.low_le (told := told) (nums := nums) k r w (g p) b (by rw [ev]; exact hb)
      have n1 : ne1 b (g p) ≤ 1 := by unfold ne1; split <;> omega
      have n2 : 0 ≤ ne1 (g w) (g p) := by unfold ne1; split <;> omega
      omega
theorem Fo.cost_on {g h : Int → Int} : ∀ (F : Fo) (p : Int), (∀ x ∈ F.labs, g x = h x) → g p = h p → F.cost g p = F.cost h p
  | .nil, _, _, _ => rfl
  | .cons w k r, p, e, ep => by
    show (if g w = g p then 0 else 1) + k.cost g w + r.cost g p = (if h w = h p then 0 else 1) + k.cost h w + r.cost h p
    have ew := e w List.mem_cons_self
    rw [Fo.cost_on k w (fun x hx => e x (List.mem_cons_of_mem _ (List.mem_append_left _ hx))) ew, Fo.cost_on r p (fun x hx => e x (List.mem_cons_of_mem _ (List.mem_append_right _ hx))) ep, ew, ep]
/-- a keeping costs that -/
theorem Fo.got (tn : ∀ w n, told w = some n → n ∈ nums) (hn : nums ≠ []) : ∀ (F : Fo) (p n : Int), F.labs.Nodup → p ∉ F.labs → ∃ g : Int → Int, (∀ x ∈ F.labs, ∀ m, told x = some m → g x = m) ∧ (∀ x ∈ F.labs, g x ∈ nums) ∧ g p = n ∧ F.cost g p = F.low told nums n
  | .nil, p, n, _, _ => ⟨fun _ => n, fun x hx => (nomatch hx), fun x hx => (nomatch hx), rfl, rfl⟩
  | .cons w k r, p, n, nd, np => by
    have nd : (w :: (k.labs ++ r.labs)).Nodup := nd
    have np : p ∉ w :: (k.labs ++ r.labs) := np
    rw [List.nodup_cons, List.mem_append, List.nodup_append] at nd
    rw [List.mem_cons, List.mem_append] at np
    obtain ⟨nw, nk, nr, nkr⟩ := nd
    obtain ⟨a, ha, ea⟩ := Fo.low_got (told := told) hn k r w n
    obtain ⟨g1, g11, g12, g13, g14⟩ := Fo.got tn hn k w a nk fun z => nw (.inl z)
    obtain ⟨g2, g21, g22, g23, g24⟩ := Fo.got tn hn r p n nr fun z => np (.inr (.inr z))
    refine ⟨fun x => if x = w ∨ x ∈ k.labs then g1 x else g2 x, fun x hx m hm => ?_, fun x hx => ?_, ?_, ?_⟩
    · have hx : x ∈ w :: (k.labs ++ r.labs) := hx
      by_cases c : x = w ∨ x ∈ k.labs
      · simp only [if_pos c]
        rcases c with rfl | c
        · rw [g13]
          unfold vals at ha
          rw [hm] at ha
          exact List.mem_singleton.mp ha
        · exact g11 x c m hm
      · simp only [if_neg c]
        rw [List.mem_cons, List.mem_append] at hx
        exact g21 x (by rcases hx with h | h | h; exact absurd (.inl h) c; exact absurd (.inr h) c; exact h) m hm
    · have hx : x ∈ w :: (k.labs ++ r.labs) := hx
      by_cases c : x = w ∨ x ∈ k.labs
      · simp only [if_pos c]
        rcases c with rfl | c
        · rw [g13]
          exact vals_sub tn x a ha
        · exact g12 x c
      · simp only [if_neg c]
        rw [List.mem_cons, List.mem_append] at hx
        exact g22 x (by rcases hx with h | h | h; exact absurd (.inl h) c; exact absurd (.inr h) c; exact h)
    · have c : ¬ (p = w ∨ p ∈ k.labs) := fun z => np (z.elim .inl fun h => .inr (.inl h))
      simp only [if_neg c]
      exact g23
    · have cp : ¬ (p = w ∨ p ∈ k.labs) := fun z => np (z.elim .inl fun h => .inr (.inl h))
      have e1 : k.cost (fun x => if x = w ∨ x ∈ k.labs then g1 x else g2 x) w = k.cost g1 w := Fo.cost_on k w (fun x hx => by simp only [if_pos (Or.inr hx : x = w ∨ x ∈ k.labs)]) (by simp)
      have e2 : r.cost (fun x => if x = w ∨ x ∈ k.labs then g1 x else g2 x) p = r.cost g2 p := Fo.cost_on r p (fun x hx => by
        have c : ¬ (x = w ∨ x ∈ k.labs) := fun z => z.elim (fun e => nw (.inr (e ▸ hx))) fun h => nkr x h x hx rfl
        simp only [if_neg c]) (by simp only [if_neg cp])
      show (if (if w = w ∨ w ∈ k.labs then g1 w else g2 w) = (if p = w ∨ p ∈ k.labs then g1 p else g2 p) then 0 else 1) + _ + _ = _
      rw [e1, e2, if_pos (Or.inl rfl), if_neg cp, ea, g14, g24, g13, g23]
      rfl
end

/-! ### what hangs beneath a root is the whole tree -/
def cstI (f : Int → Int) (rs : List (Int × Int)) : Int := ((rs.filter fun q => !decide (f q.1 = f q.2)).length : Int)
def mkE (a b : Int) : Int × Int := (min a b, max a b)
theorem mkE_comm (a b : Int) : mkE a b = mkE b a := by
  unfold mkE
  rw [Int.min_comm, Int.max_comm]
def Fo.eds : Int → Fo → List (Int × Int)
  | _, .nil => []
  | p, .cons w k r => mkE p w :: (k.eds w ++ r.eds p)
theorem Fo.eds_len : ∀ (F : Fo) (p : Int), (F.eds p).length = F.labs.length
  | .nil, _ => rfl
  | .cons w k r, p => by
    show (mkE p w :: (k.eds w ++ r.eds p)).length = (w :: (k.labs ++ r.labs)).length
    rw [List.length_cons, List.length_cons, List.length_append, List.length_append, Fo.eds_len k, Fo.eds_len r]
theorem Fo.cost_eds (g : Int → Int) : ∀ (F : Fo) (p : Int), F.cost g p = cstI g (F.eds p)
  | .nil, _ => rfl
  | .cons w k r, p => by
    show (if g w = g p then 0 else 1) + k.cost g w + r.cost g p = cstI g (mkE p w :: (k.eds w ++ r.eds p))
    rw [Fo.cost_eds g k, Fo.cost_eds g r]
    unfold cstI
    rw [List.filter_cons, List.filter_append]
    have e : (g (mkE p w).1 = g (mkE p w).2) ↔ g w = g p := by
      unfold mkE
      by_cases c : p ≤ w
      · rw [Int.min_eq_left c, Int.max_eq_right c]
        exact eq_comm
      · rw [Int.min_eq_right (by omega), Int.max_eq_left (by omega)]
    by_cases c : g w = g p
    · rw [if_pos c, if_neg (by simp [e.mpr c]), List.length_append]
      omega
    · rw [if_neg c, if_pos (by rw [Bool.not_eq_true', decide_eq_false_iff_not]; exact fun h => c (e.mp h)), List.length_cons, List.length_append]
      omega
theorem Fo.tops_in : ∀ (F : Fo) (p u : Int), u ∈ F.tops → mkE p u ∈ F.eds p ∧ u ∈ F.labs
  | .nil, _, _, h => by cases h
  | .cons w k r, p, u, h => by
    show mkE p u ∈ mkE p w :: (k.eds w ++ r.eds p) ∧ u ∈ w :: (k.labs ++ r.labs)
    rcases List.mem_cons.mp h with e | h
    · rw [e]
      exact ⟨List.mem_cons_self, List.mem_cons_self⟩
    · obtain ⟨a, b⟩ := Fo.tops_in r p u h
      exact ⟨List.mem_cons_of_mem _ (List.mem_append_right _ a), List.mem_cons_of_mem _ (List.mem_append_right _ b)⟩
theorem Fo.closed {nb : Int → List Int} : ∀ (F : Fo) (p : Int), F.Deep nb p → ∀ x ∈ F.labs, ∀ y ∈ nb x, mkE x y ∈ F.eds p ∧ (y = p ∨ y ∈ F.labs)
  | .nil, _, _, x, h, _, _ => by cases h
  | .cons w k r, p, d, x, hx, y, hy => by
    show mkE x y ∈ mkE p w :: (k.eds w ++ r.eds p) ∧ (y = p ∨ y ∈ w :: (k.labs ++ r.labs))
    have hx : x ∈ w :: (k.labs ++ r.labs) := hx
    rw [List.mem_cons, List.mem_append] at hx
    rcases hx with rfl | h | h
    · by_cases c : y = p
      · rw [c, mkE_comm]
        exact ⟨List.mem_cons_self, .inl rfl⟩
      · obtain ⟨a, b⟩ := Fo.tops_in k x y ((d.1.2 y).mpr ⟨hy, c⟩)
        exact ⟨List.mem_cons_of_mem _ (List.mem_append_left _ a), .inr (List.mem_cons_of_mem _ (List.mem_append_left _ b))⟩
    · obtain ⟨a, b⟩ := Fo.closed k w d.2.1 x h y hy
      refine ⟨List.mem_cons_of_mem _ (List.mem_append_left _ a), .inr ?_⟩
      rcases b with rfl | b
      · exact List.mem_cons_self
      · exact List.mem_cons_of_mem _ (List.mem_append_left _ b)
    · obtain ⟨a, b⟩ := Fo.closed r p d.2.2 x h y hy
      exact ⟨List.mem_cons_of_mem _ (List.mem_append_right _ a), b.imp_right fun b => List.mem_cons_of_mem _ (List.mem_append_right _ b)⟩
theorem perm_of {α : Type} [DecidableEq α] : ∀ {l m : List α}, l.Nodup → (∀ x ∈ l, x ∈ m) → m.length ≤ l.length → l.Perm m
  | [], m, _, _, h => by
    cases m with
    | nil => exact .refl _
    | cons a m => simp at h
  | a :: l, m, n, h, le => by
    rw [List.nodup_cons] at n
    have ha := h a List.mem_cons_self
    have el := List.length_erase_of_mem ha
    have p := perm_of (l := l) (m := m.erase a) n.2 (fun x hx => (List.mem_erase_of_ne (fun z : x = a => n.1 (by rw [← z]; exact hx))).mpr (h x (List.mem_cons_of_mem _ hx))) (by rw [List.length_cons] at le; omega)
    exact (p.cons a).trans (List.perm_cons_erase ha).symm
section
variable {D : Int → Int → Int} {ever root : Int} {liv ks : List Int} {nb : Int → List Int} {told : Int → Option Int} {nums : List Int}
theorem Tr3.kids_apart (z : Tr3 D ever liv ks nb) (hr : root ∈ ks) {w u u2 x : Int} (hw : w ∈ ks) (hu : u ∈ nb w) (hu2 : u2 ∈ nb w) (n : u ≠ u2) (b : Btw D u w root) (b2 : Btw D u2 w root) (hx : x ∈ ks) (h : Btw D x u root) (h2 : Btw D x u2 root) : False := by
  have U := fun {u} (h : u ∈ ks) => z.hU u h
  have k1 := ((z.rp.adj w hw u).mp hu)
  have k2 := ((z.rp.adj w hw u2).mp hu2)
  have th := z.rp.through z.t z.hU hw hu hu2 n
  have ln := z.t.line (U hx) (U k1.1) (U hr) (U k2.1) h h2
  have s1 := z.t.sym u u2 (U k1.1) (U k2.1)
  have s2 := z.t.sym w u2 (U hw) (U k2.1)
  have s3 := z.t.sym w u (U hw) (U k1.1)
  have p1 := z.t.pos (U hw) (U k2.1) (Ne.symm k2.2.1)
  have p2 := z.t.pos (U hw) (U k1.1) (Ne.symm k1.2.1)
  unfold Btw at *
  rcases ln with l | l <;> omega
theorem Fo.under (z : Tr3 D ever liv ks nb) (hr : root ∈ ks) : ∀ (F : Fo) (w : Int) (bk : Option Int), w ∈ ks → F.Deep nb w → F.tops.Nodup → (∀ u ∈ F.tops, u ∈ nb w ∧ some u ≠ bk) → (w = root ∧ bk = none ∨ ∃ b, bk = some b ∧ b ∈ nb w ∧ Btw D w b root) →
    F.labs.Nodup ∧ ∀ x ∈ F.labs, x ∈ ks ∧ ∃ u ∈ F.tops, Btw D x u root ∧ Btw D u w root
  | .nil, _, _, _, _, _, _, _ => ⟨List.nodup_nil, fun x hx => by cases hx⟩
  | .cons u k r, w, bk, hw, d, nt, sub, bw => by
    have U := fun {u} (h : u ∈ ks) => z.hU u h
    obtain ⟨hu, nbk⟩ := sub u List.mem_cons_self
    obtain ⟨u1, u2, _⟩ := (z.rp.adj w hw u).mp hu
    have nt : (u :: r.tops).Nodup := nt
    rw [List.nodup_cons] at nt
    have hs := z.rp.sym z.t z.hU hw hu
    have bu : Btw D u w root := z.back hr hw hu (by
      rcases bw with ⟨e, _⟩ | ⟨b, e, b1, b2⟩
      · exact .inl e
      · exact .inr ⟨b, b1, b2, fun e2 => nbk (by rw [e, e2])⟩)
    obtain ⟨n1, i1⟩ := Fo.under z hr k u (some w) u1 d.2.1 d.1.1 (fun x hx => by
      obtain ⟨a, b⟩ := (d.1.2 x).mp hx
      exact ⟨a, fun e => b (by injection e)⟩) (.inr ⟨w, rfl, hs, bu⟩)
    obtain ⟨n2, i2⟩ := Fo.under z hr r w bk hw d.2.2 nt.2 (fun x hx => sub x (List.mem_cons_of_mem _ hx)) bw
    have far : ∀ x ∈ k.labs, x ∈ ks ∧ Btw D x u root ∧ x ≠ u := fun x hx => by
      obtain ⟨xk, v, hv, bx, bv⟩ := i1 x hx
      have hv1 := ((d.1.2 v).mp hv).1
      obtain ⟨v1, v2, _⟩ := (z.rp.adj u u1 v).mp hv1
      have t1 := z.t.tri (U xk) (U u1) (U v1)
      have t2 := z.t.tri (U xk) (U hr) (U u1)
      have p := z.t.pos (U v1) (U u1) v2
      have q := z.t.nn x v (U xk) (U v1)
      unfold Btw at *
      refine ⟨xk, by omega, fun e => ?_⟩
      rw [e] at bx q
      omega
    refine ⟨?_, fun x hx => ?_⟩
    · show (u :: (k.labs ++ r.labs)).Nodup
      rw [List.nodup_cons, List.mem_append, List.nodup_append]
      refine ⟨fun h => ?_, n1, n2, fun x hx y hy e => ?_⟩
      · rcases h with h | h
        · exact (far u h).2.2 rfl
        · obtain ⟨uk, v, hv, bx, bv⟩ := i2 u h
          have nuv : u ≠ v := fun e => nt.1 (e ▸ hv)
          refine z.kids_apart hr hw hu (sub v (List.mem_cons_of_mem _ hv)).1 nuv bu bv uk ?_ bx
          have := z.t.self u (U uk)
          unfold Btw
          omega
      · obtain ⟨yk, v, hv, bx, bv⟩ := i2 y hy
        have nuv : u ≠ v := fun e => nt.1 (e ▸ hv)
        subst e
        exact z.kids_apart hr hw hu (sub v (List.mem_cons_of_mem _ hv)).1 nuv bu bv yk (far x hx).2.1 bx
    · have hx : x ∈ u :: (k.labs ++ r.labs) := hx
      rw [List.mem_cons, List.mem_append] at hx
      rcases hx with rfl | h | h
      · refine ⟨u1, x, List.mem_cons_self, ?_, bu⟩
        have := z.t.self x (U u1)
        unfold Btw
        omega
      · exact ⟨(far x h).1, u, List.mem_cons_self, (far x h).2.1, bu⟩
      · obtain ⟨xk, v, hv, bx⟩ := i2 x h
        exact ⟨xk, v, List.mem_cons_of_mem _ hv, bx⟩
theorem Fo.Is.labs {F : Fo} (h : F.Is nb root none) (z : Tr3 D ever liv ks nb) (hr : root ∈ ks) : F.labs.Nodup ∧ root ∉ F.labs ∧ ∀ x ∈ F.labs, x ∈ ks := by
  obtain ⟨a, b⟩ := Fo.under z hr F root none hr h.2 h.1.1 (fun u hu => (h.1.2 u).mp hu) (.inl ⟨rfl, rfl⟩)
  refine ⟨a, fun hx => ?_, fun x hx => (b x hx).1⟩
  obtain ⟨_, u, hu, b1, b2⟩ := b root hx
  have U := fun {u} (h : u ∈ ks) => z.hU u h
  obtain ⟨u1, u2, _⟩ := (z.rp.adj root hr u).mp ((h.1.2 u).mp hu).1
  have p := z.t.pos (U hr) (U u1) (Ne.symm u2)
  have s := z.t.self root (U hr)
  have q := z.t.nn u root (U u1) (U hr)
  unfold Btw at b1
  omega
theorem Fo.Is.all {F : Fo} (h : F.Is nb root none) (z : Tr3 D ever liv ks nb) (hr : root ∈ ks) : ∀ x ∈ ks, x = root ∨ x ∈ F.labs := by
  have U := fun {u} (h : u ∈ ks) => z.hU u h
  have key : ∀ n : Nat, ∀ x ∈ ks, D x root ≤ n → x = root ∨ x ∈ F.labs := by
    intro n
    induction n with
    | zero =>
      intro x hx h0
      exact .inl (z.t.eq x root (U hx) (U hr) (by have := z.t.nn x root (U hx) (U hr); omega))
    | succ n ih =>
      intro x hx h0
      by_cases c : x = root
      · exact .inl c
      · obtain ⟨y, hy, bt⟩ := z.rp.toward z.t z.hU hx hr c
        obtain ⟨y1, y2, _⟩ := (z.rp.adj x hx y).mp hy
        have p := z.t.pos (U hx) (U y1) (Ne.symm y2)
        unfold Btw at bt
        have hs := z.rp.sym z.t z.hU hx hy
        rcases ih y y1 (by omega) with e | m
        · rw [e] at hs
          exact .inr (Fo.tops_in F root x ((h.1.2 x).mpr ⟨hs, fun e => by cases e⟩)).2
        · rcases (Fo.closed F root h.2 y m x hs).2 with e | m
          · exact .inl e
          · exact .inr m
  intro x hx
  have := z.t.nn x root (U hx) (U hr)
  exact key (D x root).toNat x hx (by omega)
theorem Fo.Is.rows {F : Fo} (h : F.Is nb root none) (z : Tr3 D ever liv ks nb) (hr : root ∈ ks) {rs : List (Int × Int)} (nd : rs.Nodup) (ro : ∀ q, q ∈ rs ↔ q.1 ∈ ks ∧ q.2 ∈ nb q.1 ∧ q.1 < q.2) : rs.Perm (F.eds root) := by
  obtain ⟨a, b, c⟩ := h.labs z hr
  have len := z.rows_count nd ro hr
  refine perm_of nd (fun q hq => ?_) ?_
  · obtain ⟨q1, q2, q3⟩ := (ro q).mp hq
    have e : q = mkE q.1 q.2 := by
      unfold mkE
      rw [Int.min_eq_left (by omega), Int.max_eq_right (by omega)]
    rw [e]
    rcases h.all z hr q.1 q1 with e | m
    · rw [e]
      exact (Fo.tops_in F root q.2 ((h.1.2 _).mpr ⟨by rw [← e]; exact q2, fun e => by cases e⟩)).1
    · exact (Fo.closed F root h.2 q.1 m q.2 q2).1
  · rw [Fo.eds_len]
    have := sub_len (l := root :: F.labs) (m := ks) (List.nodup_cons.mpr ⟨b, a⟩) fun x hx => by
      rcases List.mem_cons.mp hx with rfl | hx
      · exact hr
      · exact c x hx
    rw [List.length_cons] at this
    omega
theorem Fo.Is.cst {F : Fo} (h : F.Is nb root none) (z : Tr3 D ever liv ks nb) (hr : root ∈ ks) {rs : List (Int × Int)} (nd : rs.Nodup) (ro : ∀ q, q ∈ rs ↔ q.1 ∈ ks ∧ q.2 ∈ nb q.1 ∧ q.1 < q.2) (g : Int → Int) : cstI g rs = F.cost g root := by
  rw [Fo.cost_eds]
  unfold cstI
  rw [((h.rows z hr nd ro).filter _).length_eq]
theorem Fo.Deep.red {told : Int → Option Int} (z : Tr3 D ever liv ks nb) (ht : ∀ x ∈ liv, told x ≠ none) : ∀ (F : Fo) (p : Int), F.Deep nb p → (∀ x ∈ F.labs, x ∈ ks) → F.Red told
  | .nil, _, _, _ => trivial
  | .cons w k r, p, d, h => by
    refine ⟨fun tw e => ?_, Fo.Deep.red z ht k w d.2.1 fun x hx => h x (List.mem_cons_of_mem _ (List.mem_append_left _ hx)), Fo.Deep.red z ht r p d.2.2 fun x hx => h x (List.mem_cons_of_mem _ (List.mem_append_right _ hx))⟩
    have hw := h w List.mem_cons_self
    have n3 := z.red w hw fun m => ht w m tw
    have l1 := sub_len (l := nb w) (m := [p]) (z.rp.nd w hw) fun x hx => by
      refine List.mem_singleton.mpr (Classical.byContradiction fun n => ?_)
      have := (d.1.2 x).mpr ⟨hx, n⟩
      rw [e] at this
      cases this
    rw [List.length_singleton] at l1
    omega
def Ext (told : Int → Option Int) (ks : List Int) (g : Int → Int) : Prop := ∀ x ∈ ks, ∀ n, told x = some n → g x = n
/-- the numbers of the root: what costs at the least each of them -/
theorem Fo.Is.low_le {F : Fo} (h : F.Is nb root none) (z : Tr3 D ever liv ks nb) (hr : root ∈ ks) (ht : ∀ x ∈ liv, told x ≠ none) (tn : ∀ w n, told w = some n → n ∈ nums) (hn : nums ≠ []) {rs : List (Int × Int)} (nd : rs.Nodup) (ro : ∀ q, q ∈ rs ↔ q.1 ∈ ks ∧ q.2 ∈ nb q.1 ∧ q.1 < q.2) {g : Int → Int} (hg : Ext told ks g) :
    F.low told nums (g root) ≤ cstI g rs := by
  obtain ⟨a, b, c⟩ := h.labs z hr
  rw [h.cst z hr nd ro]
  exact Fo.least tn hn F root (Fo.Deep.red z ht F root h.2 c) fun x hx => hg x (c x hx)
theorem Fo.Is.low_got {F : Fo} (h : F.Is nb root none) (z : Tr3 D ever liv ks nb) (hr : root ∈ ks) (tn : ∀ w n, told w = some n → n ∈ nums) (hn : nums ≠ []) {rs : List (Int × Int)} (nd : rs.Nodup) (ro : ∀ q, q ∈ rs ↔ q.1 ∈ ks ∧ q.2 ∈ nb q.1 ∧ q.1 < q.2) {n : Int} (hv : n ∈ vals told nums root) :
    ∃ g, Ext told ks g ∧ (∀ x ∈ ks, g x ∈ nums) ∧ g root = n ∧ cstI g rs = F.low told nums n := by
  obtain ⟨a, b, c⟩ := h.labs z hr
  obtain ⟨g, g1, g2, g3, g4⟩ := Fo.got (told := told) tn hn F root n a b
  refine ⟨g, fun x hx m hm => ?_, fun x hx => ?_, g3, by rw [h.cst z hr nd ro, g4]⟩
  · rcases h.all z hr x hx with rfl | hx
    · rw [g3]
      unfold vals at hv
      rw [hm] at hv
      exact List.mem_singleton.mp hv
    · exact g1 x hx m hm
  · rcases h.all z hr x hx with rfl | hx
    · rw [g3]
      exact vals_sub tn x n hv
    · exact g2 x hx
/-- the least cost of all keepings that have what is told -/
structure Lst (told : Int → Option Int) (nums ks : List Int) (rs : List (Int × Int)) (m : Int) : Prop where
  le : ∀ g, Ext told ks g → m ≤ cstI g rs
  got : ∃ g, Ext told ks g ∧ (∀ x ∈ ks, g x ∈ nums) ∧ cstI g rs = m
theorem Lst.uniq {rs : List (Int × Int)} {m m' : Int} (h : Lst told nums ks rs m) (h' : Lst told nums ks rs m') : m = m' := by
  obtain ⟨g, g1, _, g3⟩ := h.got
  obtain ⟨g', g1', _, g3'⟩ := h'.got
  have := h.le g' g1'
  have := h'.le g g1
  omega
theorem Fo.Is.bst {F : Fo} (h : F.Is nb root none) (z : Tr3 D ever liv ks nb) (hr : root ∈ ks) (ht : ∀ x ∈ liv, told x ≠ none) (tn : ∀ w n, told w = some n → n ∈ nums) (hn : nums ≠ []) {rs : List (Int × Int)} (nd : rs.Nodup) (ro : ∀ q, q ∈ rs ↔ q.1 ∈ ks ∧ q.2 ∈ nb q.1 ∧ q.1 < q.2) :
    Lst told nums ks rs (F.bst told nums root) := by
  have ne : (vals told nums root).map (F.low told nums) ≠ [] := fun e => vals_ne (told := told) hn root (List.map_eq_nil_iff.mp e)
  obtain ⟨s1, s2⟩ := minL_spec ne
  refine ⟨fun g hg => ?_, ?_⟩
  · have le := h.low_le z hr ht tn hn nd ro hg
    have key : ∃ a ∈ vals told nums root, F.low told nums a ≤ F.low told nums (g root) := by
      by_cases c : g root ∈ vals told nums root
      · exact ⟨_, c, Int.le_refl _⟩
      · have tw : told root = none := by
          cases et : told root with
          | none => rfl
          | some n =>
            refine absurd ?_ c
            unfold vals
            rw [et]
            exact List.mem_singleton.mpr (hg root hr n et)
        have ev : vals told nums root = nums := by
          unfold vals
          rw [tw]
        rw [ev] at c ⊢
        obtain ⟨b, hb, le⟩ := Fo.low_in tn hn c F (fun e => by
          have n3 := z.red root hr fun m => ht root m tw
          have l1 := sub_len (l := nb root) (m := []) (z.rp.nd root hr) fun x hx => by
            have := (h.1.2 x).mpr ⟨hx, fun e => by cases e⟩
            rw [e] at this
            exact this
          rw [List.length_nil] at l1
          omega)
        exact ⟨b, hb, by omega⟩
    obtain ⟨a, ha, la⟩ := key
    have := s2 _ (List.mem_map.mpr ⟨a, ha, rfl⟩)
    unfold Fo.bst
    omega
  · obtain ⟨n, hv, e⟩ := List.mem_map.mp s1
    obtain ⟨g, g1, g2, _, g4⟩ := h.low_got z hr tn hn nd ro hv
    exact ⟨g, g1, g2, by rw [g4, e]; rfl⟩
/-- with one number told more -/
def tell1 (told : Int → Option Int) (w n : Int) : Int → Option Int := fun x => if x = w then some n else told x
theorem Fo.Is.lown {F : Fo} (h : F.Is nb root none) (z : Tr3 D ever liv ks nb) (hr : root ∈ ks) (ht : ∀ x ∈ liv, told x ≠ none) (tn : ∀ w n, told w = some n → n ∈ nums) (hn : nums ≠ []) {rs : List (Int × Int)} (nd : rs.Nodup) (ro : ∀ q, q ∈ rs ↔ q.1 ∈ ks ∧ q.2 ∈ nb q.1 ∧ q.1 < q.2) {n : Int} (tr : told root = none) (hv : n ∈ nums) :
    Lst (tell1 told root n) nums ks rs (F.low told nums n) := by
  have ev : vals told nums root = nums := by
    unfold vals
    rw [tr]
  have ex : ∀ {g}, Ext (tell1 told root n) ks g ↔ Ext told ks g ∧ g root = n := fun {g} => by
    constructor
    · intro hg
      refine ⟨fun x hx m hm => hg x hx m ?_, hg root hr n (by unfold tell1; rw [if_pos rfl])⟩
      unfold tell1
      rw [if_neg fun e => by rw [e, tr] at hm; cases hm]
      exact hm
    · rintro ⟨hg, e⟩ x hx m hm
      unfold tell1 at hm
      by_cases c : x = root
      · rw [if_pos c] at hm
        injection hm with hm
        rw [c, e, hm]
      · rw [if_neg c] at hm
        exact hg x hx m hm
  refine ⟨fun g hg => ?_, ?_⟩
  · obtain ⟨h1, h2⟩ := ex.mp hg
    have := h.low_le z hr ht tn hn nd ro h1
    rw [h2] at this
    exact this
  · obtain ⟨g, g1, g2, g3, g4⟩ := h.low_got (told := told) z hr tn hn nd ro (n := n) (by rw [ev]; exact hv)
    exact ⟨g, ex.mpr ⟨g1, g3⟩, g2, g4⟩
end
section
variable {D : Int → Int → Int} {ever root : Int} {liv ks : List Int} {nb : Int → List Int}
theorem Fo.len_le (z : Tr3 D ever liv ks nb) (hrt : root ∈ ks) {F : Fo} {w : Int} {bk : Option Int} (hw : w ∈ ks) (d : F.Deep nb w) (nt : F.tops.Nodup) (sub : ∀ u ∈ F.tops, u ∈ nb w ∧ some u ≠ bk) (bw : w = root ∧ bk = none ∨ ∃ b, bk = some b ∧ b ∈ nb w ∧ Btw D w b root) : F.labs.length ≤ ks.length := by
  obtain ⟨a, b⟩ := Fo.under z hrt F w bk hw d nt sub bw
  exact sub_len a fun x hx => (b x hx).1
theorem Fo.go_keys {told : Int → Option Int} {nums : List Int} : ∀ (F : Fo) (a : List Wy), (F.go told nums a).map (·.1) = a.map (·.1)
  | .nil, _ => rfl
  | .cons w k r, a => by
    show (r.go told nums (tiedOn a (k.go told nums (ini told nums w)))).map (·.1) = _
    rw [Fo.go_keys r]
    unfold tiedOn
    rw [List.map_map]
    rfl
theorem ini_keys {told : Int → Option Int} {nums : List Int} (w : Int) : (ini told nums w).map (·.1) = vals told nums w := by
  unfold ini
  rw [List.map_map]
  exact List.map_id _
theorem vals_nd {told : Int → Option Int} {nums : List Int} (h : nums.Nodup) (w : Int) : (vals told nums w).Nodup := by
  unfold vals
  cases told w with
  | none => exact h
  | some n => simp
end

/-! ### how many there can be at the most -/
def Bnd (e : Nat) (qs : List Wy) : Prop := ∀ q ∈ qs, 0 ≤ q.2.2 ∧ q.2.2 ≤ ((2 ^ (7 * e) : Nat) : Int)
theorem Bnd.mono {e e' : Nat} {qs : List Wy} (h : Bnd e qs) (le : e ≤ e') : Bnd e' qs := fun q hq => by
  obtain ⟨a, b⟩ := h q hq
  have := Nat.pow_le_pow_right (n := 2) (by decide) (show 7 * e ≤ 7 * e' by omega)
  exact ⟨a, by omega⟩
theorem sum_bnd {b : Int} (hb : 0 ≤ b) : ∀ {l : List Int}, (∀ x ∈ l, 0 ≤ x ∧ x ≤ b) → 0 ≤ l.sum ∧ l.sum ≤ l.length * b
  | [], _ => ⟨Int.le_refl _, by simp⟩
  | a :: l, h => by
    obtain ⟨h1, h2⟩ := sum_bnd hb fun x hx => h x (List.mem_cons_of_mem _ hx)
    obtain ⟨h3, h4⟩ := h a List.mem_cons_self
    rw [List.sum_cons, List.length_cons]
    have e : ((l.length + 1 : Nat) : Int) * b = (l.length : Int) * b + b := by
      rw [Int.natCast_add, Int.add_mul]
      simp
    rw [e]
    omega
theorem bestM_bnd {e : Nat} {qs : List Wy} (h : Bnd e qs) (l : qs.length ≤ 64) : 0 ≤ bestM qs ∧ bestM qs ≤ 64 * ((2 ^ (7 * e) : Nat) : Int) := by
  have hb : (0 : Int) ≤ ((2 ^ (7 * e) : Nat) : Int) := Int.natCast_nonneg _
  obtain ⟨a, b⟩ := sum_bnd hb (l := (qs.filter fun q => decide (q.2.1 = bestC qs)).map fun q => q.2.2) fun x hx => by
    obtain ⟨q, hq, rfl⟩ := List.mem_map.mp hx
    exact h q (List.mem_filter.mp hq).1
  refine ⟨a, Int.le_trans b ?_⟩
  rw [List.length_map]
  have := List.length_filter_le (fun q : Wy => decide (q.2.1 = bestC qs)) qs
  exact Int.mul_le_mul_of_nonneg_right (by omega) hb
theorem there_bnd {e : Nat} {qs : List Wy} (h : Bnd e qs) (l : qs.length ≤ 64) (n : Int) : 0 ≤ (there qs n).2 ∧ (there qs n).2 ≤ 65 * ((2 ^ (7 * e) : Nat) : Int) := by
  obtain ⟨a, b⟩ := bestM_bnd h l
  have hb : (0 : Int) ≤ ((2 ^ (7 * e) : Nat) : Int) := Int.natCast_nonneg _
  unfold there
  cases hw : wlook qs n with
  | none => exact ⟨a, by dsimp only; omega⟩
  | some cm =>
    obtain ⟨c, m⟩ := cm
    have hm : 0 ≤ m ∧ m ≤ ((2 ^ (7 * e) : Nat) : Int) := by
      unfold wlook at hw
      cases hf : qs.find? fun q => decide (q.1 = n) with
      | none => rw [hf] at hw; cases hw
      | some q =>
        rw [hf] at hw
        have e2 : q.2 = (c, m) := by injection hw
        have := h q (List.mem_of_find?_eq_some hf)
        rw [e2] at this
        exact this
    dsimp only
    split
    · exact ⟨hm.1, by dsimp only; omega⟩
    · split
      · exact ⟨by dsimp only; omega, by dsimp only; omega⟩
      · exact ⟨a, by dsimp only; omega⟩
theorem tied_bnd {e e' : Nat} {qs bs : List Wy} (h : Bnd e qs) (h' : Bnd e' bs) (l : bs.length ≤ 64) : Bnd (e + e' + 1) (tiedOn qs bs) := fun q hq => by
  obtain ⟨r, hr, rfl⟩ := List.mem_map.mp hq
  obtain ⟨a, b⟩ := h r hr
  obtain ⟨c, d⟩ := there_bnd h' l r.1
  refine ⟨Int.mul_nonneg a c, Int.le_trans (Int.mul_le_mul b d c (Int.natCast_nonneg _)) ?_⟩
  have e1 : (2 ^ (7 * (e + e' + 1)) : Nat) = 2 ^ (7 * e) * (128 * 2 ^ (7 * e')) := by
    rw [show 7 * (e + e' + 1) = 7 * e + (7 + 7 * e') by omega, Nat.pow_add, Nat.pow_add]
  rw [e1, Int.natCast_mul]
  refine Int.mul_le_mul_of_nonneg_left ?_ (Int.natCast_nonneg _)
  have : (0 : Int) ≤ ((2 ^ (7 * e') : Nat) : Int) := Int.natCast_nonneg _
  omega
theorem ini_bnd {told : Int → Option Int} {nums : List Int} (w : Int) : Bnd 0 (ini told nums w) := fun q hq => by
  obtain ⟨n, _, rfl⟩ := List.mem_map.mp hq
  exact ⟨by dsimp only; omega, by dsimp only; decide⟩
theorem ini_len {told : Int → Option Int} {nums : List Int} (hn : nums.length ≤ 64) (w : Int) : (ini told nums w).length ≤ 64 := by
  unfold ini vals
  rw [List.length_map]
  cases told w with
  | none => exact hn
  | some n => simp
theorem Fo.go_len {told : Int → Option Int} {nums : List Int} : ∀ (F : Fo) (a : List Wy), (F.go told nums a).length = a.length
  | .nil, _ => rfl
  | .cons w k r, a => by
    show (r.go told nums (tiedOn a (k.go told nums (ini told nums w)))).length = _
    rw [Fo.go_len r]
    unfold tiedOn
    rw [List.length_map]
theorem Fo.go_bnd {told : Int → Option Int} {nums : List Int} (hn : nums.length ≤ 64) : ∀ (F : Fo) (e : Nat) (a : List Wy), Bnd e a → Bnd (e + F.labs.length) (F.go told nums a)
  | .nil, _, _, h => h
  | .cons w k r, e, a, h => by
    have i1 := Fo.go_bnd (told := told) hn k 0 (ini told nums w) (ini_bnd w)
    have i2 := tied_bnd h i1 (by rw [Fo.go_len]; exact ini_len hn w)
    have i3 := Fo.go_bnd (told := told) hn r _ _ i2
    refine i3.mono ?_
    show _ ≤ e + (w :: (k.labs ++ r.labs)).length
    rw [List.length_cons, List.length_append]
    omega
theorem Fo.at_bnd {told : Int → Option Int} {nums : List Int} (hn : nums.length ≤ 64) (F : Fo) (w : Int) : Bnd F.labs.length (F.at_ told nums w) := by
  have := Fo.go_bnd (told := told) hn F 0 (ini told nums w) (ini_bnd w)
  rw [Nat.zero_add] at this
  exact this
theorem bnd_log {e : Nat} {x : Int} (h0 : 0 ≤ x) (h : x ≤ 65 * ((2 ^ (7 * e) : Nat) : Int)) : x.natAbs.log2 ≤ 7 * e + 7 := by
  by_cases c : x.natAbs = 0
  · rw [c]
    exact Nat.zero_le _
  · have : x.natAbs < 2 ^ (7 * e + 7) := by
      rw [Nat.pow_add]
      omega
    have := (Nat.log2_lt c).mpr this
    omega

/-! ### data of any kind -/
section
variable {K : PySem.W.Frag} {H H' : Hp} {ws : List Addr}
mutual
/-- data none of whose lists is in ws -/
inductive Dx (K : PySem.W.Frag) (H : Hp) (ws : List Addr) : V → PyData → Prop
  | non : Dx K H ws .non .none
  | bl (b : Bool) : Dx K H ws (.bl b) (.bool b)
  | int (i : Int) : Dx K H ws (.int i) (.int i)
  | str (x : Str) : Dx K H ws (.str x) (.str x)
  | lst {a : Addr} {xs : List V} {ds : List PyData} : a ∉ ws → H a = some (.lst xs) → DxAll K H ws xs ds → Dx K H ws (.ref a) (.list ds)
  | tup {a : Addr} {xs : List V} {ds : List PyData} : SqT K H a xs → DxAll K H ws xs ds → Dx K H ws (.ref a) (.tuple ds)
inductive DxAll (K : PySem.W.Frag) (H : Hp) (ws : List Addr) : List V → List PyData → Prop
  | nil : DxAll K H ws [] []
  | cons {v : V} {vs : List V} {d : PyData} {ds : List PyData} : Dx K H ws v d → DxAll K H ws vs ds → DxAll K H ws (v :: vs) (d :: ds)
end
mutual
theorem Dx.dp : ∀ (d : PyData) (v : V), Dx K H ws v d → Dp K H v d
  | .none, _, h => by cases h; exact .non
  | .bool b, _, h => by cases h; exact .bl b
  | .int i, _, h => by cases h; exact .int i
  | .str x, _, h => by cases h; exact .str x
  | .list ds, _, h => by
    cases h with
    | lst _ hs ha => exact .lst (SqL.of hs) (DxAll.dp ds _ ha)
  | .tuple ds, _, h => by
    cases h with
    | tup hs ha => exact .tup hs (DxAll.dp ds _ ha)
  | .dict _, _, h => by cases h
theorem DxAll.dp : ∀ (ds : List PyData) (vs : List V), DxAll K H ws vs ds → DpAll K H vs ds
  | [], _, h => by cases h; exact .nil
  | d :: ds, _, h => by
    cases h with
    | cons h1 h2 => exact .cons (Dx.dp d _ h1) (DxAll.dp ds _ h2)
end
mutual
theorem Dx.kp (k : Kp ws H H') : ∀ (d : PyData) (v : V), Dx K H ws v d → Dx K H' ws v d
  | .none, _, h => by cases h; exact .non
  | .bool b, _, h => by cases h; exact .bl b
  | .int i, _, h => by cases h; exact .int i
  | .str x, _, h => by cases h; exact .str x
  | .list ds, _, h => by
    cases h with
    | lst n hs ha => exact .lst n (k.at_ _ _ hs n) (DxAll.kp k ds _ ha)
  | .tuple ds, _, h => by
    cases h with
    | tup hs ha => exact .tup (k.seqT hs) (DxAll.kp k ds _ ha)
  | .dict _, _, h => by cases h
theorem DxAll.kp (k : Kp ws H H') : ∀ (ds : List PyData) (vs : List V), DxAll K H ws vs ds → DxAll K H' ws vs ds
  | [], _, h => by cases h; exact .nil
  | d :: ds, _, h => by
    cases h with
    | cons h1 h2 => exact .cons (Dx.kp k d _ h1) (DxAll.kp k ds _ h2)
end
mutual
theorem dx_imm : ∀ (d : PyData) (v : V), imm d = true → Dp K H v d → Dx K H ws v d
  | .none, _, _, h => by cases h; exact .non
  | .bool b, _, _, h => by cases h; exact .bl b
  | .int i, _, _, h => by cases h; exact .int i
  | .str x, _, _, h => by cases h; exact .str x
  | .list ds, _, e, h => by simp [imm] at e
  | .tuple ds, _, e, h => by
    cases h with
    | tup hs ha => exact .tup hs (dxs_imm ds _ (by simpa [imm] using e) ha)
  | .dict _, _, _, h => by cases h
theorem dxs_imm : ∀ (ds : List PyData) (vs : List V), imms ds = true → DpAll K H vs ds → DxAll K H ws vs ds
  | [], _, _, h => by cases h; exact .nil
  | d :: ds, _, e, h => by
    cases h with
    | cons h1 h2 =>
      simp only [imms, Bool.and_eq_true] at e
      exact .cons (dx_imm d _ e.1 h1) (dxs_imm ds _ e.2 h2)
end
mutual
theorem Dx.wider {us : List Addr} (hu : ∀ b ∈ us, ∀ xs, H b ≠ some (.lst xs)) : ∀ (d : PyData) (v : V), Dx K H ws v d → Dx K H (us ++ ws) v d
  | .none, _, h => by cases h; exact .non
  | .bool b, _, h => by cases h; exact .bl b
  | .int i, _, h => by cases h; exact .int i
  | .str x, _, h => by cases h; exact .str x
  | .list ds, _, h => by
    cases h with
    | lst n hs ha => exact .lst (fun z => (List.mem_append.mp z).elim (fun z => hu _ z _ hs) n) hs (DxAll.wider hu ds _ ha)
  | .tuple ds, _, h => by
    cases h with
    | tup hs ha => exact .tup hs (DxAll.wider hu ds _ ha)
  | .dict _, _, h => by cases h
theorem DxAll.wider {us : List Addr} (hu : ∀ b ∈ us, ∀ xs, H b ≠ some (.lst xs)) : ∀ (ds : List PyData) (vs : List V), DxAll K H ws vs ds → DxAll K H (us ++ ws) vs ds
  | [], _, h => by cases h; exact .nil
  | d :: ds, _, h => by
    cases h with
    | cons h1 h2 => exact .cons (Dx.wider hu d _ h1) (DxAll.wider hu ds _ h2)
end
theorem dxa_len : ∀ {ds : List PyData} {vs : List V}, DxAll K H ws vs ds → vs.length = ds.length
  | [], _, h => by cases h; rfl
  | d :: ds, _, h => by
    cases h with
    | cons h1 h2 => rw [List.length_cons, List.length_cons, dxa_len h2]
theorem dxa_get : ∀ {ds : List PyData} {vs : List V} {i : Nat} {v : V}, DxAll K H ws vs ds → vs[i]? = some v → ∃ d, ds[i]? = some d ∧ Dx K H ws v d
  | [], _, _, _, h, e => by
    cases h
    simp at e
  | d :: ds, _, 0, _, h, e => by
    cases h with
    | cons h1 h2 =>
      cases e
      exact ⟨d, rfl, h1⟩
  | d :: ds, _, i + 1, _, h, e => by
    cases h with
    | cons h1 h2 =>
      obtain ⟨q, e1, e2⟩ := dxa_get (i := i) h2 (by simpa using e)
      exact ⟨q, by simpa using e1, e2⟩
theorem dxa_app : ∀ {ds es : List PyData} {vs us : List V}, DxAll K H ws vs ds → DxAll K H ws us es → DxAll K H ws (vs ++ us) (ds ++ es)
  | [], _, _, _, h, h' => by
    cases h
    exact h'
  | d :: ds, _, _, _, h, h' => by
    cases h with
    | cons h1 h2 => exact .cons h1 (dxa_app h2 h')
theorem dxa_set : ∀ {ds : List PyData} {vs : List V} {i : Nat} {v : V} {d : PyData}, DxAll K H ws vs ds → Dx K H ws v d → DxAll K H ws (vs.set i v) (ds.set i d)
  | [], _, _, _, _, h, _ => by
    cases h
    exact .nil
  | _ :: ds, _, 0, _, _, h, h' => by
    cases h with
    | cons h1 h2 => exact .cons h' h2
  | _ :: ds, _, i + 1, _, _, h, h' => by
    cases h with
    | cons h1 h2 => exact .cons h1 (dxa_set h2 h')
theorem dxa_take : ∀ {ds : List PyData} {vs : List V} (i : Nat), DxAll K H ws vs ds → DxAll K H ws (vs.take i) (ds.take i)
  | [], _, _, h => by
    cases h
    rw [List.take_nil, List.take_nil]
    exact .nil
  | _ :: ds, _, 0, h => by
    rw [List.take_zero, List.take_zero]
    exact .nil
  | _ :: ds, _, i + 1, h => by
    cases h with
    | cons h1 h2 => exact .cons h1 (dxa_take i h2)
theorem dxa_drop : ∀ {ds : List PyData} {vs : List V} (i : Nat), DxAll K H ws vs ds → DxAll K H ws (vs.drop i) (ds.drop i)
  | [], _, _, h => by
    cases h
    rw [List.drop_nil, List.drop_nil]
    exact .nil
  | _ :: ds, _, 0, h => h
  | _ :: ds, _, i + 1, h => by
    cases h with
    | cons h1 h2 => exact dxa_drop i h2
/-- data, or an empty dict -/
def Tg (K : PySem.W.Frag) (H : Hp) (ws : List Addr) (v : V) (d : PyData) : Prop := Dx K H ws v d ∨ (d = .dict [] ∧ ∃ a, v = .ref a ∧ H a = some (.dK []) ∧ a ∉ ws)
theorem Tg.kp {v : V} {d : PyData} (t : Tg K H ws v d) (k : Kp ws H H') : Tg K H' ws v d := by
  rcases t with h | ⟨rfl, a, rfl, h, n⟩
  · exact .inl (h.kp k _ _)
  · exact .inr ⟨rfl, a, rfl, k.at_ _ _ h n, n⟩
theorem Tg.ty {v : V} {d : PyData} (t : Tg K H ws v d) : TyX K H v (.type (dty d)) := by
  rcases t with h | ⟨rfl, a, rfl, h, n⟩
  · exact dp_ty (h.dp _ _)
  · exact .base (.dK h)
theorem i_isT {T : String} {b : Bool} {Q : VK} {v : V} {d : PyData} (t : Tg K H ws v d) (e : kitB (dty d) T = some b) (h : Q (.bl b) H) :
    rIsi K [v, .ty T] H Q := ⟨v, .ty T, _, _, b, rfl, .ty T, t.ty, L2.kit_ty e, h⟩
def kInt : PyData → Bool
  | .int _ => true
  | .bool _ => true
  | _ => false
def kBool : PyData → Bool
  | .bool _ => true
  | _ => false
def kTup : PyData → Bool
  | .tuple _ => true
  | _ => false
def kLst : PyData → Bool
  | .list _ => true
  | _ => false
theorem kit_int (d : PyData) : kitB (dty d) "int" = some (kInt d) := by cases d <;> (simp only [dty, kInt]; decide +kernel)
theorem kit_bool (d : PyData) : kitB (dty d) "bool" = some (kBool d) := by cases d <;> (simp only [dty, kBool]; decide +kernel)
theorem kit_tup (d : PyData) : kitB (dty d) "tuple" = some (kTup d) := by cases d <;> (simp only [dty, kTup]; decide +kernel)
theorem kit_lst (d : PyData) : kitB (dty d) "list" = some (kLst d) := by cases d <;> (simp only [dty, kLst]; decide +kernel)
theorem i_bool2 {b : Bool} {A B : Prop} (h1 : b = true → A) (h2 : b = false → B) : if b = true then A else B := by
  cases b
  · exact iteF (h2 rfl)
  · exact iteT (h1 rfl)
def isI : PyData → Bool
  | .int _ => true
  | _ => false
def whD (d : PyData) (a b : Int) : Bool :=
  match d with
  | .int n => decide (a ≤ n ∧ n ≤ b)
  | _ => false
theorem isI_eq (d : PyData) : isI d = (kInt d && !kBool d) := by cases d <;> rfl
theorem isI_int {d : PyData} (h : isI d = true) : ∃ n, d = .int n := by
  cases d with
  | int n => exact ⟨n, rfl⟩
  | _ => cases h
theorem whD_no {d : PyData} {a b : Int} (h : isI d = false) : whD d a b = false := by
  cases d with
  | int n => cases h
  | _ => rfl
theorem whD_int {d : PyData} {a b : Int} (h : whD d a b = true) : ∃ n, d = .int n ∧ a ≤ n ∧ n ≤ b := by
  cases d with
  | int n => exact ⟨n, rfl, of_decide_eq_true h⟩
  | _ => cases h
end

/-! ### numbers, asked of anything -/
def Any (K : PySem.W.Frag) (H : Hp) (v : V) (d : PyData) : Prop := TyX K H v (.type (dty d)) ∧ ∀ n, d = .int n → v = .int n
theorem Any.dp {K : PySem.W.Frag} {H : Hp} {v : V} {d : PyData} (h : Dp K H v d) : Any K H v d := ⟨dp_ty h, fun n e => by
  subst e
  cases h
  rfl⟩
theorem Any.int {K : PySem.W.Frag} {H : Hp} (n : Int) : Any K H (.int n) (.int n) := .dp (.int n)
theorem i_isA {K : PySem.W.Frag} {H : Hp} {T : String} {b : Bool} {Q : VK} {v : V} {d : PyData} (t : Any K H v d) (e : kitB (dty d) T = some b) (h : Q (.bl b) H) :
    rIsi K [v, .ty T] H Q := ⟨v, .ty T, _, _, b, rfl, .ty T, t.1, L2.kit_ty e, h⟩

/-! ### ties -/
def kA (p : Int × Addr) : Key × V := (.inl p.1, .ref p.2)
def tfs (e : Int) (lv nd : Addr) : List (Str × V) := [("own_ever", .int e), ("own_living", .ref lv), ("near", .ref nd)]
structure TiX (C : Addr) (H : Hp) (t lv nd dx : Addr) (rep : List (Int × Addr)) (ever : Int) (liv : List Int) (nb : Int → List Int) : Prop where
  ht : H t = some (.ins C dx (tfs ever lv nd))
  hl : H lv = some (.lst (liv.map V.int))
  hn : H nd = some (.dK (rep.map kA))
  hr : ∀ p ∈ rep, H p.2 = some (.lst ((nb p.1).map V.int))
  ad : (t :: lv :: nd :: rep.map (·.2)).Nodup
  nk : (rep.map (·.1)).Nodup
/-- t holds ties; ps: what is its own -/
def TiesAt (C : Addr) (H : Hp) (t : Addr) (ps : List Addr) (ever : Int) (liv ks : List Int) (nb : Int → List Int) : Prop :=
  ∃ lv nd dx rep, TiX C H t lv nd dx rep ever liv nb ∧ ps = t :: lv :: nd :: rep.map (·.2) ∧ ks = rep.map (·.1)
def Grow (H : Hp) (ps ps' : List Addr) : Prop := ∀ b ∈ ps', b ∈ ps ∨ Fr H b
section
variable {C : Addr} {H H' : Hp} {t lv nd dx : Addr} {rep : List (Int × Addr)} {ever : Int} {liv ks : List Int} {nb : Int → List Int} {ws ps ps' : List Addr}
theorem Grow.refl : Grow H ps ps := fun b h => .inl h
theorem Grow.nin {p : Addr} (g : Grow H ps ps') (t : Tr H p) (n : p ∉ ps) : p ∉ ps' := fun z => by
  rcases g p z with h | h
  · exact n h
  · obtain ⟨o, e⟩ := t.ex
    rw [h.e] at e
    cases e
theorem Grow.trans {ps2 : List Addr} (g : Grow H ps ps') (k : Kp ps H H') (g2 : Grow H' ps' ps2) : Grow H ps ps2 := fun b h => by
  rcases g2 b h with z | z
  · exact g b z
  · refine .inr ⟨?_⟩
    cases q : H b with
    | none => rfl
    | some u =>
      obtain ⟨v, e⟩ := k.dom b u q
      rw [z.e] at e
      cases e
/-- a change to what is its own and was not there before -/
theorem Kp.grow {H2 : Hp} (k : Kp ps H H') (g : Grow H ps ps') (k2 : Kp ps' H' H2) : Kp ps H H2 :=
  (Kp.trans (k.mono (us := ps ++ ps') fun b h => List.mem_append.mpr (.inl h)) (k2.mono fun b h => List.mem_append.mpr (.inr h))).dropAll fun b h => by
    rcases List.mem_append.mp h with h | h
    · exact .inl h
    · exact g b h
theorem TiX.known (x : TiX C H t lv nd dx rep ever liv nb) : ∀ b ∈ t :: lv :: nd :: rep.map (·.2), ∃ u, H b = some u := fun b hb => by
  rcases List.mem_cons.mp hb with rfl | hb
  · exact ⟨_, x.ht⟩
  rcases List.mem_cons.mp hb with rfl | hb
  · exact ⟨_, x.hl⟩
  rcases List.mem_cons.mp hb with rfl | hb
  · exact ⟨_, x.hn⟩
  obtain ⟨p, hp, rfl⟩ := List.mem_map.mp hb
  exact ⟨_, x.hr p hp⟩
theorem TiesAt.known (x : TiesAt C H t ps ever liv ks nb) : ∀ b ∈ ps, ∃ u, H b = some u := by
  obtain ⟨lv, nd, dx, rep, h, rfl, rfl⟩ := x
  exact h.known
theorem TiX.kp (x : TiX C H t lv nd dx rep ever liv nb) (k : Kp ws H H') (n : ∀ b ∈ t :: lv :: nd :: rep.map (·.2), b ∉ ws) : TiX C H' t lv nd dx rep ever liv nb :=
  ⟨k.at_ _ _ x.ht (n _ (by simp)), k.at_ _ _ x.hl (n _ (by simp)), k.at_ _ _ x.hn (n _ (by simp)), fun p hp => k.at_ _ _ (x.hr p hp) (n _ (by simp only [List.mem_cons]; exact .inr (.inr (.inr (List.mem_map.mpr ⟨p, hp, rfl⟩))))), x.ad, x.nk⟩
theorem TiesAt.kp (x : TiesAt C H t ps ever liv ks nb) (k : Kp ws H H') (n : ∀ b ∈ ps, b ∉ ws) : TiesAt C H' t ps ever liv ks nb := by
  obtain ⟨lv, nd, dx, rep, h, rfl, rfl⟩ := x
  exact ⟨lv, nd, dx, rep, h.kp k n, rfl, rfl⟩
theorem TiesAt.kp0 (x : TiesAt C H t ps ever liv ks nb) (k : Kp [] H H') : TiesAt C H' t ps ever liv ks nb := x.kp k fun _ _ z => nomatch z
/-- what is not its own stays apart from it -/
theorem TiesAt.fr {p : Addr} (x : TiesAt C H t ps ever liv ks nb) (f : Fr H p) : p ∉ ps := fun z => by
  obtain ⟨u, e⟩ := x.known p z
  rw [f.e] at e
  cases e
theorem TiesAt.apart (x : TiesAt C H t ps ever liv ks nb) {p : Addr} (n : p ∉ ps) : ∀ b ∈ ps, b ∉ [p] := fun b hb z => by
  rw [List.mem_singleton.mp z] at hb
  exact n hb
theorem val_rep {w : Int} {a : Addr} : ∀ {rep : List (Int × Addr)}, (rep.map (·.1)).Nodup → (w, a) ∈ rep → valV (rep.map kA) (.inl w) = some (.ref a)
  | p :: rep, n, h => by
    rw [List.map_cons, List.nodup_cons] at n
    rcases List.mem_cons.mp h with e | h
    · rw [← e, List.map_cons]
      exact valV_pos rfl
    · rw [List.map_cons, valV_neg (fun z => ?_)]
      · exact val_rep n.2 h
      · have z : (Sum.inl p.1 : Key) = .inl w := z
        injection z with z
        exact n.1 (by rw [z]; exact List.mem_map.mpr ⟨_, h, rfl⟩)
theorem val_none {w : Int} : ∀ {rep : List (Int × Addr)}, w ∉ rep.map (·.1) → valV (rep.map kA) (.inl w) = none
  | [], _ => rfl
  | p :: rep, h => by
    rw [List.map_cons, List.mem_cons, not_or] at h
    rw [List.map_cons, valV_neg (fun z => ?_)]
    · exact val_none h.2
    · have z : (Sum.inl p.1 : Key) = .inl w := z
      injection z with z
      exact h.1 z.symm
theorem val_in {w : Int} {rep : List (Int × Addr)} (n : (rep.map (·.1)).Nodup) : (valV (rep.map kA) (.inl w)).isSome = decide (w ∈ rep.map (·.1)) := by
  by_cases c : w ∈ rep.map (·.1)
  · obtain ⟨p, hp, rfl⟩ := List.mem_map.mp c
    rw [val_rep (w := p.1) (a := p.2) n hp, decide_eq_true c]
    rfl
  · rw [val_none c, decide_eq_false c]
    rfl
theorem put_new {w : Int} {a : Addr} {rep : List (Int × Addr)} (h : w ∉ rep.map (·.1)) : putK (rep.map kA) (.inl w) (.ref a) = (rep ++ [(w, a)]).map kA := by
  rw [putK_new _ (val_none h), List.map_append]
  rfl
theorem drop_rep {w : Int} : ∀ (rep : List (Int × Addr)), dropK (rep.map kA) (.inl w) = (rep.filter fun p => decide (p.1 ≠ w)).map kA
  | [] => rfl
  | p :: rep => by
    have ih := drop_rep (w := w) rep
    unfold dropK at ih ⊢
    rw [List.map_cons, List.filter_cons, List.filter_cons, ih]
    by_cases c : p.1 = w
    · have c' : (kA p).1 = .inl w := by show (Sum.inl p.1 : Key) = _; rw [c]
      rw [if_neg (by simpa using c'), if_neg (by simpa using c)]
    · have c' : ¬ (kA p).1 = .inl w := fun z => by
        have z : (Sum.inl p.1 : Key) = .inl w := z
        injection z with z
        exact c z
      rw [if_pos (by simpa using c'), if_pos (by simpa using c)]
      rfl
theorem keys_drop {w : Int} {rep : List (Int × Addr)} (n : (rep.map (·.1)).Nodup) : (rep.filter fun p => decide (p.1 ≠ w)).map (·.1) = (rep.map (·.1)).erase w := by
  rw [n.erase_eq_filter, List.filter_map]
  congr 1
  refine List.filter_congr fun p _ => ?_
  show decide (p.1 ≠ w) = (p.1 != w)
  by_cases c : p.1 = w <;> simp [c]
end
theorem TiesAt.ins {C : Addr} {H : Hp} {t : Addr} {ps : List Addr} {ever : Int} {liv ks : List Int} {nb : Int → List Int} (x : TiesAt C H t ps ever liv ks nb) : ∃ dx lv nd, H t = some (.ins C dx (tfs ever lv nd)) := by
  obtain ⟨lv, nd, dx, rep, h, rfl, rfl⟩ := x
  exact ⟨_, _, _, h.ht⟩
def sp_tinit (C : Addr) : Sp := fun vs H Q _ => ∃ (t dx : Addr), vs = [.ref t] ∧ H t = some (.ins C dx []) ∧
  ∀ ps H', Kp [t] H H' → Grow H [t] ps → TiesAt C H' t ps 1 [0] [0] (fun _ => []) → Q .non H'
def Disp1 (p : Addr) (n : Int) (Q : VK) (v : V) (H2 : Hp) : Prop := H2 p = some (.dK []) ∧ ∃ kvs : List (Key × V), [(V.int n, v)] = kvs.map (fun kv => (kV kv.1, kv.2)) ∧ kvs.length ≤ 15 ∧ Q (.ref p) (upd H2 p (.dK (mergeK [] kvs)))
theorem i_disp1 {σ : L2.St} {H : Hp} {Q : VK} {n : Int} {te : TE} (q : ∀ p, Fr H p → te σ (upd H p (.dK [])) fun v H2 => Disp1 p n Q v H2) : tDisp [(tC (.int n), te)] σ H Q := fun p hp => q p ⟨hp⟩
theorem i_disp1e {H2 : Hp} {Q : VK} {n : Int} {p : Addr} {v : V} (h : H2 p = some (.dK [])) (q : Q (.ref p) (upd H2 p (.dK [(.inl n, v)]))) : Disp1 p n Q v H2 := ⟨h, [(.inl n, v)], rfl, by rw [List.length_singleton]; decide, q⟩
theorem sc_Ties_init : FnScope ["self"] ["self"] (defScope s_Ties_init) :=
  ⟨rfl, rfl, rfl, by decide +kernel, rfl, by decide +kernel, by decide +kernel⟩
theorem ok_Ties_init {P : Program} {w : World} {K : PySem.W.Frag} {mg : Str → Option Value} {base : Heap} (T : Txt K mg) :
    FnG P w K mg base 1 T.a_Ties_init T.d_Ties_init ["self"] (sp_tinit T.c_Ties) := by
  refine okD T.F_Ties_init sc_Ties_init (fun vs H Q E h => ?_) (fun cdv A outer s H vs Q E hr h => ?_)
  · first
      | (obtain ⟨_, rfl, _⟩ := h; rfl)
      | (obtain ⟨_, _, rfl, _⟩ := h; rfl)
      | (obtain ⟨_, _, _, rfl, _⟩ := h; rfl)
      | (obtain ⟨_, _, _, _, rfl, _⟩ := h; rfl)
      | (obtain ⟨_, _, _, _, _, rfl, _⟩ := h; rfl)
      | (obtain ⟨_, _, _, _, _, _, rfl, _⟩ := h; rfl)
      | (obtain ⟨_, _, _, _, _, _, _, rfl, _⟩ := h; rfl)
      | (obtain ⟨_, _, _, _, _, _, _, _, rfl, _⟩ := h; rfl)
      | (obtain ⟨_, _, _, _, _, _, _, _, _, rfl, _⟩ := h; rfl)
      | (obtain ⟨_, _, _, _, _, _, _, _, _, _, rfl, _⟩ := h; rfl)
      | (obtain ⟨_, _, _, _, _, _, _, _, _, _, _, rfl, _⟩ := h; rfl)
      | (obtain ⟨_, _, _, _, _, _, _, _, _, _, _, _, rfl, _⟩ := h; rfl)
      | (obtain ⟨_, _, _, _, _, _, _, _, _, _, _, _, _, rfl, _⟩ := h; rfl)
      | (obtain ⟨_, _, _, _, _, _, _, _, _, _, _, _, _, _, rfl, _⟩ := h; rfl)
      | (obtain ⟨_, _, _, _, _, _, _, _, _, _, _, _, _, _, _, rfl, _⟩ := h; rfl)
      | (obtain ⟨_, _, _, _, _, _, _, _, _, _, _, _, _, _, _, _, rfl, _⟩ := h; rfl)
      | (obtain ⟨_, _, _, _, _, _, _, _, _, _, _, _, _, _, _, _, _, rfl, _⟩ := h; rfl)
      | (obtain ⟨_, _, _, _, _, _, _, _, _, _, _, _, _, _, _, _, _, _, rfl, _⟩ := h; rfl)
      | (obtain ⟨_, _, _, _, _, _, _, _, _, _, _, _, _, _, _, _, _, _, _, rfl, _⟩ := h; rfl)
  · obtain ⟨t, dx, rfl, ht, k⟩ := h
    have cl_Ties := T.cl_Ties
    have na_Ties_near := T.na_Ties_near
    have na_Ties_own_ever := T.na_Ties_own_ever
    have na_Ties_own_living := T.na_Ties_own_living
    refine ⟨_, (pss_cons (k_sfld (K := K) rfl (pv 0) pe_int rfl)
      (pss_cons (k_sfld (K := K) rfl (pv 0) (pe_lst (pa_cons pe_int pa_nil)) rfl)
      (pss_one (k_sfld (K := K) rfl (pv 0) (pe_disp (pps_cons pe_int (pe_lst pa_nil) pps_nil) (by rfl) (by rfl) (fun z => by cases z) (by decide)) rfl)))), ?_⟩
    dsimp only [cxOf, st_1, st_2, st_3, st_4, st_5, st_6, List.length_cons, List.length_nil, List.replicate_succ, List.replicate_zero, Nat.reduceAdd, Nat.reduceSub]
    walk_at "gs"
    refine i_new fun l fl => ?_
    have ntl : t ≠ l := fr_ne upd_same fl
    walk_at "gs"
    refine i_disp1 fun d fd => ?_
    have ntd : t ≠ d := fr_ne upd_same fd
    have nld : l ≠ d := fr_ne (by rw [upd_ne (Ne.symm ntl)]; exact upd_same) fd
    walk_at "gs"
    refine i_new fun m fm => ?_
    have ntm : t ≠ m := fr_ne (by walk_at "g_hp") fm
    have nlm : l ≠ m := fr_ne (by walk_at "g_hp") fm
    have ndm : d ≠ m := fr_ne upd_same fm
    walk_at "gs"
    refine i_disp1e (by walk_at "g_hp") ?_
    walk_at "gs"
    have ntl' := Ne.symm ntl
    have nlm' := Ne.symm nlm
    refine k [t, l, d, m] _ (by walk_at "g_kp") (fun b hb => ?_) ⟨l, d, dx, [(0, m)], ⟨upd_same, show _ = some (HO.lst [V.int 0]) by walk_at "g_hp", show _ = some (HO.dK [(Sum.inl 0, V.ref m)]) by walk_at "g_hp", fun p hp => ?_, ?_, by simp⟩, rfl, rfl⟩
    · simp only [List.mem_cons, List.not_mem_nil, or_false] at hb ⊢
      rcases hb with rfl | rfl | rfl | rfl
      · exact .inl rfl
      · exact .inr (by walk_at "g_fr")
      · exact .inr (by walk_at "g_fr")
      · exact .inr (by walk_at "g_fr")
    · rw [List.mem_singleton.mp hp]
      show _ = some (HO.lst [])
      walk_at "g_hp"
    · simp only [List.map_cons, List.map_nil, List.nodup_cons, List.mem_cons, List.not_mem_nil, or_false, not_or, not_false_iff, List.nodup_nil, and_true]
      exact ⟨⟨ntl, ntd, ntm⟩, ⟨nld, nlm⟩, ndm⟩
def sp_tever (C : Addr) : Sp := fun vs H Q _ => ∃ (t : Addr) (ps : List Addr) (ever : Int) (liv ks : List Int) (nb : Int → List Int), vs = [.ref t] ∧ TiesAt C H t ps ever liv ks nb ∧ Q (.int ever) H
theorem sc_Ties_ever : FnScope ["self"] ["self"] (defScope s_Ties_ever) :=
  ⟨rfl, rfl, rfl, by decide +kernel, rfl, by decide +kernel, by decide +kernel⟩
theorem ok_Ties_ever {P : Program} {w : World} {K : PySem.W.Frag} {mg : Str → Option Value} {base : Heap} (T : Txt K mg) :
    FnG P w K mg base 1 T.a_Ties_ever T.d_Ties_ever ["self"] (sp_tever T.c_Ties) := by
  refine okD T.F_Ties_ever sc_Ties_ever (fun vs H Q E h => ?_) (fun cdv A outer s H vs Q E hr h => ?_)
  · first
      | (obtain ⟨_, rfl, _⟩ := h; rfl)
      | (obtain ⟨_, _, rfl, _⟩ := h; rfl)
      | (obtain ⟨_, _, _, rfl, _⟩ := h; rfl)
      | (obtain ⟨_, _, _, _, rfl, _⟩ := h; rfl)
      | (obtain ⟨_, _, _, _, _, rfl, _⟩ := h; rfl)
      | (obtain ⟨_, _, _, _, _, _, rfl, _⟩ := h; rfl)
      | (obtain ⟨_, _, _, _, _, _, _, rfl, _⟩ := h; rfl)
      | (obtain ⟨_, _, _, _, _, _, _, _, rfl, _⟩ := h; rfl)
      | (obtain ⟨_, _, _, _, _, _, _, _, _, rfl, _⟩ := h; rfl)
      | (obtain ⟨_, _, _, _, _, _, _, _, _, _, rfl, _⟩ := h; rfl)
      | (obtain ⟨_, _, _, _, _, _, _, _, _, _, _, rfl, _⟩ := h; rfl)
      | (obtain ⟨_, _, _, _, _, _, _, _, _, _, _, _, rfl, _⟩ := h; rfl)
      | (obtain ⟨_, _, _, _, _, _, _, _, _, _, _, _, _, rfl, _⟩ := h; rfl)
      | (obtain ⟨_, _, _, _, _, _, _, _, _, _, _, _, _, _, rfl, _⟩ := h; rfl)
      | (obtain ⟨_, _, _, _, _, _, _, _, _, _, _, _, _, _, _, rfl, _⟩ := h; rfl)
      | (obtain ⟨_, _, _, _, _, _, _, _, _, _, _, _, _, _, _, _, rfl, _⟩ := h; rfl)
      | (obtain ⟨_, _, _, _, _, _, _, _, _, _, _, _, _, _, _, _, _, rfl, _⟩ := h; rfl)
      | (obtain ⟨_, _, _, _, _, _, _, _, _, _, _, _, _, _, _, _, _, _, rfl, _⟩ := h; rfl)
      | (obtain ⟨_, _, _, _, _, _, _, _, _, _, _, _, _, _, _, _, _, _, _, rfl, _⟩ := h; rfl)
  · obtain ⟨t, ps, ever, liv, ks, nb, rfl, ⟨lv, nd, dx, rep, x, rfl, rfl⟩, k⟩ := h
    obtain ⟨ht, hl, hn, hr, ad, nk⟩ := x
    have cl_Ties := T.cl_Ties
    have na_Ties_near := T.na_Ties_near
    have na_Ties_own_ever := T.na_Ties_own_ever
    have na_Ties_own_living := T.na_Ties_own_living
    refine ⟨_, (pss_one (ps_ret (k_fld (K := K) rfl (pv 0) rfl))), ?_⟩
    dsimp only [cxOf, st_1, st_2, st_3, st_4, st_5, st_6, List.length_cons, List.length_nil, List.replicate_succ, List.replicate_zero, Nat.reduceAdd, Nat.reduceSub]
    walk_at "gs"
    exact k
def sp_tliving (C : Addr) : Sp := fun vs H Q _ => ∃ (t : Addr) (ps : List Addr) (ever : Int) (liv ks : List Int) (nb : Int → List Int), vs = [.ref t] ∧ TiesAt C H t ps ever liv ks nb ∧ ∀ R, Fr H R → Q (.ref R) (upd H R (.lst (liv.map V.int)))
theorem sc_Ties_living : FnScope ["self"] ["self"] (defScope s_Ties_living) :=
  ⟨rfl, rfl, rfl, by decide +kernel, rfl, by decide +kernel, by decide +kernel⟩
theorem ok_Ties_living {P : Program} {w : World} {K : PySem.W.Frag} {mg : Str → Option Value} {base : Heap} (T : Txt K mg) :
    FnG P w K mg base 1 T.a_Ties_living T.d_Ties_living ["self"] (sp_tliving T.c_Ties) := by
  refine okD T.F_Ties_living sc_Ties_living (fun vs H Q E h => ?_) (fun cdv A outer s H vs Q E hr h => ?_)
  · first
      | (obtain ⟨_, rfl, _⟩ := h; rfl)
      | (obtain ⟨_, _, rfl, _⟩ := h; rfl)
      | (obtain ⟨_, _, _, rfl, _⟩ := h; rfl)
      | (obtain ⟨_, _, _, _, rfl, _⟩ := h; rfl)
      | (obtain ⟨_, _, _, _, _, rfl, _⟩ := h; rfl)
      | (obtain ⟨_, _, _, _, _, _, rfl, _⟩ := h; rfl)
      | (obtain ⟨_, _, _, _, _, _, _, rfl, _⟩ := h; rfl)
      | (obtain ⟨_, _, _, _, _, _, _, _, rfl, _⟩ := h; rfl)
      | (obtain ⟨_, _, _, _, _, _, _, _, _, rfl, _⟩ := h; rfl)
      | (obtain ⟨_, _, _, _, _, _, _, _, _, _, rfl, _⟩ := h; rfl)
      | (obtain ⟨_, _, _, _, _, _, _, _, _, _, _, rfl, _⟩ := h; rfl)
      | (obtain ⟨_, _, _, _, _, _, _, _, _, _, _, _, rfl, _⟩ := h; rfl)
      | (obtain ⟨_, _, _, _, _, _, _, _, _, _, _, _, _, rfl, _⟩ := h; rfl)
      | (obtain ⟨_, _, _, _, _, _, _, _, _, _, _, _, _, _, rfl, _⟩ := h; rfl)
      | (obtain ⟨_, _, _, _, _, _, _, _, _, _, _, _, _, _, _, rfl, _⟩ := h; rfl)
      | (obtain ⟨_, _, _, _, _, _, _, _, _, _, _, _, _, _, _, _, rfl, _⟩ := h; rfl)
      | (obtain ⟨_, _, _, _, _, _, _, _, _, _, _, _, _, _, _, _, _, rfl, _⟩ := h; rfl)
      | (obtain ⟨_, _, _, _, _, _, _, _, _, _, _, _, _, _, _, _, _, _, rfl, _⟩ := h; rfl)
      | (obtain ⟨_, _, _, _, _, _, _, _, _, _, _, _, _, _, _, _, _, _, _, rfl, _⟩ := h; rfl)
  · obtain ⟨t, ps, ever, liv, ks, nb, rfl, ⟨lv, nd, dx, rep, x, rfl, rfl⟩, k⟩ := h
    obtain ⟨ht, hl, hn, hr, ad, nk⟩ := x
    have cl_Ties := T.cl_Ties
    have na_Ties_near := T.na_Ties_near
    have na_Ties_own_ever := T.na_Ties_own_ever
    have na_Ties_own_living := T.na_Ties_own_living
    refine ⟨_, (pss_one (ps_ret (pe_callTy (k_list (K := K) rfl) (by rfl) T.n_list (by decide +kernel) (pa_cons (k_fld (K := K) rfl (pv 0) rfl) pa_nil)))), ?_⟩
    dsimp only [cxOf, st_1, st_2, st_3, st_4, st_5, st_6, List.length_cons, List.length_nil, List.replicate_succ, List.replicate_zero, Nat.reduceAdd, Nat.reduceSub]
    walk_at "gs"
    refine i_new fun R fR => ?_
    walk_at "gs"
    exact k R fR
def FreeOf (liv ks fs : List Int) : Prop := fs.Pairwise (· < ·) ∧ ∀ x, x ∈ fs ↔ x ∈ ks ∧ x ∉ liv
def sp_tfree (C : Addr) : Sp := fun vs H Q _ => ∃ (t : Addr) (ps : List Addr) (ever : Int) (liv ks : List Int) (nb : Int → List Int), vs = [.ref t] ∧ TiesAt C H t ps ever liv ks nb ∧ ks.length ≤ 1000 ∧
  ∀ R fs H', Fr H R → Kp [] H H' → H' R = some (.lst (fs.map V.int)) → FreeOf liv ks fs → Q (.ref R) H'
theorem sc_Ties_free : FnScope ["self", "world"] ["self"] (defScope s_Ties_free) :=
  ⟨rfl, rfl, rfl, by decide +kernel, rfl, by decide +kernel, by decide +kernel⟩
theorem ok_Ties_free {P : Program} {w : World} {K : PySem.W.Frag} {mg : Str → Option Value} {base : Heap} (T : Txt K mg) :
    FnG P w K mg base 1 T.a_Ties_free T.d_Ties_free ["self"] (sp_tfree T.c_Ties) := by
  refine okD T.F_Ties_free sc_Ties_free (fun vs H Q E h => ?_) (fun cdv A outer s H vs Q E hr h => ?_)
  · first
      | (obtain ⟨_, rfl, _⟩ := h; rfl)
      | (obtain ⟨_, _, rfl, _⟩ := h; rfl)
      | (obtain ⟨_, _, _, rfl, _⟩ := h; rfl)
      | (obtain ⟨_, _, _, _, rfl, _⟩ := h; rfl)
      | (obtain ⟨_, _, _, _, _, rfl, _⟩ := h; rfl)
      | (obtain ⟨_, _, _, _, _, _, rfl, _⟩ := h; rfl)
      | (obtain ⟨_, _, _, _, _, _, _, rfl, _⟩ := h; rfl)
      | (obtain ⟨_, _, _, _, _, _, _, _, rfl, _⟩ := h; rfl)
      | (obtain ⟨_, _, _, _, _, _, _, _, _, rfl, _⟩ := h; rfl)
      | (obtain ⟨_, _, _, _, _, _, _, _, _, _, rfl, _⟩ := h; rfl)
      | (obtain ⟨_, _, _, _, _, _, _, _, _, _, _, rfl, _⟩ := h; rfl)
      | (obtain ⟨_, _, _, _, _, _, _, _, _, _, _, _, rfl, _⟩ := h; rfl)
      | (obtain ⟨_, _, _, _, _, _, _, _, _, _, _, _, _, rfl, _⟩ := h; rfl)
      | (obtain ⟨_, _, _, _, _, _, _, _, _, _, _, _, _, _, rfl, _⟩ := h; rfl)
      | (obtain ⟨_, _, _, _, _, _, _, _, _, _, _, _, _, _, _, rfl, _⟩ := h; rfl)
      | (obtain ⟨_, _, _, _, _, _, _, _, _, _, _, _, _, _, _, _, rfl, _⟩ := h; rfl)
      | (obtain ⟨_, _, _, _, _, _, _, _, _, _, _, _, _, _, _, _, _, rfl, _⟩ := h; rfl)
      | (obtain ⟨_, _, _, _, _, _, _, _, _, _, _, _, _, _, _, _, _, _, rfl, _⟩ := h; rfl)
      | (obtain ⟨_, _, _, _, _, _, _, _, _, _, _, _, _, _, _, _, _, _, _, rfl, _⟩ := h; rfl)
  · obtain ⟨t, ps, ever, liv, ks, nb, rfl, ⟨lv, nd, dx, rep, x, rfl, rfl⟩, kl, k⟩ := h
    have nds := x.ad
    simp only [List.nodup_cons, List.mem_cons, not_or] at nds
    obtain ⟨⟨ntl, ntd, _⟩, ⟨nld, _⟩, _⟩ := nds
    obtain ⟨ht, hl, hn, hr, ad, nk⟩ := x
    have cl_Ties := T.cl_Ties
    have na_Ties_near := T.na_Ties_near
    have na_Ties_own_ever := T.na_Ties_own_ever
    have na_Ties_own_living := T.na_Ties_own_living
    refine ⟨_, (pss_one (ps_ret (pe_callB (k_sorted (K := K) rfl) (by rfl) T.n_sorted (by decide +kernel) (pa_cons (pe_lock (pe_lc (own := [("world", 1)]) (g := (gName 1)) rfl sc_Ties_free.nd (pi_keys (k_fld (K := K) rfl (pv 0) rfl)) (blkOk_by (own := [("world", 1)]) (N := ["self", "world"]) (sc := defScope s_Ties_free) (by decide +kernel)) (fun _ _ _ _ _ => (pg_name (i := 1) sc_Ties_free.nd rfl (Or.inl rfl))) (fun _ _ _ _ _ => (pts_one (pt_cmpR (k_nin (K := K) rfl) (pv 1) (k_fld (K := K) rfl (pv 0) rfl) (rfl)))) (fun _ _ _ _ _ => (pv 1)))) pa_nil)))), ?_⟩
    dsimp only [cxOf, st_1, st_2, st_3, st_4, st_5, st_6, List.length_cons, List.length_nil, List.replicate_succ, List.replicate_zero, Nat.reduceAdd, Nat.reduceSub]
    walk_at "gs"
    refine i_lockE hn fun od => ?_
    walk_at "gs"
    have kd : Kp [] H (upd (upd H nd (.frz od (.dK (rep.map kA)))) nd (.dK (rep.map kA))) := kp_unl hn (fun z => z) Kp.refl
    refine i_keyG (o := od) upd_same (fun R i H' => Kp [] (upd H nd (.frz od (.dK (rep.map kA)))) H' ∧ H' R = some (.lst ((((rep.take i).map (·.1)).filter fun w => decide (w ∉ liv)).map V.int))) ?_ ?_ ?_ ?_
    · intro R fR
      exact ⟨Kp.new fR, upd_same⟩
    · rintro R i H' fR ⟨k1, _⟩
      exact k1.at_ _ _ upd_same not_nil
    · rintro R i ky v H' fR hk ⟨k1, hR⟩
      obtain ⟨p, hp, e⟩ := map_get hk
      cases e
      have hl1 : SqL K H' lv (liv.map V.int) := SqL.of (k1.at_ _ _ (by rw [upd_ne nld]; exact hl) not_nil)
      have ht1 : H' t = some (.ins T.c_Ties dx (tfs ever lv nd)) := k1.at_ _ _ (by rw [upd_ne ntd]; exact ht) not_nil
      have hil := (List.getElem?_eq_some_iff.mp hp).1
      have step : (((rep.take (i + 1)).map (·.1)).filter fun w => decide (w ∉ liv)) = (((rep.take i).map (·.1)).filter fun w => decide (w ∉ liv)) ++ (if p.1 ∉ liv then [p.1] else []) := by
        rw [List.take_add_one, hp, List.map_append, List.filter_append]
        congr 1
        by_cases c : p.1 ∉ liv <;> simp [c]
      show gName 1 (.int p.1) _ _ _
      walk_at "gs"
      refine i_bool2 (fun c => ?_) (fun c => ?_)
      · walk_at "gs"
        refine ⟨_, hR, small_sz ?_, Kp.upd k1 fR, ?_⟩
        · rw [List.length_map]
          have e1 := List.length_filter_le (fun w => decide (w ∉ liv)) ((rep.take i).map (·.1))
          rw [List.length_map, List.length_take] at e1
          rw [List.length_map] at kl
          omega
        · have c' : p.1 ∉ liv := by simpa using c
          rw [step, if_pos c', List.map_append]
          exact upd_same
      · refine ⟨k1, ?_⟩
        have c' : ¬ p.1 ∉ liv := by simpa using c
        rw [step, if_neg c', List.append_nil]
        exact hR
    rintro R H' fR ⟨k1, hR⟩
    rw [List.length_map, List.take_length] at hR
    have fR' : Fr H R := by walk_at "g_fr"
    have nRd : R ≠ nd := Ne.symm (fr_ne hn fR')
    have k0 : Kp [] H (upd H' nd (.dK (rep.map kA))) := kp_unl hn (fun z => z) k1
    refine ⟨k1.at_ _ _ upd_same not_nil, ?_⟩
    walk_at "gs"
    refine i_sorted (SqL.of (by rw [upd_ne nRd]; exact hR)) fun fs p pm ps fp => ?_
    have fp0 : Fr H p := k0.free fp
    refine k p fs _ fp0 (Kp.upd k0 fp0) upd_same ⟨strict_of pm (nk.filter _) ps, fun y => ?_⟩
    rw [pm.mem_iff, List.mem_filter, decide_eq_true_eq]

/-! ### rows -/
def rwOf (nb : Int → List Int) (u : Int) : List (Int × Int) := ((nb u).filter fun v => decide (u < v)).map fun v => (u, v)
def rws (nb : Int → List Int) (ks : List Int) : List (Int × Int) := ks.flatMap (rwOf nb)
def RowsOf (ks : List Int) (nb : Int → List Int) (rs : List (Int × Int)) : Prop := rs.Pairwise ltQ ∧ ∀ q, q ∈ rs ↔ q.1 ∈ ks ∧ q.2 ∈ nb q.1 ∧ q.1 < q.2
section
variable {ks : List Int} {nb : Int → List Int}
theorem mem_rwOf {u : Int} {q : Int × Int} : q ∈ rwOf nb u ↔ q.1 = u ∧ q.2 ∈ nb u ∧ u < q.2 := by
  unfold rwOf
  rw [List.mem_map]
  constructor
  · rintro ⟨v, h, rfl⟩
    rw [List.mem_filter, decide_eq_true_eq] at h
    exact ⟨rfl, h⟩
  · rintro ⟨a, b, c⟩
    refine ⟨q.2, List.mem_filter.mpr ⟨b, decide_eq_true c⟩, ?_⟩
    rw [← a]
theorem mem_rws {q : Int × Int} : q ∈ rws nb ks ↔ q.1 ∈ ks ∧ q.2 ∈ nb q.1 ∧ q.1 < q.2 := by
  unfold rws
  rw [List.mem_flatMap]
  constructor
  · rintro ⟨u, hu, h⟩
    obtain ⟨a, b, c⟩ := mem_rwOf.mp h
    rw [a]
    exact ⟨hu, b, c⟩
  · rintro ⟨a, b, c⟩
    exact ⟨q.1, a, mem_rwOf.mpr ⟨rfl, b, c⟩⟩
theorem rws_nd (nk : ks.Nodup) (nd : ∀ u ∈ ks, (nb u).Nodup) : (rws nb ks).Nodup := by
  unfold rws
  refine List.pairwise_flatMap.mpr ⟨fun u hu => ?_, nk.imp fun {a b} n x hx y hy e => ?_⟩
  · refine List.pairwise_map.mpr (((nd u hu).filter _).imp fun {a b} n e => ?_)
    injection e with _ e
    exact n e
  · rw [← (mem_rwOf.mp hx).1, ← (mem_rwOf.mp hy).1, e] at n
    exact n rfl
theorem rws_len {n : Nat} : ∀ {ks : List Int}, (∀ u ∈ ks, (nb u).length ≤ n) → (rws nb ks).length ≤ ks.length * n
  | [], _ => by simp [rws]
  | u :: ks, h => by
    have ih := rws_len (ks := ks) fun v hv => h v (List.mem_cons_of_mem _ hv)
    have h1 := h u List.mem_cons_self
    have h2 := List.length_filter_le (fun v => decide (u < v)) (nb u)
    unfold rws at ih ⊢
    rw [List.flatMap_cons, List.length_append, List.length_cons, Nat.succ_mul]
    unfold rwOf at ih ⊢
    rw [List.length_map]
    omega
theorem rws_step {u : Int} {l : List Int} {i : Nat} (h : ks[i]? = some u) : rws nb (ks.take (i + 1)) = rws nb (ks.take i) ++ rwOf nb u := by
  unfold rws
  rw [List.take_add_one, h, List.flatMap_append]
  simp
theorem kp_set {H : Hp} {d : Addr} {u v : HO} (h : H d = some u) (nu : ¬ Fix u) : Kp [d] H (upd H d v) := Kp.mut h nu (List.mem_singleton.mpr rfl)
end
theorem PrsAt.unl {H : Hp} {d : Addr} {o : Obj} {u v : HO} (h : H d = some (.frz o u)) : ∀ {xs : List V} {ps : List (Int × Int)}, PrsAt H xs ps → PrsAt (upd H d v) xs ps
  | [], [], _ => trivial
  | _ :: _, _ :: _, ⟨⟨t, e, q⟩, r⟩ => ⟨⟨t, e, by
      have n : t ≠ d := fun z => by
        rw [z, h] at q
        cases q
      rw [upd_ne n]
      exact q⟩, PrsAt.unl h r⟩
  | [], _ :: _, h => h.elim
  | _ :: _, [], h => h.elim
def sp_trows (K : PySem.W.Frag) (C : Addr) : Sp := fun vs H Q _ => ∃ (D : Int → Int → Int) (t : Addr) (ps : List Addr) (ever : Int) (liv ks : List Int) (nb : Int → List Int), vs = [.ref t] ∧ TiesAt C H t ps ever liv ks nb ∧ Tr3 D ever liv ks nb ∧ ever ≤ 200 ∧
  ∀ R rs H', Fr H R → Kp [] H H' → LD K H' R (rs.map d2) → RowsOf ks nb rs → Q (.ref R) H'
theorem sc_Ties_rows : FnScope ["self", "low", "others", "high"] ["self"] (defScope s_Ties_rows) :=
  ⟨rfl, rfl, rfl, by decide +kernel, rfl, by decide +kernel, by decide +kernel⟩
theorem ok_Ties_rows {P : Program} {w : World} {K : PySem.W.Frag} {mg : Str → Option Value} {base : Heap} (T : Txt K mg) :
    FnG P w K mg base 1 T.a_Ties_rows T.d_Ties_rows ["self"] (sp_trows K T.c_Ties) := by
  refine okD T.F_Ties_rows sc_Ties_rows (fun vs H Q E h => ?_) (fun cdv A outer s H vs Q E hr h => ?_)
  · first
      | (obtain ⟨_, rfl, _⟩ := h; rfl)
      | (obtain ⟨_, _, rfl, _⟩ := h; rfl)
      | (obtain ⟨_, _, _, rfl, _⟩ := h; rfl)
      | (obtain ⟨_, _, _, _, rfl, _⟩ := h; rfl)
      | (obtain ⟨_, _, _, _, _, rfl, _⟩ := h; rfl)
      | (obtain ⟨_, _, _, _, _, _, rfl, _⟩ := h; rfl)
      | (obtain ⟨_, _, _, _, _, _, _, rfl, _⟩ := h; rfl)
      | (obtain ⟨_, _, _, _, _, _, _, _, rfl, _⟩ := h; rfl)
      | (obtain ⟨_, _, _, _, _, _, _, _, _, rfl, _⟩ := h; rfl)
      | (obtain ⟨_, _, _, _, _, _, _, _, _, _, rfl, _⟩ := h; rfl)
      | (obtain ⟨_, _, _, _, _, _, _, _, _, _, _, rfl, _⟩ := h; rfl)
      | (obtain ⟨_, _, _, _, _, _, _, _, _, _, _, _, rfl, _⟩ := h; rfl)
      | (obtain ⟨_, _, _, _, _, _, _, _, _, _, _, _, _, rfl, _⟩ := h; rfl)
      | (obtain ⟨_, _, _, _, _, _, _, _, _, _, _, _, _, _, rfl, _⟩ := h; rfl)
      | (obtain ⟨_, _, _, _, _, _, _, _, _, _, _, _, _, _, _, rfl, _⟩ := h; rfl)
      | (obtain ⟨_, _, _, _, _, _, _, _, _, _, _, _, _, _, _, _, rfl, _⟩ := h; rfl)
      | (obtain ⟨_, _, _, _, _, _, _, _, _, _, _, _, _, _, _, _, _, rfl, _⟩ := h; rfl)
      | (obtain ⟨_, _, _, _, _, _, _, _, _, _, _, _, _, _, _, _, _, _, rfl, _⟩ := h; rfl)
      | (obtain ⟨_, _, _, _, _, _, _, _, _, _, _, _, _, _, _, _, _, _, _, rfl, _⟩ := h; rfl)
  · obtain ⟨D, t, ps, ever, liv, ks, nb, rfl, ⟨lv, nd, dx, rep, x, rfl, rfl⟩, z, he, k⟩ := h
    have klen := z.klen
    have nds := x.ad
    simp only [List.nodup_cons, List.mem_cons, not_or] at nds
    obtain ⟨⟨ntl, ntd, _⟩, ⟨nld, _⟩, ndr, _⟩ := nds
    obtain ⟨ht, hl, hn, hr, ad, nk⟩ := x
    have ndp : ∀ p ∈ rep, p.2 ≠ nd := fun p hp e => ndr (List.mem_map.mpr ⟨p, hp, e⟩)
    rw [List.length_map] at klen
    have cl_Ties := T.cl_Ties
    have na_Ties_near := T.na_Ties_near
    have na_Ties_own_ever := T.na_Ties_own_ever
    have na_Ties_own_living := T.na_Ties_own_living
    refine ⟨_, (pss_one (ps_ret (pe_callB (k_sortedP (K := K) rfl) (by rfl) T.n_sorted (by decide +kernel) (pa_cons (pe_lock (pe_lc2 (own := [("low", 1), ("others", 2), ("high", 3)]) (vs1 := [3]) (g := (gTup K 2 (gCons (gName 1) (gCons (gName 2) gNil)))) (g1 := (gName 3)) (tt := tYes) rfl sc_Ties_rows.nd (pi_items (k_fld (K := K) rfl (pv 0) rfl)) (blkOk_by (own := [("low", 1), ("others", 2), ("high", 3)]) (N := ["self", "low", "others", "high"]) (sc := defScope s_Ties_rows) (by decide +kernel)) (by decide) (fun _ _ _ _ _ => (k_gtup (K := K) 2 rfl rfl (pgs_cons (pg_name (i := 1) sc_Ties_rows.nd rfl (Or.inl rfl)) (pgs_cons (pg_name (i := 2) sc_Ties_rows.nd rfl (Or.inl rfl)) pgs_nil)))) (fun _ _ _ _ _ => pts_nil) (fun _ _ _ _ _ => (k_plist (K := K) rfl (pv 2))) (fun _ _ _ _ _ => (pg_name (i := 3) sc_Ties_rows.nd rfl (Or.inl rfl))) (fun _ _ _ _ _ => (pts_one (pt_cmpR op_lt (pv 1) (pv 3) (nomark _)))) (fun _ _ _ _ _ => (pe_tup (pa_cons (pv 1) (pa_cons (pv 3) pa_nil)))))) pa_nil)))), ?_⟩
    dsimp only [cxOf, st_1, st_2, st_3, st_4, st_5, st_6, List.length_cons, List.length_nil, List.replicate_succ, List.replicate_zero, Nat.reduceAdd, Nat.reduceSub]
    walk_at "gs"
    refine i_lockE hn fun od => ?_
    walk_at "gs"
    refine i_itemG (o := od) upd_same (fun R i H' => Kp [] (upd H nd (.frz od (.dK (rep.map kA)))) H' ∧ ∃ xs, H' R = some (.lst xs) ∧ PrsAt H' xs (rws nb ((rep.map (·.1)).take i))) ?_ ?_ ?_ ?_
    · intro R fR
      exact ⟨Kp.new fR, [], upd_same, trivial⟩
    · rintro R i H' fR ⟨k1, _⟩
      exact k1.at_ _ _ upd_same not_nil
    · rintro R i ky v U H' fR hk ⟨k1, xs, hR, px⟩ fU
      obtain ⟨p, hp, e⟩ := map_get hk
      cases e
      have hpm : p ∈ rep := List.mem_of_getElem? hp
      have hik : (rep.map (·.1))[i]? = some p.1 := by rw [List.getElem?_map, hp]; rfl
      have hpk : p.1 ∈ rep.map (·.1) := List.mem_of_getElem? hik
      have hub := z.nlen hpk
      have hil := (List.getElem?_eq_some_iff.mp hp).1
      have hpa : H' p.2 = some (.lst ((nb p.1).map V.int)) := k1.at_ _ _ (by rw [upd_ne (ndp p hpm)]; exact hr p hpm) not_nil
      have kU : Kp [] H' (upd H' U (.tup [V.int p.1, V.ref p.2])) := Kp.new fU
      have hU : SqT K (upd H' U (.tup [V.int p.1, V.ref p.2])) U [V.int p.1, V.ref p.2] := SqT.of upd_same
      have hpa' := kU.at_ _ _ hpa not_nil
      have hR' := kU.at_ _ _ hR not_nil
      have px' := px.kp kU
      have k1' := Kp.trans k1 kU
      have hlen : (rws nb ((rep.map (·.1)).take i)).length ≤ 40000 := by
        have e := rws_len (nb := nb) (n := 200) (ks := (rep.map (·.1)).take i) fun u hu => by
          have := z.nlen (List.mem_of_mem_take hu)
          omega
        have e2 : ((rep.map (·.1)).take i).length ≤ 200 := by
          rw [List.length_take, List.length_map]
          omega
        have e3 := Nat.mul_le_mul_right 200 e2
        omega
      have hxl := px'.len
      show gTup K 2 _ (.ref U) _ (upd H' U (.tup [V.int p.1, V.ref p.2])) _
      walk_at "gs"
      refine i_in2L ?_
      walk_at "gs"
      refine i_inL (SqL.of hpa') (fun j H2 => Kp [] (upd H nd (.frz od (.dK (rep.map kA)))) H2 ∧ H2 p.2 = some (.lst ((nb p.1).map V.int)) ∧ ∃ xs, H2 R = some (.lst xs) ∧ PrsAt H2 xs (rws nb ((rep.map (·.1)).take i) ++ ((((nb p.1).take j).filter fun v => decide (p.1 < v)).map fun v => (p.1, v)))) ?_ ?_ ?_ ?_
      · refine ⟨k1', hpa', xs, hR', ?_⟩
        rw [List.take_zero, List.filter_nil, List.map_nil, List.append_nil]
        exact px'
      · rintro j H2 _ ⟨_, h, _⟩
        exact SqL.of h
      · rintro j y H2 hy ⟨k2, h2, ys, hys, py⟩
        obtain ⟨v, hv, e⟩ := map_get hy
        subst e
        have hyl := py.len
        rw [List.length_append, List.length_map] at hyl
        have hfl := List.length_filter_le (fun v => decide (p.1 < v)) ((nb p.1).take j)
        rw [List.length_take] at hfl
        have step : ∀ P : List (Int × Int), P ++ ((((nb p.1).take (j + 1)).filter fun v => decide (p.1 < v)).map fun v => (p.1, v)) = (P ++ ((((nb p.1).take j).filter fun v => decide (p.1 < v)).map fun v => (p.1, v))) ++ (if p.1 < v then [(p.1, v)] else []) := fun P => by
          rw [List.take_add_one, hv, List.filter_append, List.map_append, List.append_assoc]
          congr 2
          by_cases c : p.1 < v <;> simp [c]
        walk_at "gs"
        refine i_dec (fun c => ?_) (fun c => ?_)
        · walk_at "gs"
          refine i_new fun W fW => ?_
          have kW : Kp [] H2 (upd H2 W (.tup [V.int p.1, V.int v])) := Kp.new fW
          have hW := kW.at_ _ _ hys not_nil
          have kR : Kp [R] (upd H2 W (.tup [V.int p.1, V.int v])) (upd (upd H2 W (.tup [V.int p.1, V.int v])) R (.lst (ys ++ [V.ref W]))) := kp_set hW (fun z => z)
          have npR : p.2 ≠ R := fr_ne (by rw [upd_ne (ndp p hpm)]; exact hr p hpm) fR
          walk_at "gs"
          refine ⟨ys, hW, small_sz (by omega), Kp.upd (Kp.trans k2 kW) fR, ?_, ys ++ [.ref W], upd_same, ?_⟩
          · rw [upd_ne npR]
            exact kW.at_ _ _ h2 not_nil
          · rw [step, if_pos c]
            exact (PrsAt.snoc (q := (p.1, v)) upd_same (py.kp kW)).kp kR
        · refine ⟨k2, h2, ys, hys, ?_⟩
          rw [step, if_neg c, List.append_nil]
          exact py
      · rintro H2 ⟨k2, h2, ys, hys, py⟩
        rw [List.length_map, List.take_length] at py
        refine ⟨k2, ys, hys, ?_⟩
        rw [rws_step (l := []) hik]
        exact py
    rintro R H' fR ⟨k1, xs, hR, px⟩
    have fR' : Fr H R := by walk_at "g_fr"
    have nRd : R ≠ nd := Ne.symm (fr_ne hn fR')
    have hnd : H' nd = some (.frz od (.dK (rep.map kA))) := k1.at_ _ _ upd_same not_nil
    have k0 : Kp [] H (upd H' nd (.dK (rep.map kA))) := kp_unl hn (fun z => z) k1
    refine ⟨hnd, ?_⟩
    walk_at "gs"
    refine i_sortedP (by rw [upd_ne nRd]; exact hR) (px.unl hnd) ?_ fun rs p H2 fp k2 ld pm pw => ?_
    · rw [List.length_map, List.take_of_length_le (by rw [List.length_map]; exact Nat.le_refl _)]
      exact rws_nd nk z.rp.nd
    refine k p rs H2 (k0.free fp) (Kp.trans k0 k2) ld ⟨pw, fun q => ?_⟩
    rw [pm.mem_iff, List.length_map, List.take_of_length_le (by rw [List.length_map]; exact Nat.le_refl _), mem_rws]
/-! ### asked of anything -/
def cntD : PyData → Bool
  | .int n => decide (0 ≤ n)
  | _ => false
theorem cnt_no {d : PyData} (h : isI d = false) : cntD d = false := by
  cases d <;> first | rfl | (cases h)
theorem cnt_int {d : PyData} (h : cntD d = true) : ∃ n, d = .int n ∧ 0 ≤ n := by
  cases d <;> first | (cases h; done) | exact ⟨_, rfl, of_decide_eq_true h⟩
def sp_is_count (K : PySem.W.Frag) : Sp := fun vs H Q _ => ∃ (v : V) (d : PyData), vs = [v] ∧ Any K H v d ∧ Q (.bl (cntD d)) H
theorem sc_is_count : FnScope ["thing"] ["thing"] (defScope s_is_count) :=
  ⟨rfl, rfl, rfl, by decide +kernel, rfl, by decide +kernel, by decide +kernel⟩
theorem ok_is_count {P : Program} {w : World} {K : PySem.W.Frag} {mg : Str → Option Value} {base : Heap} (T : Txt K mg) :
    FnG P w K mg base 1 T.a_is_count T.d_is_count ["thing"] (sp_is_count K) := by
  refine okD T.F_is_count sc_is_count (fun vs H Q E h => ?_) (fun cdv A outer s H vs Q E hr h => ?_)
  · first
      | (obtain ⟨_, rfl, _⟩ := h; rfl)
      | (obtain ⟨_, _, rfl, _⟩ := h; rfl)
      | (obtain ⟨_, _, _, rfl, _⟩ := h; rfl)
      | (obtain ⟨_, _, _, _, rfl, _⟩ := h; rfl)
      | (obtain ⟨_, _, _, _, _, rfl, _⟩ := h; rfl)
      | (obtain ⟨_, _, _, _, _, _, rfl, _⟩ := h; rfl)
      | (obtain ⟨_, _, _, _, _, _, _, rfl, _⟩ := h; rfl)
      | (obtain ⟨_, _, _, _, _, _, _, _, rfl, _⟩ := h; rfl)
      | (obtain ⟨_, _, _, _, _, _, _, _, _, rfl, _⟩ := h; rfl)
      | (obtain ⟨_, _, _, _, _, _, _, _, _, _, rfl, _⟩ := h; rfl)
      | (obtain ⟨_, _, _, _, _, _, _, _, _, _, _, rfl, _⟩ := h; rfl)
      | (obtain ⟨_, _, _, _, _, _, _, _, _, _, _, _, rfl, _⟩ := h; rfl)
      | (obtain ⟨_, _, _, _, _, _, _, _, _, _, _, _, _, rfl, _⟩ := h; rfl)
      | (obtain ⟨_, _, _, _, _, _, _, _, _, _, _, _, _, _, rfl, _⟩ := h; rfl)
      | (obtain ⟨_, _, _, _, _, _, _, _, _, _, _, _, _, _, _, rfl, _⟩ := h; rfl)
      | (obtain ⟨_, _, _, _, _, _, _, _, _, _, _, _, _, _, _, _, rfl, _⟩ := h; rfl)
      | (obtain ⟨_, _, _, _, _, _, _, _, _, _, _, _, _, _, _, _, _, rfl, _⟩ := h; rfl)
      | (obtain ⟨_, _, _, _, _, _, _, _, _, _, _, _, _, _, _, _, _, _, rfl, _⟩ := h; rfl)
      | (obtain ⟨_, _, _, _, _, _, _, _, _, _, _, _, _, _, _, _, _, _, _, rfl, _⟩ := h; rfl)
  · obtain ⟨v, d, rfl, hd, k⟩ := h
    refine ⟨_, (pss_one (ps_ret (pe_and (pe_callB (k_isi (K := K) rfl) (by rfl) T.n_isinstance (by decide +kernel) (pa_cons (pv 0) (pa_cons (pe_bltn (v := .ty "int") (by rfl) T.n_int (by decide +kernel) rfl) pa_nil))) (pe_and (pe_not (pe_callB (k_isi (K := K) rfl) (by rfl) T.n_isinstance (by decide +kernel) (pa_cons (pv 0) (pa_cons (pe_bltn (v := .ty "bool") (by rfl) T.n_bool (by decide +kernel) rfl) pa_nil)))) (pe_one (pe_cmpR op_ge (pv 0) pe_int (nomark _))))))), ?_⟩
    dsimp only [cxOf, st_1, st_2, st_3, st_4, st_5, st_6, List.length_cons, List.length_nil, List.replicate_succ, List.replicate_zero, Nat.reduceAdd, Nat.reduceSub]
    walk_at "gs"
    refine i_isA hd (kit_int d) ?_
    walk_at "gs"
    refine i_bool2 (fun c => ?_) (fun c => ?_)
    · walk_at "gs"
      refine i_isA hd (kit_bool d) ?_
      walk_at "gs"
      refine i_bool2 (fun c2 => ?_) (fun c2 => ?_)
      · have e : isI d = true := by rw [isI_eq, c, c2]; rfl
        obtain ⟨n, rfl⟩ := isI_int e
        obtain rfl := hd.2 n rfl
        walk_at "gs"
        exact k
      · rw [cnt_no (by rw [isI_eq, c2, Bool.and_false])] at k
        exact k
    · rw [cnt_no (by rw [isI_eq, c, Bool.false_and])] at k
      exact k
def inL (l : List Int) : PyData → Bool
  | .int n => decide (0 ≤ n ∧ n ∈ l)
  | _ => false
theorem inL_no {l : List Int} {d : PyData} (h : cntD d = false) : inL l d = false := by
  cases d <;> first | rfl | exact decide_eq_false (fun z => absurd z.1 (of_decide_eq_false h))

/-! ### fork -/
def setN (nb : Int → List Int) (u : Int) (l : List Int) : Int → List Int := fun v => if v = u then l else nb v
section
variable {C : Addr} {H : Hp} {t lv nd dx : Addr} {rep : List (Int × Addr)} {ever : Int} {liv : List Int} {nb nb' : Int → List Int}
theorem TiX.congr (x : TiX C H t lv nd dx rep ever liv nb) (h : ∀ p ∈ rep, nb p.1 = nb' p.1) : TiX C H t lv nd dx rep ever liv nb' :=
  ⟨x.ht, x.hl, x.hn, fun p hp => by rw [← h p hp]; exact x.hr p hp, x.ad, x.nk⟩
theorem rep_fun {rep : List (Int × Addr)} (nk : (rep.map (·.1)).Nodup) {u : Int} {a b : Addr} (h : (u, a) ∈ rep) (k : (u, b) ∈ rep) : a = b := by
  have e1 := val_rep nk h
  have e2 := val_rep nk k
  rw [e1] at e2
  injection e2 with e2
  injection e2
theorem rep_inj {rep : List (Int × Addr)} (nk : (rep.map (·.2)).Nodup) {u v : Int} {a : Addr} (h : (u, a) ∈ rep) (k : (v, a) ∈ rep) : u = v := by
  induction rep with
  | nil => cases h
  | cons p rep ih =>
    rw [List.map_cons, List.nodup_cons] at nk
    rcases List.mem_cons.mp h with e | h
    · rcases List.mem_cons.mp k with e2 | k
      · rw [← e] at e2
        injection e2 with e2
        exact e2.symm
      · exact absurd (List.mem_map.mpr ⟨_, k, by rw [← e]⟩) nk.1
    · rcases List.mem_cons.mp k with e2 | k
      · exact absurd (List.mem_map.mpr ⟨_, h, by rw [← e2]⟩) nk.1
      · exact ih nk.2 h k
theorem TiX.parts (x : TiX C H t lv nd dx rep ever liv nb) : t ≠ lv ∧ t ≠ nd ∧ lv ≠ nd ∧ (rep.map (·.2)).Nodup ∧ ∀ p ∈ rep, p.2 ≠ t ∧ p.2 ≠ lv ∧ p.2 ≠ nd := by
  have h := x.ad
  simp only [List.nodup_cons, List.mem_cons, not_or] at h
  obtain ⟨⟨a, b, c⟩, ⟨d, e⟩, f, g⟩ := h
  exact ⟨a, b, d, g, fun p hp => ⟨fun z => c (List.mem_map.mpr ⟨p, hp, z⟩), fun z => e (List.mem_map.mpr ⟨p, hp, z⟩), fun z => f (List.mem_map.mpr ⟨p, hp, z⟩)⟩⟩
/-- what hangs at u is written anew -/
theorem TiX.put (x : TiX C H t lv nd dx rep ever liv nb) {u : Int} {a : Addr} (h : (u, a) ∈ rep) (l : List Int) : TiX C (upd H a (.lst (l.map V.int))) t lv nd dx rep ever liv (setN nb u l) := by
  obtain ⟨_, _, _, n4, n5⟩ := x.parts
  obtain ⟨m1, m2, m3⟩ := n5 _ h
  refine ⟨by rw [upd_ne (Ne.symm m1)]; exact x.ht, by rw [upd_ne (Ne.symm m2)]; exact x.hl, by rw [upd_ne (Ne.symm m3)]; exact x.hn, fun p hp => ?_, x.ad, x.nk⟩
  unfold setN
  by_cases c : p.1 = u
  · have e : p.2 = a := rep_fun x.nk (u := u) (by rw [← c]; exact hp) h
    rw [if_pos c, e]
    exact upd_same
  · have e : p.2 ≠ a := fun e => c (rep_inj n4 (a := a) (by rw [← e]; exact hp) h)
    rw [if_neg c, upd_ne e]
    exact x.hr p hp
theorem TiX.mem (x : TiX C H t lv nd dx rep ever liv nb) {u : Int} (h : u ∈ rep.map (·.1)) : ∃ a, (u, a) ∈ rep ∧ H a = some (.lst ((nb u).map V.int)) := by
  obtain ⟨p, hp, rfl⟩ := List.mem_map.mp h
  exact ⟨p.2, hp, x.hr p hp⟩
theorem TiX.toEver (x : TiX C H t lv nd dx rep ever liv nb) (e : Int) : TiX C (upd H t (.ins C dx (tfs e lv nd))) t lv nd dx rep e liv nb := by
  obtain ⟨n1, n2, n3, n4, n5⟩ := x.parts
  exact ⟨upd_same, by rw [upd_ne (Ne.symm n1)]; exact x.hl, by rw [upd_ne (Ne.symm n2)]; exact x.hn, fun p hp => by rw [upd_ne (n5 p hp).1]; exact x.hr p hp, x.ad, x.nk⟩
theorem TiX.toLiv (x : TiX C H t lv nd dx rep ever liv nb) (l : List Int) : TiX C (upd H lv (.lst (l.map V.int))) t lv nd dx rep ever l nb := by
  obtain ⟨n1, n2, n3, n4, n5⟩ := x.parts
  exact ⟨by rw [upd_ne n1]; exact x.ht, upd_same, by rw [upd_ne (Ne.symm n3)]; exact x.hn, fun p hp => by rw [upd_ne (n5 p hp).2.1]; exact x.hr p hp, x.ad, x.nk⟩
theorem snoc_int {l : List Int} {n : Int} : l.map V.int ++ [V.int n] = (l ++ [n]).map V.int := by
  rw [List.map_append]
  rfl
/-- a world comes, with a list of its own -/
theorem TiX.add (x : TiX C H t lv nd dx rep ever liv nb) {w : Int} {m : Addr} (l : List Int) (f : Fr H m) (hw : w ∉ rep.map (·.1)) :
    TiX C (upd (upd H m (.lst (l.map V.int))) nd (.dK ((rep ++ [(w, m)]).map kA))) t lv nd dx (rep ++ [(w, m)]) ever liv (setN nb w l) := by
  obtain ⟨n1, n2, n3, n4, n5⟩ := x.parts
  have m1 : t ≠ m := fr_ne x.ht f
  have m2 : lv ≠ m := fr_ne x.hl f
  have m3 : nd ≠ m := fr_ne x.hn f
  have m4 : ∀ p ∈ rep, p.2 ≠ m := fun p hp => fr_ne (x.hr p hp) f
  refine ⟨by rw [upd_ne n2, upd_ne m1]; exact x.ht, by rw [upd_ne n3, upd_ne m2]; exact x.hl, upd_same, fun p hp => ?_, ?_, ?_⟩
  · unfold setN
    rcases List.mem_append.mp hp with h | h
    · have e : p.1 ≠ w := fun e => hw (by rw [← e]; exact List.mem_map.mpr ⟨p, h, rfl⟩)
      rw [if_neg e, upd_ne (n5 p h).2.2, upd_ne (m4 p h)]
      exact x.hr p h
    · rw [List.mem_singleton.mp h, if_pos rfl, upd_ne (Ne.symm m3)]
      exact upd_same
  · have e : t :: lv :: nd :: (rep ++ [(w, m)]).map (·.2) = (t :: lv :: nd :: rep.map (·.2)) ++ [m] := by rw [List.map_append]; rfl
    rw [e]
    refine List.nodup_append.mpr ⟨x.ad, by simp, fun b hb c hc q => ?_⟩
    rw [List.mem_singleton.mp hc] at q
    obtain ⟨u, eu⟩ := x.known b hb
    rw [q, f.e] at eu
    cases eu
  · rw [List.map_append]
    refine List.nodup_append.mpr ⟨x.nk, by simp, fun b hb c hc q => hw ?_⟩
    have hc := List.mem_singleton.mp hc
    have q2 : b = w := q.trans hc
    rw [← q2]
    exact hb
end

/-! ### a new instance -/
theorem i_made {C : Addr} {sp : Sp} {E : XK} {H : Hp} {Q : VK} {vs : Addr → List V}
    (h : ∀ x dx, Fr H x → Fr H dx → dx ≠ x → sp (vs x) (upd (upd H dx (.own x)) x (.ins C dx [])) (fun v H2 => v = .non ∧ Q (.ref x) H2) E) :
    Made C sp E H Q vs := fun x dx hx hd n => h x dx ⟨hx⟩ ⟨hd⟩ n
theorem kp_made {H H3 : Hp} {x dx : Addr} {o1 o2 : HO} (hx : Fr H x) (hd : Fr H dx) (k : Kp [x] (upd (upd H dx o1) x o2) H3) : Kp [] H H3 :=
  Kp.drop (Kp.trans (Kp.wide (Kp.upd (Kp.upd Kp.refl hd) hx)) k) hx

/-! ### copies -/
def nbR (rs : List (Int × Int)) (u : Int) : List Int := rs.flatMap fun q => (if q.1 = u then [q.2] else []) ++ (if q.2 = u then [q.1] else [])
theorem nbR_step {rs : List (Int × Int)} {i : Nat} {q : Int × Int} (h : rs[i]? = some q) (u : Int) : nbR (rs.take (i + 1)) u = nbR (rs.take i) u ++ ((if q.1 = u then [q.2] else []) ++ (if q.2 = u then [q.1] else [])) := by
  unfold nbR
  rw [List.take_add_one, h, List.flatMap_append]
  simp
theorem nbR_len (u : Int) : ∀ rs : List (Int × Int), (nbR rs u).length ≤ 2 * rs.length
  | [] => Nat.zero_le _
  | q :: rs => by
    have ih := nbR_len u rs
    unfold nbR at ih ⊢
    rw [List.flatMap_cons, List.length_append, List.length_cons]
    have : ((if q.1 = u then [q.2] else []) ++ (if q.2 = u then [q.1] else [])).length ≤ 2 := by
      rw [List.length_append]
      split <;> split <;> simp
    omega
theorem mem_nbR {rs : List (Int × Int)} {u v : Int} : v ∈ nbR rs u ↔ (u, v) ∈ rs ∨ (v, u) ∈ rs := by
  unfold nbR
  rw [List.mem_flatMap]
  constructor
  · rintro ⟨q, hq, h⟩
    rcases List.mem_append.mp h with h | h
    · by_cases c : q.1 = u
      · rw [if_pos c, List.mem_singleton] at h
        rw [← c, h]
        exact .inl hq
      · rw [if_neg c] at h
        cases h
    · by_cases c : q.2 = u
      · rw [if_pos c, List.mem_singleton] at h
        rw [← c, h]
        exact .inr hq
      · rw [if_neg c] at h
        cases h
  · rintro (h | h)
    · exact ⟨_, h, List.mem_append.mpr (.inl (by rw [if_pos rfl]; exact List.mem_singleton.mpr rfl))⟩
    · exact ⟨_, h, List.mem_append.mpr (.inr (by rw [if_pos rfl]; exact List.mem_singleton.mpr rfl))⟩
theorem nbR_nd {u : Int} : ∀ {rs : List (Int × Int)}, rs.Nodup → (∀ q ∈ rs, q.1 < q.2) → (nbR rs u).Nodup
  | [], _, _ => List.nodup_nil
  | q :: rs, nd, lt => by
    rw [List.nodup_cons] at nd
    have ih := nbR_nd (u := u) nd.2 fun r hr => lt r (List.mem_cons_of_mem _ hr)
    have hq := lt q List.mem_cons_self
    have e : nbR (q :: rs) u = ((if q.1 = u then [q.2] else []) ++ (if q.2 = u then [q.1] else [])) ++ nbR rs u := by
      unfold nbR
      rw [List.flatMap_cons]
    rw [e]
    refine List.nodup_append.mpr ⟨?_, ih, fun a ha b hb q2 => ?_⟩
    · split <;> split <;> first | omega | simp
    · subst q2
      have m := mem_nbR.mp hb
      rcases List.mem_append.mp ha with h | h
      · by_cases c : q.1 = u
        · rw [if_pos c, List.mem_singleton] at h
          subst h
          subst c
          rcases m with m | m
          · exact nd.1 m
          · have := lt _ (List.mem_cons_of_mem _ m)
            have : q.2 < q.1 := this
            omega
        · rw [if_neg c] at h
          cases h
      · by_cases c : q.2 = u
        · rw [if_pos c, List.mem_singleton] at h
          subst h
          subst c
          rcases m with m | m
          · have := lt _ (List.mem_cons_of_mem _ m)
            have : q.2 < q.1 := this
            omega
          · exact nd.1 m
        · rw [if_neg c] at h
          cases h
theorem RowsOf.nd {ks : List Int} {nb : Int → List Int} {rs : List (Int × Int)} (r : RowsOf ks nb rs) : rs.Nodup := r.1.imp fun {a b} z e => by
  subst e
  unfold ltQ at z
  omega
/-- told by its rows, a tree is the same -/
theorem Tr3.told {D : Int → Int → Int} {ever : Int} {liv ks : List Int} {nb : Int → List Int} {rs : List (Int × Int)} (z : Tr3 D ever liv ks nb) (r : RowsOf ks nb rs) : Tr3 D ever liv ks (nbR rs) :=
  z.alike z.nk (fun _ => Iff.rfl) z.nl (fun _ => Iff.rfl) (fun u _ => nbR_nd r.nd fun q hq => ((r.2 q).mp hq).2.2) fun u hu v => by
    rw [mem_nbR, r.2, r.2]
    constructor
    · rintro (⟨_, h, _⟩ | ⟨h1, h2, _⟩)
      · exact h
      · exact z.rp.sym z.t z.hU h1 h2
    · intro h
      obtain ⟨a, b, _⟩ := (z.rp.adj u hu v).mp h
      by_cases c : u < v
      · exact .inl ⟨hu, h, c⟩
      · exact .inr ⟨a, z.rp.sym z.t z.hU hu h, show v < u by omega⟩
theorem wh_lockE {t : TE} {σ : L2.St} {H : Hp} {Q : VK} (P : Hp → Prop) (h : P H) (k : ∀ H', P H' → tLockE t σ H' Q) : tLockE t σ H Q := k H h

theorem pe_either {X : Cx} {e : Expr} {t1 t2 : TE} (h1 : PE X e t1) (h2 : PE X e t2) : PE X e (fun σ H Q => t1 σ H Q ∨ t2 σ H Q) := ⟨fun pins s σ H Q I h => h.elim (h1.run pins s σ H Q I) (h2.run pins s σ H Q I)⟩
section
variable {K : PySem.W.Frag} {t1 t2 td : TE} {σ : L2.St} {H H1 : Hp} {Q : VK} {g : TG} {tt : TT} {tk tv : TE} {vs : List Nat} {a : Addr} {xs : List V}
theorem wh_orE (P : Hp → Prop) (h : P H) (k : ∀ H', P H' → (fun σ H Q => t1 σ H Q ∨ t2 σ H Q : TE) σ H' Q) : (fun σ H Q => t1 σ H Q ∨ t2 σ H Q : TE) σ H Q := k H h
theorem or_dc (P : Addr → Hp → Prop) (q : ∀ d H', P d H' → Q (.ref d) H') (h : (∀ d H', P d H' → Q (.ref d) H') → (fun σ H Q => t1 σ H Q ∨ t2 σ H Q : TE) σ H Q) : (fun σ H Q => t1 σ H Q ∨ t2 σ H Q : TE) σ H Q := h q
theorem i_orL (h : t1 σ H Q) : (fun σ H Q => t1 σ H Q ∨ t2 σ H Q : TE) σ H Q := .inl h
theorem i_orR (h : t2 σ H Q) : (fun σ H Q => t1 σ H Q ∨ t2 σ H Q : TE) σ H Q := .inr h
/-- a dict comprehension over a list -/
def DcL (K : PySem.W.Frag) (x : V) (g : TG) (tt : TT) (tk tv : TE) (vs : List Nat) (σ : L2.St) (H1 : Hp) (Q : VK) : Prop := ∃ a, x = .ref a ∧ (∃ xs, SqL K H1 a xs) ∧ DcB (Itl K a) g tt tk tv vs σ H1 Q
theorem i_dcL (h : td σ H fun x H1 => DcL K x g tt tk tv vs σ H1 Q) : tDc (iList K td) g tt tk tv vs σ H Q := h
theorem i_dlistG (hs : SqL K H a xs) (Pv : Addr → Nat → Hp → Prop)
    (h0 : ∀ R, Fr H R → Pv R 0 (upd H R (.dK [])))
    (hl : ∀ R i H', Fr H R → i ≤ xs.length → Pv R i H' → SqL K H' a xs)
    (st : ∀ R i x H', Fr H R → xs[i]? = some x → Pv R i H' → g x (wipe σ vs) H' fun σ2 H2 =>
      wipe σ2 vs = wipe σ vs ∧ tt σ2 H2 fun b H3 => if b = true then tk σ2 H3 fun y H4 => tv σ2 H4 fun z H5 => ∃ kvs k, y = kV k ∧ H5 R = some (.dK kvs) ∧ kvs.length < sizeLine ∧ Pv R (i + 1) (upd H5 R (.dK (putK kvs k z))) else Pv R (i + 1) H3)
    (hdn : ∀ R H', Fr H R → Pv R xs.length H' → Q (.ref R) H') : DcL K (.ref a) g tt tk tv vs σ H Q := by
  refine ⟨a, rfl, ⟨_, hs⟩, fun R hR => ⟨fun i m H' => m = xs.length - i ∧ i ≤ xs.length ∧ Pv R i H', ⟨_, rfl, Nat.zero_le _, h0 R ⟨hR⟩⟩, ?_⟩⟩
  rintro i m H' ⟨rfl, hi, z⟩
  have q := hl R i H' ⟨hR⟩ hi z
  by_cases c : i < xs.length
  · refine .inr ⟨⟨xs, xs[i], q, List.getElem?_eq_getElem c⟩, Pv R (i + 1), fun H2 w => ⟨_, by omega, rfl, c, w⟩, ?_⟩
    intro x H2 y
    obtain ⟨e, y⟩ := y
    subst e
    exact st R i x _ ⟨hR⟩ (y xs q) z
  · have e : i = xs.length := by omega
    subst e
    exact .inl ⟨⟨xs, q, Nat.le_refl _⟩, hdn R _ ⟨hR⟩ z⟩
end
def sp_made2 (K : PySem.W.Frag) (C : Addr) : Sp := fun vs H Q _ => ∃ (ever : Int) (lvO ndO R : Addr) (liv kk : List Int) (rs : List (Int × Int)), vs = [.int ever, .ref lvO, .ref ndO, .ref R] ∧
  H lvO = some (.lst (liv.map V.int)) ∧ ((∃ repO : List (Int × Addr), H ndO = some (.dK (repO.map kA)) ∧ kk = repO.map (·.1)) ∨ H ndO = some (.lst (kk.map V.int))) ∧ LD K H R (rs.map d2) ∧ kk.Nodup ∧ kk.length ≤ 200 ∧ rs.length ≤ 40000 ∧ (∀ q ∈ rs, q.1 ∈ kk ∧ q.2 ∈ kk ∧ q.1 ≠ q.2) ∧
  ∀ t ps H', Fr H t → (∀ b ∈ ps, Fr H b) → Kp [] H H' → TiesAt C H' t ps ever liv kk (nbR rs) → Q (.ref t) H'
theorem sc_made : FnScope ["ever", "living", "worlds", "rows", "found", "low", "high", "world"] ["ever", "living", "worlds", "rows"] (defScope s_made) :=
  ⟨rfl, rfl, rfl, by decide +kernel, rfl, by decide +kernel, by decide +kernel⟩
theorem ok_made {P : Program} {w : World} {K : PySem.W.Frag} {mg : Str → Option Value} {base : Heap} (T : Txt K mg) :
    FnG P w K mg base 3 T.a_made T.d_made ["ever", "living", "worlds", "rows"] (sp_made2 K T.c_Ties) := by
  refine okD T.F_made sc_made (fun vs H Q E h => ?_) (fun cdv A outer s H vs Q E hr h => ?_)
  · first
      | (obtain ⟨_, rfl, _⟩ := h; rfl)
      | (obtain ⟨_, _, rfl, _⟩ := h; rfl)
      | (obtain ⟨_, _, _, rfl, _⟩ := h; rfl)
      | (obtain ⟨_, _, _, _, rfl, _⟩ := h; rfl)
      | (obtain ⟨_, _, _, _, _, rfl, _⟩ := h; rfl)
      | (obtain ⟨_, _, _, _, _, _, rfl, _⟩ := h; rfl)
      | (obtain ⟨_, _, _, _, _, _, _, rfl, _⟩ := h; rfl)
      | (obtain ⟨_, _, _, _, _, _, _, _, rfl, _⟩ := h; rfl)
      | (obtain ⟨_, _, _, _, _, _, _, _, _, rfl, _⟩ := h; rfl)
      | (obtain ⟨_, _, _, _, _, _, _, _, _, _, rfl, _⟩ := h; rfl)
      | (obtain ⟨_, _, _, _, _, _, _, _, _, _, _, rfl, _⟩ := h; rfl)
      | (obtain ⟨_, _, _, _, _, _, _, _, _, _, _, _, rfl, _⟩ := h; rfl)
      | (obtain ⟨_, _, _, _, _, _, _, _, _, _, _, _, _, rfl, _⟩ := h; rfl)
      | (obtain ⟨_, _, _, _, _, _, _, _, _, _, _, _, _, _, rfl, _⟩ := h; rfl)
      | (obtain ⟨_, _, _, _, _, _, _, _, _, _, _, _, _, _, _, rfl, _⟩ := h; rfl)
      | (obtain ⟨_, _, _, _, _, _, _, _, _, _, _, _, _, _, _, _, rfl, _⟩ := h; rfl)
      | (obtain ⟨_, _, _, _, _, _, _, _, _, _, _, _, _, _, _, _, _, rfl, _⟩ := h; rfl)
      | (obtain ⟨_, _, _, _, _, _, _, _, _, _, _, _, _, _, _, _, _, _, rfl, _⟩ := h; rfl)
      | (obtain ⟨_, _, _, _, _, _, _, _, _, _, _, _, _, _, _, _, _, _, _, rfl, _⟩ := h; rfl)
  · obtain ⟨ever, lvO, ndO, R, liv, kk, rs, rfl, hlO, hnO, hR, nkO, hlen, hrl, hrs, k⟩ := h
    have cl_Ties := T.cl_Ties
    have na_Ties_near := T.na_Ties_near
    have na_Ties_own_ever := T.na_Ties_own_ever
    have na_Ties_own_living := T.na_Ties_own_living
    refine ⟨_, (pss_cons (ps_set (i := 4) sc_made.nd rfl (Or.inl rfl) (mk0 T.mk_Ties (ok_Ties_init T) (hr.mono (by decide)) (by rfl) T.mg_Ties T.b_Ties_init passL))
      (pss_cons (k_sfld (K := K) rfl (pv 4) (pv 0) rfl)
      (pss_cons (k_sfld (K := K) rfl (pv 4) (pe_callTy (k_list (K := K) rfl) (by rfl) T.n_list (by decide +kernel) (pa_cons (pv 1) pa_nil)) rfl)
      (pss_cons (k_sfld (K := K) rfl (pv 4) (pe_either (pe_lock (pe_dc (own := [("world", 7)]) (g := (gName 7)) (tt := tYes) rfl sc_made.nd (pi_keys (pv 2)) (blkOk_by (own := [("world", 7)]) (N := ["ever", "living", "worlds", "rows", "found", "low", "high", "world"]) (sc := defScope s_made) (by decide +kernel)) (fun _ _ _ _ _ => (pg_name (i := 7) sc_made.nd rfl (Or.inl rfl))) (fun _ _ _ _ _ => pts_nil) (fun _ _ _ _ _ => (pv 7)) (fun _ _ _ _ _ => (pe_lst pa_nil)))) (pe_dc (own := [("world", 7)]) (g := (gName 7)) (tt := tYes) rfl sc_made.nd (k_plist (K := K) rfl (pv 2)) (blkOk_by (own := [("world", 7)]) (N := ["ever", "living", "worlds", "rows", "found", "low", "high", "world"]) (sc := defScope s_made) (by decide +kernel)) (fun _ _ _ _ _ => (pg_name (i := 7) sc_made.nd rfl (Or.inl rfl))) (fun _ _ _ _ _ => pts_nil) (fun _ _ _ _ _ => (pv 7)) (fun _ _ _ _ _ => (pe_lst pa_nil)))) rfl)
      (pss_cons (ps_for (passes_of rfl) rfl (k_plist (K := K) rfl (pv 3)) (k_gtup (K := K) 2 rfl rfl (pgs_cons (pg_name (i := 5) sc_made.nd rfl (Or.inl rfl)) (pgs_cons (pg_name (i := 6) sc_made.nd rfl (Or.inl rfl)) pgs_nil)))
      (pss_cons (ps_expr (pe_bm PySem.F.plainAttrs_list PySem.F.slot_list_append PySem.F.type_list_append mt_append (pe_dget (u1 hr.r.units) (k_fld (K := K) rfl (pv 4) rfl) (pv 5) (fun _ _ => rfl)) (pa_cons (pv 6) pa_nil)))
      (pss_one (ps_expr (pe_bm PySem.F.plainAttrs_list PySem.F.slot_list_append PySem.F.type_list_append mt_append (pe_dget (u1 hr.r.units) (k_fld (K := K) rfl (pv 4) rfl) (pv 6) (fun _ _ => rfl)) (pa_cons (pv 5) pa_nil))))))
      (pss_one (ps_ret (pv 4)))))))), ?_⟩
    dsimp only [cxOf, st_1, st_2, st_3, st_4, st_5, st_6, List.length_cons, List.length_nil, List.replicate_succ, List.replicate_zero, Nat.reduceAdd, Nat.reduceSub]
    walk_at "gs"
    refine i_made fun t d ft fd nd => ?_
    refine ⟨t, d, rfl, upd_same, fun ps0 H1 k1 g1 x1 => ?_⟩
    have k01 : Kp [] H H1 := kp_made ft fd k1
    obtain ⟨lv0, nd0, dx, rep0, x1, _, _⟩ := x1
    have ht1 := x1.ht
    have hlO1 := k01.at_ _ _ hlO not_nil
    have nlt : lvO ≠ t := fr_ne hlO ft
    refine ⟨rfl, ?_⟩
    walk_at "gs"
    refine i_new fun L fL => ?_
    walk_at "gs"
    refine wh_orE (fun H4 => Kp [] H H4 ∧ H4 t = some (.ins T.c_Ties dx (tfs ever L nd0)) ∧ H4 L = some (.lst (liv.map V.int)) ∧ Fr H L) ?_ ?_
    · have fL0 : Fr H L := (Kp.upd (o := .ins T.c_Ties dx (tfs ever lv0 nd0)) k01 ft).free fL
      have ntL : t ≠ L := fr_ne upd_same fL
      exact ⟨Kp.upd (Kp.upd (Kp.upd k01 ft) fL0) ft, upd_same, by rw [upd_ne (Ne.symm ntL)]; exact upd_same, fL0⟩
    rintro H4 ⟨k4, ht4, hL4, fL0⟩
    have hR4 := hR.kp k4 (imms_d2 _) not_nil
    have stepK : ∀ {i : Nat} {x : Int}, kk[i]? = some x → x ∉ kk.take i := fun {i x} h z => by
      obtain ⟨j, hj⟩ := List.getElem?_of_mem z
      have jl := (List.getElem?_eq_some_iff.mp hj).1
      rw [List.length_take] at jl
      rw [List.getElem?_take_of_lt (by omega)] at hj
      have := (List.getElem?_inj (List.getElem?_eq_some_iff.mp hj).1 nkO).mp (hj.trans h.symm)
      omega
    have body : ∀ (Hs H' : Hp) (Dd m : Addr) (i : Nat) (x : Int) (rp : List (Int × Addr)), Kp [] Hs H' → Fr Hs Dd → kk[i]? = some x → H' Dd = some (.dK (rp.map kA)) → rp.map (·.1) = kk.take i → (∀ p ∈ rp, H' p.2 = some (.lst []) ∧ Fr Hs p.2) → (Dd :: rp.map (·.2)).Nodup → Fr H' m →
        ∃ (kvs : List (Key × V)) (ky : Key), V.int x = kV ky ∧ upd H' m (.lst []) Dd = some (.dK kvs) ∧ kvs.length < sizeLine ∧ Kp [] Hs (upd (upd H' m (.lst [])) Dd (.dK (putK kvs ky (.ref m)))) ∧ ∃ rp2 : List (Int × Addr), upd (upd H' m (.lst [])) Dd (.dK (putK kvs ky (.ref m))) Dd = some (.dK (rp2.map kA)) ∧ rp2.map (·.1) = kk.take (i + 1) ∧ (∀ p ∈ rp2, upd (upd H' m (.lst [])) Dd (.dK (putK kvs ky (.ref m))) p.2 = some (.lst []) ∧ Fr Hs p.2) ∧ (Dd :: rp2.map (·.2)).Nodup := by
      intro Hs H' Dd m i x rp k5 fD hx hD hk5 hrp nrp fm
      have nin : x ∉ rp.map (·.1) := by
        rw [hk5]
        exact stepK hx
      have hrl2 : rp.length ≤ 200 := by
        have e := congrArg List.length hk5
        rw [List.length_map, List.length_take] at e
        omega
      have nDm : Dd ≠ m := fr_ne hD fm
      have fm0 := k5.free fm
      have km : Kp [] H' (upd H' m (.lst [])) := Kp.new fm
      refine ⟨rp.map kA, .inl x, rfl, by rw [upd_ne nDm]; exact hD, small_sz (by rw [List.length_map]; omega), Kp.upd (Kp.upd k5 fm0) fD, rp ++ [(x, m)], ?_, ?_, fun r hr2 => ?_, ?_⟩
      · rw [put_new nin]
        exact upd_same
      · rw [List.map_append, hk5, List.take_add_one, hx]
        rfl
      · rcases List.mem_append.mp hr2 with h | h
        · obtain ⟨h1, h2⟩ := hrp r h
          have nr : r.2 ≠ Dd := fun e => by
            rw [List.nodup_cons] at nrp
            exact nrp.1 (List.mem_map.mpr ⟨r, h, e⟩)
          exact ⟨by rw [upd_ne nr]; exact km.at_ _ _ h1 not_nil, h2⟩
        · rw [List.mem_singleton.mp h]
          exact ⟨by rw [upd_ne (Ne.symm nDm)]; exact upd_same, fm0⟩
      · have e : Dd :: (rp ++ [(x, m)]).map (·.2) = (Dd :: rp.map (·.2)) ++ [m] := by rw [List.map_append]; rfl
        rw [e]
        refine List.nodup_append.mpr ⟨nrp, by simp, fun b hb c hc q => ?_⟩
        rw [List.mem_singleton.mp hc] at q
        rcases List.mem_cons.mp hb with h | h
        · exact nDm (h.symm.trans q)
        · obtain ⟨r, hr2, e2⟩ := List.mem_map.mp h
          exact fr_ne (hrp r hr2).1 fm (e2.trans q)
    refine or_dc (fun Dd H6 => Fr H4 Dd ∧ Kp [] H4 H6 ∧ ∃ rp : List (Int × Addr), H6 Dd = some (.dK (rp.map kA)) ∧ rp.map (·.1) = kk ∧ (∀ p ∈ rp, H6 p.2 = some (.lst []) ∧ Fr H4 p.2) ∧ (Dd :: rp.map (·.2)).Nodup) ?rest (fun go => ?_)
    case' rest => rintro Dd H6 ⟨fD4, k6, rp, hD6, hk6, hrp6, nrp⟩
    rotate_left
    · rcases hnO with ⟨repO, hnO, ekk⟩ | hnO
      · have hnO4 := k4.at_ _ _ hnO not_nil
        refine i_orL ?_
        refine i_lockE hnO4 fun od => ?_
        walk_at "gs"
        refine i_dkeyG (o := od) upd_same (fun Dd i H' => Kp [] (upd H4 ndO (.frz od (.dK (repO.map kA)))) H' ∧ ∃ rp : List (Int × Addr), H' Dd = some (.dK (rp.map kA)) ∧ rp.map (·.1) = kk.take i ∧ (∀ p ∈ rp, H' p.2 = some (.lst []) ∧ Fr (upd H4 ndO (.frz od (.dK (repO.map kA)))) p.2) ∧ (Dd :: rp.map (·.2)).Nodup) ?_ ?_ ?_ ?_
        · intro Dd fD
          exact ⟨Kp.new fD, [], upd_same, by rw [List.take_zero]; rfl, fun p hp => (nomatch hp), by simp⟩
        · rintro Dd i H' fD ⟨k5, _⟩
          exact k5.at_ _ _ upd_same not_nil
        · rintro Dd i ky v H' fD hk ⟨k5, rp, hD, hk5, hrp, nrp⟩
          obtain ⟨p, hp, e⟩ := map_get hk
          cases e
          have hik : kk[i]? = some p.1 := by rw [ekk, List.getElem?_map, hp]; rfl
          show gName 7 (.int p.1) _ _ _
          walk_at "gs"
          refine i_new fun m fm => ?_
          walk_at "gs"
          exact body _ H' Dd m i p.1 rp k5 fD hik hD hk5 hrp nrp fm
        · rintro Dd H' fD ⟨k5, rp, hD, hk5, hrp, nrp⟩
          have ol : ∀ b, Fr (upd H4 ndO (.frz od (.dK (repO.map kA)))) b → Fr H4 b := fun b f => by
            have n : b ≠ ndO := Ne.symm (fr_ne upd_same f)
            exact ⟨by rw [← f.e, upd_ne n]⟩
          have fD4 : Fr H4 Dd := ol _ fD
          have nDO : Dd ≠ ndO := Ne.symm (fr_ne hnO4 fD4)
          refine ⟨k5.at_ _ _ upd_same not_nil, go _ _ ⟨fD4, kp_unl hnO4 (fun z => z) k5, rp, by rw [upd_ne nDO]; exact hD, by rw [hk5, ekk]; exact List.take_of_length_le (by simp), fun p hp => ?_, nrp⟩⟩
          have f := ol _ (hrp p hp).2
          exact ⟨by rw [upd_ne (Ne.symm (fr_ne hnO4 f))]; exact (hrp p hp).1, f⟩
      · have hnO4 := k4.at_ _ _ hnO not_nil
        refine i_orR ?_
        refine i_dcL ?_
        walk_at "gs"
        refine i_dlistG (SqL.of hnO4) (fun Dd i H' => Kp [] H4 H' ∧ ∃ rp : List (Int × Addr), H' Dd = some (.dK (rp.map kA)) ∧ rp.map (·.1) = kk.take i ∧ (∀ p ∈ rp, H' p.2 = some (.lst []) ∧ Fr H4 p.2) ∧ (Dd :: rp.map (·.2)).Nodup) ?_ ?_ ?_ ?_
        · intro Dd fD
          exact ⟨Kp.new fD, [], upd_same, by rw [List.take_zero]; rfl, fun p hp => (nomatch hp), by simp⟩
        · rintro Dd i H' fD _ ⟨k5, _⟩
          exact SqL.of (k5.at_ _ _ hnO4 not_nil)
        · rintro Dd i y H' fD hy ⟨k5, rp, hD, hk5, hrp, nrp⟩
          obtain ⟨x, hx, e⟩ := map_get hy
          subst e
          walk_at "gs"
          refine i_new fun m fm => ?_
          walk_at "gs"
          exact body _ H' Dd m i x rp k5 fD hx hD hk5 hrp nrp fm
        · rintro Dd H' fD4 ⟨k6, rp, hD6, hk5, hrp6, nrp⟩
          exact go _ _ ⟨fD4, k6, rp, hD6, by rw [hk5]; exact List.take_of_length_le (by simp), hrp6, nrp⟩
    have ntD : t ≠ Dd := fr_ne ht4 fD4
    have nLD : L ≠ Dd := fr_ne hL4 fD4
    have ntL : t ≠ L := fun e => by
      rw [e, hL4] at ht4
      cases ht4
    have nm : ∀ p ∈ rp, p.2 ≠ t ∧ p.2 ≠ L ∧ p.2 ≠ Dd := fun p hp => by
      have f := (hrp6 p hp).2
      refine ⟨Ne.symm (fr_ne ht4 f), Ne.symm (fr_ne hL4 f), fun e => ?_⟩
      rw [List.nodup_cons] at nrp
      exact nrp.1 (List.mem_map.mpr ⟨p, hp, e⟩)
    have ht6 := k6.at_ _ _ ht4 not_nil
    have hL6 := k6.at_ _ _ hL4 not_nil
    have hR6 := hR4.kp k6 (imms_d2 _) not_nil
    have k06 := Kp.trans k4 k6
    walk_at "gs"
    have x7 : TiX T.c_Ties (upd H6 t (.ins T.c_Ties dx (putF "near" (V.ref Dd) (tfs ever L nd0)))) t L Dd dx rp ever liv (nbR []) := by
      refine ⟨show _ = some (HO.ins T.c_Ties dx (tfs ever L Dd)) from upd_same, by rw [upd_ne (Ne.symm ntL)]; exact hL6, by rw [upd_ne (Ne.symm ntD)]; exact hD6, fun p hp => ?_, ?_, by rw [hk6]; exact nkO⟩
      · obtain ⟨n1, n2, n3⟩ := nm p hp
        rw [upd_ne n1]
        exact (hrp6 p hp).1
      · rw [List.nodup_cons] at nrp
        simp only [List.nodup_cons, List.mem_cons, not_or]
        exact ⟨⟨ntL, ntD, fun z => by
          obtain ⟨p, hp, e⟩ := List.mem_map.mp z
          exact (nm p hp).1 e⟩, ⟨nLD, fun z => by
          obtain ⟨p, hp, e⟩ := List.mem_map.mp z
          exact (nm p hp).2.1 e⟩, nrp⟩
    have k07 : Kp [] H (upd H6 t (.ins T.c_Ties dx (putF "near" (V.ref Dd) (tfs ever L nd0)))) := Kp.upd k06 ft
    have frs : ∀ p ∈ rp, Fr H p.2 := fun p hp => k4.free (hrp6 p hp).2
    have fD0 : Fr H Dd := k4.free fD4
    have ld7 := hR.kp k07 (imms_d2 _) not_nil
    obtain ⟨xs, hxs, hall⟩ := id ld7
    have hxl := dpa_len hall
    rw [List.length_map] at hxl
    have hx0 : SqL K H R xs := by
      obtain ⟨ys, hys, _⟩ := id hR
      have e := k07.at_ _ _ hys not_nil
      rw [hxs] at e
      injection e with e
      injection e with e
      rw [e]
      exact SqL.of hys
    have hall0 : DpAll K H xs (rs.map d2) := by
      obtain ⟨ys, hys, ha⟩ := id hR
      have e := k07.at_ _ _ hys not_nil
      rw [hxs] at e
      injection e with e
      injection e with e
      rw [e]
      exact ha
    refine i_each (SqL.of hxs) (fun i σ H2 => ∃ o1 o2 o3 : Option V, σ = [some (.int ever), some (.ref lvO), some (.ref ndO), some (.ref R), some (.ref t), o1, o2, o3] ∧ Kp [] H H2 ∧ TiX T.c_Ties H2 t L Dd dx rp ever liv (nbR (rs.take i))) ?_ ?_ ?_ ?_
    · exact ⟨_, _, _, rfl, k07, by rw [List.take_zero]; exact x7⟩
    · rintro i σ H2 _ ⟨_, _, _, _, k2, _⟩
      exact k2.seqL not_nil hx0
    · rintro i y σ H2 hy ⟨o1, o2, o3, rfl, k2, x2⟩
      obtain ⟨dd, hdd, hdp⟩ := dpa_getV hall0 hy
      obtain ⟨q, hq, rfl⟩ := map_get hdd
      obtain ⟨tt, rfl, hT⟩ := dp_pair (dp_imm k2 _ _ rfl hdp)
      obtain ⟨m1, m2, m3⟩ := hrs q (List.mem_of_getElem? hq)
      rw [← hk6] at m1 m2
      obtain ⟨b1, hb1, c1⟩ := x2.mem m1
      obtain ⟨b2, hb2, c2⟩ := x2.mem m2
      have l1 := nbR_len q.1 (rs.take i)
      have l2 := nbR_len q.2 (rs.take i)
      have l3 := List.length_take_le i rs
      have l4 : (rs.take i).length ≤ rs.length := by rw [List.length_take]; omega
      have ht2 := x2.ht
      have n12 : b1 ≠ b2 := fun e => m3 (rep_inj x2.parts.2.2.2.1 (a := b1) hb1 (by rw [e]; exact hb2))
      walk_at "gs"
      refine i_dg x2.hn (val_rep x2.nk hb1) ?_
      walk_at "gs"
      refine i_app c1 (small_sz (by rw [List.length_map]; omega)) ?_
      rw [snoc_int]
      have x3 := x2.put hb1 (nbR (rs.take i) q.1 ++ [q.2])
      have ht3 := x3.ht
      have c3 : (upd H2 b1 (.lst ((nbR (rs.take i) q.1 ++ [q.2]).map V.int))) b2 = some (.lst ((nbR (rs.take i) q.2).map V.int)) := by rw [upd_ne (Ne.symm n12)]; exact c2
      walk_at "gs"
      refine i_dg x3.hn (val_rep x3.nk hb2) ?_
      walk_at "gs"
      refine i_app c3 (small_sz (by rw [List.length_map]; omega)) ?_
      rw [snoc_int]
      walk_at "gs"
      refine ⟨_, _, _, rfl, Kp.upd (Kp.upd k2 (frs _ hb1)) (frs _ hb2), (x3.put hb2 (nbR (rs.take i) q.2 ++ [q.1])).congr fun p hp => ?_⟩
      show (if p.1 = q.2 then _ else if p.1 = q.1 then _ else nbR (rs.take i) p.1) = _
      rw [nbR_step hq]
      by_cases d1 : p.1 = q.2
      · rw [if_pos d1, if_neg (fun z => m3 (z.trans d1)), if_pos d1.symm, d1]
        rfl
      · rw [if_neg d1, if_neg (fun z : q.2 = p.1 => d1 z.symm)]
        by_cases d3 : p.1 = q.1
        · rw [if_pos d3, if_pos d3.symm, d3, List.append_nil]
        · rw [if_neg d3, if_neg (fun z : q.1 = p.1 => d3 z.symm), List.append_nil, List.append_nil]
    rintro σ H2 ⟨o1, o2, o3, rfl, k2, x2⟩
    rw [hxl, List.take_length] at x2
    walk_at "gs"
    refine k t (t :: L :: Dd :: rp.map (·.2)) H2 ft (fun b hb => ?_) k2 ⟨L, Dd, dx, rp, x2, rfl, hk6.symm⟩
    simp only [List.mem_cons] at hb
    rcases hb with h | h | h | h
    · rw [h]
      exact ft
    · rw [h]
      exact fL0
    · rw [h]
      exact fD0
    · obtain ⟨p, hp, e⟩ := List.mem_map.mp h
      rw [← e]
      exact frs p hp

/-! ### sorted(set(numbers)) of a list -/
section
open PySem PySem.Spec PyProof PyProof.Rows PySem.Calls
/-- the set as it is born -/
abbrev born (w : World) : Obj := { cls := .type "set", dict := none, data := .set #[] 0 (.fresh 0 0 (!w.params.followText "set-order")) }
abbrev grownS (w : World) (s : Shared) : Shared := { s with heap := s.heap.push (born w) }
variable {P : Program} {w : World} {A : Around} {E : Value → Shared → Prop} {s : Shared}
/-- what holds behind set.__init__ -/
def SetDone (w : World) (s : Shared) (ns : List Int) (s2 : Shared) : Prop := ∃ h' tk c, s2 = { s with heap := h', toks := tk } ∧ L2.SetR w h' s.heap.objs.size (fun j => decide (j ∈ ns)) c ∧ c ≤ ns.length ∧ ∀ b o, s.heap.get? b = some o → h'.get? b = some o
theorem ints_at {items : Array Value} {ns : List Int} (hit : IntsAre items.toList ns) (i : Nat) (v : Value) (hv : items[i]? = some v) : ∃ k t, ns[i]? = some k ∧ v = .int k t := by
  have z := IntsAre.length hit
  rw [Array.length_toList] at z
  have hi : i < ns.length := by
    have := (Array.getElem?_eq_some_iff.mp hv).1
    omega
  obtain ⟨t, e⟩ := PyProof.Rows.IntsAre.int_at hit i v (by rw [Array.getElem?_toList]; exact hv)
  exact ⟨ns[i], t, List.getElem?_eq_getElem hi, by rw [e, List.getD_eq_getElem?_getD, List.getElem?_eq_getElem hi]; rfl⟩
theorem setL_call {l : Addr} {items : Array Value} (ns : List Int) {Q : Value → Shared → Prop} (hh : A.handled = none) (hl : s.heap.IsList l items) (hit : IntsAre items.toList ns) (hb : ns.length + 1 < scanBound)
    (k : ∀ s2, SetDone w s ns s2 → Q (.ref s.heap.objs.size) s2) : wpAny (model P w) A (call (.type "set") [.ref l]) Q E s := by
  have len := IntsAre.length hit
  rw [Array.length_toList] at len
  obtain ⟨c0, tl0, m0⟩ := F.called_set.mro
  have m1 := F.called_set.made
  have m2 := F.called_set.sub
  have m3 := F.called_set.notType
  have m4 := F.called_set.canCreate
  have m5 := F.typeCall_set_1 (.ref l)
  refine wpAny_call (codeAny_of_tree ?_)
  show wpAny _ _ (callAny (.type "set") _) _ _ _
  refine wpAny_pure ⟨Code.quiet_builtin _ (by decide +kernel), codeAny_builtin F.entry_type_call ?_⟩
  rw [Around.under_plain (weight_type_call_type "set" [.ref l] []) rfl]
  repeat (any_goals (first | assumption | wp_step))
  refine codeAny_mono (L2.code_set_led1 (.ref l) (E := E) (Q₁ := fun o s1 => o = .ref s.heap.objs.size ∧ s1 = grownS w s) ⟨rfl, rfl⟩) fun r s1 hr => ?_
  match r, hr with
  | .error e, hr => exact hr
  | .ok (.ret o), ⟨e1, e2⟩ =>
    subst e1 e2
    have at0 : (grownS w s).heap.get? s.heap.objs.size = some (born w) := Heap.get?_push_size _ rfl
    have ty0 : Shared.TypeIs (grownS w s) (.ref s.heap.objs.size) "set" := ⟨_, at0, rfl⟩
    have i1 := F.called_set.init.lookup
    have i2 := F.called_set.init.bind (.ref s.heap.objs.size)
    repeat (any_goals (first | assumption | wp_step))
    refine codeAny_mono (codeAny_call_builtin (R := wants (fun r s2 => r = .none ∧ SetDone w s ns s2) E) F.called_set.init.plain F.entry_set_init (check_set_init_1 ty0 ?_)) fun r2 s2 hr2 => ?_
    · obtain ⟨⟨oc, od, odt, os⟩, eo, ec, n, ed⟩ := id hl
      simp only at ec ed
      subst ec ed
      have here : (grownS w s).heap.IsList l items := ⟨_, Heap.get?_push_of_some _ eo, rfl, n, rfl⟩
      have before : l < s.heap.objs.size := Heap.lt_size eo
      have next : (grownS w s).heap.objs.size = s.heap.objs.size + 1 := Heap.size_push ..
      have b1 := F.sub_list_set
      have b2 := F.sub_list_frozenset
      have b3 : (Value.type "list" == Value.type "dict") = false := by decide
      have eo2 : (grownS w s).heap.get? l = _ := Heap.get?_push_of_some _ eo
      unfold Builtin.«set.__init__» noKeywords Builtin.Frozenset.updateFrom
      generalize hPI : pyIter = PI
      wp_walk
      subst hPI
      refine wpAny_pyIter_list here ?_
      refine wpAny_bind (wpAny_runValue ?_)
      have hA : A.in1.in1.in1.handled = none := by simp [hh]
      have apart : l ≠ (grownS w s).heap.objs.size := by rw [next]; exact Nat.ne_of_lt (Nat.lt_succ_of_lt before)
      have away : s.heap.objs.size ∉ [(grownS w s).heap.objs.size, l] := by
        simp only [List.mem_cons, List.not_mem_nil, or_false, not_or]
        exact ⟨by rw [next]; exact Nat.ne_of_lt (Nat.lt_succ_self _), Nat.ne_of_gt before⟩
      refine L2.set_update_ints ((Walks.list hA _ l apart items).toS) s.heap.objs.size away ns len hb (ints_at hit) (items.size - 0) 0 _ (by omega) (Nat.zero_le _) ⟨⟨_, Heap.get?_push_size _ rfl, rfl, rfl⟩, here.push _⟩ ⟨0, Nat.le_refl 0, L2.setR_new_at (Heap.get?_push_of_some _ at0)⟩ ?_
      intro s3 c mv lc R
      obtain ⟨h3, g3, d3, t3, o3⟩ := s3
      have q1 : g3 = s.gens := mv.gens
      have q2 : d3 = s.drawn := mv.drawn
      have q3 : o3 = s.os := mv.os
      subst q1 q2 q3
      rw [len] at lc
      refine wpAny_pure ?_
      show wpAny _ _ (ret Value.none) _ _ _
      refine wpAny_pure ⟨rfl, h3, t3, c, rfl, R, lc, fun b o e => ?_⟩
      have lb := Heap.lt_size e
      refine mv.heap b o ?_ (Heap.get?_push_of_some _ (Heap.get?_push_of_some _ e))
      simp only [List.mem_cons, List.not_mem_nil, or_false, not_or]
      exact ⟨Nat.ne_of_lt lb, by rw [next]; exact Nat.ne_of_lt (Nat.lt_succ_of_lt lb)⟩
    · match r2, hr2 with
      | .error e, hr2 => exact hr2
      | .ok (.ret v), ⟨e3, d⟩ =>
        subst e3
        obtain ⟨h', tk, c, e4, R, lc, kp⟩ := d
        subst e4
        repeat (any_goals (first | assumption | wp_step))
        exact k _ ⟨h', tk, c, rfl, R, lc, kp⟩
end
/-- set(list of numbers) -/
def rSetL (K : PySem.W.Frag) (w : World) : List V → Hp → VK → Prop := fun xs H Q => ∃ (l : Addr) (ns : List Int), xs = [.ref l] ∧ SqL K H l (ns.map V.int) ∧ ns.length ≤ 1000 ∧
  ∀ p c, Fr H p → c ≤ ns.length → Q (.ref p) (upd H p (L2.SetO w p (fun j => decide (j ∈ ns)) c))
theorem k_setL {X : Cx} {K : PySem.W.Frag} {w : World} (h : X.K = K) (hw : X.w = w) (hc : X.calm = true) : CallR X (.type "set") (rSetL K w) := by
  subst h
  subst hw
  intro pins s σ H xs us Q I r q
  obtain ⟨l, ns, rfl, hs, hn, q⟩ := q
  rw [Vals.ref1 r]
  obtain ⟨its, rv, pl, hz⟩ := I.list hs
  have hi : PyProof.Rows.IntsAre its.toArray.toList ns := by simpa using RZ.intsAre_vals rv
  refine setL_call ns (I.ok.hd hc) pl.isList hi (by unfold scanBound; omega) fun s2 d => ?_
  obtain ⟨h', tk, c, rfl, R, lc, kp⟩ := d
  have fresh : H s.heap.objs.size = none := I.hok.fresh (Nat.le_refl _)
  exact ⟨.ref s.heap.objs.size, upd H s.heap.objs.size (L2.SetO X.w s.heap.objs.size (fun j => decide (j ∈ ns)) c), I.laid (t' := tk) kp (Nat.le_refl _) (L2.setO_new R), rfl, q _ c ⟨fresh⟩ lc⟩
theorem k_sortedSet {X : Cx} {w : World} (hw : X.w = w) (hc : X.calm = true) : CallR X (.builtin "sorted") (L2.rSortedSet w) := hw ▸ L2.cr_sortedSet hc

theorem fresh_at {H : Hp} {p : Addr} {o : HO} (_ : Fr H p) : upd H p o p = some o := upd_same
theorem all_rep (n : Nat) : (List.replicate n true).all id = true := by simp

/-! ### a comprehension over a tuple -/
section
variable {K : PySem.W.Frag} {σ : L2.St} {H H1 : Hp} {Q : VK} {a p l : Addr} {xs : List V} {g : TG} {tt : TT} {te : TE} {vs : List Nat}
def LcT (K : PySem.W.Frag) (x : V) (g : TG) (tt : TT) (te : TE) (vs : List Nat) (σ : L2.St) (H1 : Hp) (Q : VK) : Prop :=
  ∃ a, x = .ref a ∧ (∃ xs, SqT K H1 a xs) ∧ ∀ D, H1 D = none →
    ∃ W : Nat → Nat → Hp → Prop, (∃ m, W 0 m (upd H1 D (.lst []))) ∧ ∀ i m H, W i m H →
      ((Itt K a).stop i H ∧ Q (.ref D) H) ∨ ((Itt K a).go i H ∧ ∃ Nx : Hp → Prop,
        (∀ H', Nx H' → ∃ m', m' < m ∧ W (i + 1) m' H') ∧
        ∀ x H', (Itt K a).yld i H x H' → g x (wipe σ vs) H' fun σ2 H2 => wipe σ2 vs = wipe σ vs ∧ tt σ2 H2 fun b H3 =>
          if b = true then te σ2 H3 fun y H4 => ∃ acc, H4 D = some (.lst acc) ∧ acc.length < sizeLine ∧
            Nx (upd H4 D (.lst (acc ++ [y]))) else Nx H3)
theorem i_lcT {te' : TE} (h : te' σ H fun x H1 => LcT K x g tt te vs σ H1 Q) :
    tLc (iTup K te') g tt te vs σ H Q := h
theorem i_eltsT (hs : SqT K H a xs) (Pv : Addr → Nat → Hp → Prop)
    (h0 : ∀ D, Fr H D → Pv D 0 (upd H D (.lst [])))
    (hl : ∀ D i H', Fr H D → i ≤ xs.length → Pv D i H' → SqT K H' a xs)
    (st : ∀ (D : Addr) (i : Nat) (x : V) (H' : Hp), Fr H D → xs[i]? = some x → Pv D i H' → g x (wipe σ vs) H' fun σ2 H2 =>
      wipe σ2 vs = wipe σ vs ∧ tt σ2 H2 fun b H3 => if b = true then te σ2 H3 fun y H4 =>
        ∃ acc, H4 D = some (.lst acc) ∧ acc.length < sizeLine ∧ Pv D (i + 1) (upd H4 D (.lst (acc ++ [y])))
        else Pv D (i + 1) H3)
    (hd : ∀ D H', Fr H D → Pv D xs.length H' → Q (.ref D) H') : LcT K (.ref a) g tt te vs σ H Q := by
  refine ⟨a, rfl, ⟨_, hs⟩, fun D hD => ?_⟩
  exact lc_tup (K := K) (a := a) (xs := xs) (Pv D) (h0 D ⟨hD⟩) (fun i H' => hl D i H' ⟨hD⟩)
    (fun i x H' => st D i x H' ⟨hD⟩) (fun H' => hd D H' ⟨hD⟩)
end

/-! ### are_worlds, are_pairs -/
def sp_worlds (K : PySem.W.Frag) : Sp := fun vs H Q _ => ∃ (a : Addr) (e : Int) (ls : List Int), vs = [.ref a, .int e] ∧ H a = some (.lst (ls.map V.int)) ∧ ls.Pairwise (· < ·) ∧ (∀ x ∈ ls, Un e x) ∧ ls.length < 64 ∧ ∀ H', Kp [] H H' → Q (.bl true) H'
theorem sc_are_worlds : FnScope ["thing", "ever", "world"] ["thing", "ever"] (defScope s_are_worlds) :=
  ⟨rfl, rfl, rfl, by decide +kernel, rfl, by decide +kernel, by decide +kernel⟩
theorem ok_are_worlds {P : Program} {w : World} {K : PySem.W.Frag} {mg : Str → Option Value} {base : Heap} (T : Txt K mg) :
    FnG P w K mg base 2 T.a_are_worlds T.d_are_worlds ["thing", "ever"] (sp_worlds K) := by
  refine okD T.F_are_worlds sc_are_worlds (fun vs H Q E h => ?_) (fun cdv A outer s H vs Q E hr h => ?_)
  · first
      | (obtain ⟨_, rfl, _⟩ := h; rfl)
      | (obtain ⟨_, _, rfl, _⟩ := h; rfl)
      | (obtain ⟨_, _, _, rfl, _⟩ := h; rfl)
      | (obtain ⟨_, _, _, _, rfl, _⟩ := h; rfl)
      | (obtain ⟨_, _, _, _, _, rfl, _⟩ := h; rfl)
      | (obtain ⟨_, _, _, _, _, _, rfl, _⟩ := h; rfl)
      | (obtain ⟨_, _, _, _, _, _, _, rfl, _⟩ := h; rfl)
      | (obtain ⟨_, _, _, _, _, _, _, _, rfl, _⟩ := h; rfl)
      | (obtain ⟨_, _, _, _, _, _, _, _, _, rfl, _⟩ := h; rfl)
      | (obtain ⟨_, _, _, _, _, _, _, _, _, _, rfl, _⟩ := h; rfl)
      | (obtain ⟨_, _, _, _, _, _, _, _, _, _, _, rfl, _⟩ := h; rfl)
      | (obtain ⟨_, _, _, _, _, _, _, _, _, _, _, _, rfl, _⟩ := h; rfl)
      | (obtain ⟨_, _, _, _, _, _, _, _, _, _, _, _, _, rfl, _⟩ := h; rfl)
      | (obtain ⟨_, _, _, _, _, _, _, _, _, _, _, _, _, _, rfl, _⟩ := h; rfl)
      | (obtain ⟨_, _, _, _, _, _, _, _, _, _, _, _, _, _, _, rfl, _⟩ := h; rfl)
      | (obtain ⟨_, _, _, _, _, _, _, _, _, _, _, _, _, _, _, _, rfl, _⟩ := h; rfl)
      | (obtain ⟨_, _, _, _, _, _, _, _, _, _, _, _, _, _, _, _, _, rfl, _⟩ := h; rfl)
      | (obtain ⟨_, _, _, _, _, _, _, _, _, _, _, _, _, _, _, _, _, _, rfl, _⟩ := h; rfl)
      | (obtain ⟨_, _, _, _, _, _, _, _, _, _, _, _, _, _, _, _, _, _, _, rfl, _⟩ := h; rfl)
  · obtain ⟨a, e, ls, rfl, ha, sl, hU, hl, k⟩ := h
    have hsa : SqL K H a (ls.map V.int) := SqL.of ha
    refine ⟨_, (pss_cons (ps_if (PW.pt (pw_or (pt_not (pt_val (pe_callB (k_isi (K := K) rfl) (by rfl) T.n_isinstance (by decide +kernel) (pa_cons (pv 0) (pa_cons (pe_bltn (v := .ty "list") (by rfl) T.n_list (by decide +kernel) rfl) pa_nil))))) (pw_or1 (pt_not (pt_val (pe_callB (k_all (K := K) rfl rfl) (by rfl) T.n_all (by decide +kernel) (pa_cons (pe_lc (own := [("world", 2)]) (g := (gName 2)) (tt := tYes) rfl sc_are_worlds.nd (k_plist (K := K) rfl (pv 0)) (blkOk_by (own := [("world", 2)]) (N := ["thing", "ever", "world"]) (sc := defScope s_are_worlds) (by decide +kernel)) (fun _ _ _ _ _ => (pg_name (i := 2) sc_are_worlds.nd rfl (Or.inl rfl))) (fun _ _ _ _ _ => pts_nil) (fun _ _ _ _ _ => (pe_and (d1 (ok_is_count T) (hr.mono (by decide)) (by rfl) T.m_is_count T.F_is_count.kp T.b_is_count passL (pa_cons (pv 2) pa_nil)) (pe_one (pe_cmpR op_lt (pv 2) (pv 1) (nomark _)))))) pa_nil))))))) (pss_one (ps_ret pe_bl)) pss_nil)
      (pss_one (ps_ret (pe_cmpR (k_eq (K := K) rfl hr.r.units) (pv 0) (pe_callB (k_sortedSet (w := w) rfl rfl) (by rfl) T.n_sorted (by decide +kernel) (pa_cons (pe_callTy (k_setL (K := K) (w := w) rfl rfl rfl) (by rfl) T.n_set (by decide +kernel) (pa_cons (pv 0) pa_nil)) pa_nil)) (nomark _))))), ?_⟩
    dsimp only [cxOf, st_1, st_2, st_3, st_4, st_5, st_6, List.length_cons, List.length_nil, List.replicate_succ, List.replicate_zero, Nat.reduceAdd, Nat.reduceSub]
    walk_at "gs"
    refine i_isD (dp_ints hsa) (show kitB "list" "list" = some true by decide +kernel) ?_
    walk_at "gs"
    refine i_elts hsa (fun R i H' => Kp [] H H' ∧ H' R = some (.lst ((List.replicate i true).map V.bl))) ?_ ?_ ?_ ?_
    · intro R fR
      exact ⟨Kp.new fR, upd_same⟩
    · rintro R i H' fR _ ⟨kk, _⟩
      exact kk.seqL not_nil hsa
    · rintro R i y H' fR hy ⟨kk, hR⟩
      obtain ⟨x, hx, e⟩ := map_get hy
      subst e
      obtain ⟨h0, h1⟩ := hU x (List.mem_of_getElem? hx)
      have hil := (List.getElem?_eq_some_iff.mp hx).1
      walk_at "gs"
      refine ⟨.int x, .int x, rfl, Any.int x, ?_⟩
      rw [show cntD (.int x) = true from decide_eq_true h0]
      walk_at "gs"
      rw [decide_eq_true h1]
      refine ⟨_, hR, small_sz (by rw [List.length_map, List.length_replicate]; omega), Kp.upd kk fR, ?_⟩
      have e : (List.replicate (i + 1) true).map V.bl = (List.replicate i true).map V.bl ++ [V.bl true] := by
        rw [List.replicate_succ', List.map_append]
        rfl
      rw [e]
      exact upd_same
    rintro R H' fR ⟨kk, hR⟩
    have ha2 := kk.at_ _ _ ha not_nil
    walk_at "gs"
    refine i_all (SqL.of hR) ?_
    rw [all_rep]
    walk_at "gs"
    refine ⟨a, ls, rfl, SqL.of ha2, by omega, fun S c fS lc => ?_⟩
    have kS := Kp.new (ws := []) (o := L2.SetO w S (fun j => decide (j ∈ ls)) c) fS
    have hS := fresh_at (o := L2.SetO w S (fun j => decide (j ∈ ls)) c) fS
    have ha3 := kS.at_ _ _ ha2 not_nil
    walk_at "gs"
    refine ⟨S, _, c, rfl, hS, by omega, fun ms p sm mem lm fp => ?_⟩
    have em : ms = ls := lt_uniq sm sl fun x => by rw [mem, decide_eq_true_eq]
    subst em
    have kp := Kp.new (ws := []) (o := .lst (ms.map V.int)) ⟨fp⟩
    walk_at "gs"
    refine eq_ints (SqL.of (kp.at_ _ _ ha3 not_nil)) (SqL.of upd_same) ?_
    rw [decide_eq_true rfl]
    exact k _ (Kp.trans kk (Kp.trans kS kp))
theorem k_setT {X : Cx} {K : PySem.W.Frag} {P : Program} {w : World} (h : X.K = K) (hP : X.prog = P) (hw : X.w = w) (hc : X.calm = true) (hu : X.A.units + 64 < cLine) : CallR X (.type "set") (L2.rSetOfT K P w) := by
  subst h
  subst hP
  subst hw
  exact L2.cr_setOfT hc hu
theorem k_sortedT {X : Cx} {K : PySem.W.Frag} {P : Program} {w : World} (h : X.K = K) (hP : X.prog = P) (hw : X.w = w) (hc : X.calm = true) : CallR X (.builtin "sorted") (L2.rSortedT K P w) := by
  subst h
  subst hP
  subst hw
  exact L2.cr_sortedT hc
/-- the tuples of a list of pairs, where they stand -/
theorem dpa_refs {K : PySem.W.Frag} {H : Hp} : ∀ {xs : List V} {rs : List (Int × Int)}, DpAll K H xs (rs.map d2) → ∃ ks : List (Addr × List Int), xs = ks.map (fun p => V.ref p.1) ∧ (∀ p ∈ ks, SqT K H p.1 (p.2.map V.int)) ∧ ks.map (·.2) = rs.map fun q => [q.1, q.2]
  | _, [], h => by
    cases h
    exact ⟨[], rfl, fun _ z => (nomatch z), rfl⟩
  | _, q :: rs, h => by
    cases h with
    | cons h1 h2 =>
      obtain ⟨t, rfl, hT⟩ := dp_pair h1
      obtain ⟨ks, e1, e2, e3⟩ := dpa_refs h2
      refine ⟨(t, [q.1, q.2]) :: ks, by rw [List.map_cons, e1], fun p hp => ?_, by rw [List.map_cons, List.map_cons, e3]⟩
      rcases List.mem_cons.mp hp with e | hp
      · rw [e]
        exact hT
      · exact e2 p hp
theorem dpa_of_refs {K : PySem.W.Frag} {H : Hp} : ∀ {ks : List (Addr × List Int)} {rs : List (Int × Int)}, (∀ p ∈ ks, SqT K H p.1 (p.2.map V.int)) → ks.map (·.2) = rs.map (fun q => [q.1, q.2]) → DpAll K H (ks.map fun p => V.ref p.1) (rs.map d2)
  | [], [], _, _ => .nil
  | [], _ :: _, _, e => by cases e
  | _ :: _, [], _, e => by cases e
  | p :: ks, q :: rs, h, e => by
    rw [List.map_cons, List.map_cons] at e
    injection e with e1 e2
    rw [List.map_cons, List.map_cons]
    refine .cons (dp_mk2 ?_) (dpa_of_refs (fun r hr => h r (List.mem_cons_of_mem _ hr)) e2)
    have := h p List.mem_cons_self
    rw [e1] at this
    exact this
def sp_prs (K : PySem.W.Frag) : Sp := fun vs H Q _ => ∃ (R W : Addr) (rs : List (Int × Int)) (ws : List Int), vs = [.ref R, .ref W] ∧ LD K H R (rs.map d2) ∧ H W = some (.lst (ws.map V.int)) ∧ rs.Pairwise ltQ ∧ rs.length < 64 ∧ (∀ q ∈ rs, (0 ≤ q.1 ∧ q.1 < q.2 ∧ q.2 < 64) ∧ q.1 ∈ ws ∧ q.2 ∈ ws) ∧ ∀ H', Kp [] H H' → Q (.bl true) H'
theorem sc_are_pairs : FnScope ["thing", "worlds", "row", "world"] ["thing", "worlds"] (defScope s_are_pairs) :=
  ⟨rfl, rfl, rfl, by decide +kernel, rfl, by decide +kernel, by decide +kernel⟩
theorem ok_are_pairs {P : Program} {w : World} {K : PySem.W.Frag} {mg : Str → Option Value} {base : Heap} (T : Txt K mg) :
    FnG P w K mg base 2 T.a_are_pairs T.d_are_pairs ["thing", "worlds"] (sp_prs K) := by
  refine okD T.F_are_pairs sc_are_pairs (fun vs H Q E h => ?_) (fun cdv A outer s H vs Q E hr h => ?_)
  · first
      | (obtain ⟨_, rfl, _⟩ := h; rfl)
      | (obtain ⟨_, _, rfl, _⟩ := h; rfl)
      | (obtain ⟨_, _, _, rfl, _⟩ := h; rfl)
      | (obtain ⟨_, _, _, _, rfl, _⟩ := h; rfl)
      | (obtain ⟨_, _, _, _, _, rfl, _⟩ := h; rfl)
      | (obtain ⟨_, _, _, _, _, _, rfl, _⟩ := h; rfl)
      | (obtain ⟨_, _, _, _, _, _, _, rfl, _⟩ := h; rfl)
      | (obtain ⟨_, _, _, _, _, _, _, _, rfl, _⟩ := h; rfl)
      | (obtain ⟨_, _, _, _, _, _, _, _, _, rfl, _⟩ := h; rfl)
      | (obtain ⟨_, _, _, _, _, _, _, _, _, _, rfl, _⟩ := h; rfl)
      | (obtain ⟨_, _, _, _, _, _, _, _, _, _, _, rfl, _⟩ := h; rfl)
      | (obtain ⟨_, _, _, _, _, _, _, _, _, _, _, _, rfl, _⟩ := h; rfl)
      | (obtain ⟨_, _, _, _, _, _, _, _, _, _, _, _, _, rfl, _⟩ := h; rfl)
      | (obtain ⟨_, _, _, _, _, _, _, _, _, _, _, _, _, _, rfl, _⟩ := h; rfl)
      | (obtain ⟨_, _, _, _, _, _, _, _, _, _, _, _, _, _, _, rfl, _⟩ := h; rfl)
      | (obtain ⟨_, _, _, _, _, _, _, _, _, _, _, _, _, _, _, _, rfl, _⟩ := h; rfl)
      | (obtain ⟨_, _, _, _, _, _, _, _, _, _, _, _, _, _, _, _, _, rfl, _⟩ := h; rfl)
      | (obtain ⟨_, _, _, _, _, _, _, _, _, _, _, _, _, _, _, _, _, _, rfl, _⟩ := h; rfl)
      | (obtain ⟨_, _, _, _, _, _, _, _, _, _, _, _, _, _, _, _, _, _, _, rfl, _⟩ := h; rfl)
  · obtain ⟨R, W, rs, ws, rfl, ld, hW, srt, few, ok, k⟩ := h
    obtain ⟨xs, hxs, hall⟩ := id ld
    have hxl := dpa_len hall
    rw [List.length_map] at hxl
    refine ⟨_, (pss_cons (ps_if (pt_not (pt_val (pe_callB (k_isi (K := K) rfl) (by rfl) T.n_isinstance (by decide +kernel) (pa_cons (pv 0) (pa_cons (pe_bltn (v := .ty "list") (by rfl) T.n_list (by decide +kernel) rfl) pa_nil))))) (pss_one (ps_ret pe_bl)) pss_nil)
      (pss_cons (ps_for (passes_of rfl) rfl (k_plist (K := K) rfl (pv 0)) (pg_name (i := 2) sc_are_pairs.nd rfl (Or.inl rfl))
      (pss_cons (ps_if (PW.pt (pw_or (pt_not (pt_val (pe_callB (k_isi (K := K) rfl) (by rfl) T.n_isinstance (by decide +kernel) (pa_cons (pv 2) (pa_cons (pe_bltn (v := .ty "tuple") (by rfl) T.n_tuple (by decide +kernel) rfl) pa_nil))))) (pw_or (pt_cmpR (k_ne (K := K) rfl hr.r.units) (pe_callB (k_len (K := K) rfl) (by rfl) T.n_len (by decide +kernel) (pa_cons (pv 2) pa_nil)) pe_int (nomark _)) (pw_or1 (pt_not (pt_val (pe_callB (k_all (K := K) rfl rfl) (by rfl) T.n_all (by decide +kernel) (pa_cons (pe_lc (own := [("world", 3)]) (g := (gName 3)) (tt := tYes) rfl sc_are_pairs.nd (k_ptup (K := K) rfl (pv 2)) (blkOk_by (own := [("world", 3)]) (N := ["thing", "worlds", "row", "world"]) (sc := defScope s_are_pairs) (by decide +kernel)) (fun _ _ _ _ _ => (pg_name (i := 3) sc_are_pairs.nd rfl (Or.inl rfl))) (fun _ _ _ _ _ => pts_nil) (fun _ _ _ _ _ => (d1 (ok_is_count T) (hr.mono (by decide)) (by rfl) T.m_is_count T.F_is_count.kp T.b_is_count passL (pa_cons (pv 3) pa_nil)))) pa_nil)))))))) (pss_one (ps_ret pe_bl)) pss_nil)
      (pss_one (ps_if (PW.pt (pw_or (pt_cmpR op_ge (pe_ix (k_ix (K := K) rfl) (pv 2) pe_int (fun _ _ => rfl)) (pe_ix (k_ix (K := K) rfl) (pv 2) pe_int (fun _ _ => rfl)) (nomark _)) (pw_or (pt_cmpR (k_nin (K := K) rfl) (pe_ix (k_ix (K := K) rfl) (pv 2) pe_int (fun _ _ => rfl)) (pv 1) (rfl)) (pw_or1 (pt_cmpR (k_nin (K := K) rfl) (pe_ix (k_ix (K := K) rfl) (pv 2) pe_int (fun _ _ => rfl)) (pv 1) (rfl)))))) (pss_one (ps_ret pe_bl)) pss_nil))))
      (pss_one (ps_ret (pe_cmpR (k_eq (K := K) rfl hr.r.units) (pv 0) (pe_callB (k_sortedT (K := K) (P := P) (w := w) rfl rfl rfl rfl) (by rfl) T.n_sorted (by decide +kernel) (pa_cons (pe_callTy (k_setT (K := K) (P := P) (w := w) rfl rfl rfl rfl hr.r.units) (by rfl) T.n_set (by decide +kernel) (pa_cons (pv 0) pa_nil)) pa_nil)) (nomark _)))))), ?_⟩
    dsimp only [cxOf, st_1, st_2, st_3, st_4, st_5, st_6, List.length_cons, List.length_nil, List.replicate_succ, List.replicate_zero, Nat.reduceAdd, Nat.reduceSub]
    walk_at "gs"
    refine i_isD ld.dp (show kitB "list" "list" = some true by decide +kernel) ?_
    walk_at "gs"
    refine i_each (SqL.of hxs) (fun i σ H' => ∃ o2 : Option V, σ = [some (.ref R), some (.ref W), o2, none] ∧ Kp [] H H') ?_ ?_ ?_ ?_
    · exact ⟨_, rfl, Kp.refl⟩
    · rintro i σ H' _ ⟨_, _, kk⟩
      exact kk.seqL not_nil (SqL.of hxs)
    · rintro i y σ H' hy ⟨o2, rfl, kk⟩
      obtain ⟨dd, hdd, hdp⟩ := dpa_getV hall hy
      obtain ⟨q, hq, rfl⟩ := map_get hdd
      have hdp' := dp_imm kk _ _ rfl hdp
      obtain ⟨t, rfl, hT⟩ := dp_pair hdp'
      obtain ⟨⟨h0, h1, h2⟩, h3, h4⟩ := ok q (List.mem_of_getElem? hq)
      have hW1 : SqL K H' W (ws.map V.int) := SqL.of (kk.at_ _ _ hW not_nil)
      walk_at "gs"
      refine i_isD hdp' (show kitB "tuple" "tuple" = some true by decide +kernel) ?_
      walk_at "gs"
      refine i_decN (fun z => absurd rfl z) (fun _ => ?_)
      walk_at "gs"
      refine i_lcT ?_
      walk_at "gs"
      refine i_eltsT hT (fun L j H2 => Kp [] H' H2 ∧ H2 L = some (.lst ((List.replicate j true).map V.bl))) ?_ ?_ ?_ ?_
      · intro L fL
        exact ⟨Kp.new fL, upd_same⟩
      · rintro L j H2 fL _ ⟨k2, _⟩
        exact k2.seqT hT
      · rintro L j y H2 fL hy ⟨k2, hL⟩
        have e : ∃ n : Int, y = .int n ∧ 0 ≤ n := by
          match j, hy with
          | 0, h => exact ⟨q.1, (Option.some.inj h).symm, h0⟩
          | 1, h => exact ⟨q.2, (Option.some.inj h).symm, by omega⟩
        obtain ⟨n, rfl, n0⟩ := e
        have hjl := (List.getElem?_eq_some_iff.mp hy).1
        have hj2 : j < 2 := hjl
        walk_at "gs"
        refine ⟨.int n, .int n, rfl, Any.int n, ?_⟩
        rw [show cntD (.int n) = true from decide_eq_true n0]
        refine ⟨_, hL, small_sz (by rw [List.length_map, List.length_replicate]; omega), Kp.upd k2 fL, ?_⟩
        have e : (List.replicate (j + 1) true).map V.bl = (List.replicate j true).map V.bl ++ [V.bl true] := by
          rw [List.replicate_succ', List.map_append]
          rfl
        rw [e]
        exact upd_same
      rintro L H2 fL ⟨k2, hL⟩
      have hT2 : SqT K H2 t [V.int q.1, V.int q.2] := k2.seqT hT
      have hW2 : SqL K H2 W (ws.map V.int) := SqL.of ((Kp.trans kk k2).at_ _ _ hW not_nil)
      walk_at "gs"
      refine i_all (SqL.of hL) ?_
      rw [all_rep]
      walk_at "gs"
      refine i_dec (fun z => absurd z (by omega)) (fun _ => ?_)
      walk_at "gs"
      refine i_decN (fun z => absurd h3 z) (fun _ => ?_)
      walk_at "gs"
      refine i_decN (fun z => absurd h4 z) (fun _ => ?_)
      walk_at "gs"
      exact ⟨_, rfl, Kp.trans kk k2⟩
    rintro σ H' ⟨o2, rfl, kk⟩
    have hx2 := kk.at_ _ _ hxs not_nil
    have ld2 := ld.kp kk (imms_d2 _) not_nil
    have hall2 := dpa_imm kk _ _ (imms_d2 _) hall
    obtain ⟨ks, e1, e2, e3⟩ := dpa_refs hall2
    have lk : ks.length = rs.length := by
      have := congrArg List.length e3
      rw [List.length_map, List.length_map] at this
      exact this
    walk_at "gs"
    refine ⟨R, ks, rfl, by rw [← e1]; exact SqL.of hx2, e2, by omega, fun S L fS sub all => ?_⟩
    have kS := Kp.new (ws := []) (o := L2.SetTO P w S L) ⟨fS⟩
    have hS := fresh_at (H := H') (p := S) (o := L2.SetTO P w S L) ⟨fS⟩
    have inr : ∀ p ∈ ks, ∃ q ∈ rs, p.2 = [q.1, q.2] := fun p hp => by
      have h : p.2 ∈ ks.map (·.2) := List.mem_map.mpr ⟨p, hp, rfl⟩
      rw [e3] at h
      obtain ⟨q, hq, e⟩ := List.mem_map.mp h
      exact ⟨q, hq, e.symm⟩
    walk_at "gs"
    refine ⟨S, L, 2, 64, rfl, hS, fun p hp => kS.seqT (e2 p (sub p hp)), by decide, fun p hp => ?_, fun L' p pm nd2 few2 code fp => ?_⟩
    · obtain ⟨q, hq, e⟩ := inr p (sub p hp)
      obtain ⟨⟨a, b, c⟩, _⟩ := ok q hq
      rw [e]
      refine ⟨rfl, fun y hy => ?_⟩
      simp only [List.mem_cons, List.not_mem_nil, or_false] at hy
      omega
    have kp := Kp.new (ws := []) (o := .lst (L'.map fun q => V.ref q.1)) ⟨fp⟩
    have inL' : ∀ p ∈ L', p ∈ ks ∧ ∃ q ∈ rs, p.2 = [q.1, q.2] := fun p hp => by
      have h := sub p (pm.mem_iff.mp hp)
      exact ⟨h, inr p h⟩
    obtain ⟨rs2, er⟩ : ∃ rs2 : List (Int × Int), rs2 = L'.map fun p => (p.2.getD 0 0, p.2.getD 1 0) := ⟨_, rfl⟩
    have e5 : L'.map (·.2) = rs2.map fun q => [q.1, q.2] := by
      rw [er, List.map_map]
      refine List.map_congr_left fun p hp => ?_
      obtain ⟨_, q, _, e⟩ := inL' p hp
      show p.2 = [p.2.getD 0 0, p.2.getD 1 0]
      rw [e]
      rfl
    have m5 : ∀ q, q ∈ rs2 ↔ q ∈ rs := fun q => by
      rw [er, List.mem_map]
      constructor
      · rintro ⟨p, hp, rfl⟩
        obtain ⟨_, r, hr2, e⟩ := inL' p hp
        rw [e]
        exact hr2
      · intro hq
        have h : [q.1, q.2] ∈ ks.map (·.2) := by
          rw [e3]
          exact List.mem_map.mpr ⟨q, hq, rfl⟩
        obtain ⟨p, hp, e⟩ := List.mem_map.mp h
        obtain ⟨p2, hp2, e6⟩ := List.mem_map.mp (all p hp)
        refine ⟨p2, pm.mem_iff.mpr hp2, ?_⟩
        have e6 : p2.2 = p.2 := e6
        have e : p.2 = [q.1, q.2] := e
        rw [e6, e]
        rfl
    have srt2 : rs2.Pairwise ltQ := by
      rw [er]
      refine List.pairwise_map.mpr ((code.and (List.pairwise_map.mp nd2)).imp_of_mem fun {x y} hx hy z => ?_)
      obtain ⟨_, q, hq, e⟩ := inL' x hx
      obtain ⟨_, r, hr2, e'⟩ := inL' y hy
      obtain ⟨⟨a, b, c⟩, _⟩ := ok q hq
      obtain ⟨⟨a', b', c'⟩, _⟩ := ok r hr2
      obtain ⟨z1, z2⟩ := z
      rw [e, e'] at z1 z2 ⊢
      have lt := L2.pair_lt z1 z2 ⟨a, by omega⟩ ⟨by omega, c⟩ ⟨a', by omega⟩ ⟨by omega, c'⟩
      exact lt
    have ers : rs2 = rs := ltQ_uniq srt2 srt m5
    subst ers
    have kSp := Kp.trans kS kp
    have dall : DpAll K _ (L'.map fun p => V.ref p.1) (rs2.map d2) := dpa_of_refs (fun q hq => kSp.seqT (e2 q (inL' q hq).1)) e5
    walk_at "gs"
    refine i_eqD (ld2.kp kSp (imms_d2 _) not_nil).dp (.lst (SqL.of upd_same) dall) (shaped_pairs _) (shaped_pairs _) ?_
    simp only [PyData.eqv]
    rw [eqv_pairsT, decide_eq_true rfl]
    exact k _ (Kp.trans kk kSp)

/-! ### has, tied; the one who is refused -/
theorem Any.tg {K : PySem.W.Frag} {H : Hp} {ws : List Addr} {v : V} {d : PyData} (t : Tg K H ws v d) : Any K H v d := ⟨t.ty, fun n e => by
  subst e
  rcases t with h | ⟨e, _⟩
  · cases h
    rfl
  · cases e⟩
theorem Tg.int {K : PySem.W.Frag} {H : Hp} {ws : List Addr} (n : Int) : Tg K H ws (.int n) (.int n) := .inl (.int n)
def sp_thas (K : PySem.W.Frag) (C : Addr) : Sp := fun vs H Q _ => ∃ (t : Addr) (ps : List Addr) (ever : Int) (liv ks : List Int) (nb : Int → List Int) (v : V) (d : PyData), vs = [.ref t, v] ∧ TiesAt C H t ps ever liv ks nb ∧ Any K H v d ∧ Q (.bl (inL ks d)) H
theorem sc_Ties_has : FnScope ["self", "thing"] ["self", "thing"] (defScope s_Ties_has) :=
  ⟨rfl, rfl, rfl, by decide +kernel, rfl, by decide +kernel, by decide +kernel⟩
theorem ok_Ties_has {P : Program} {w : World} {K : PySem.W.Frag} {mg : Str → Option Value} {base : Heap} (T : Txt K mg) :
    FnG P w K mg base 2 T.a_Ties_has T.d_Ties_has ["self", "thing"] (sp_thas K T.c_Ties) := by
  refine okD T.F_Ties_has sc_Ties_has (fun vs H Q E h => ?_) (fun cdv A outer s H vs Q E hr h => ?_)
  · first
      | (obtain ⟨_, rfl, _⟩ := h; rfl)
      | (obtain ⟨_, _, rfl, _⟩ := h; rfl)
      | (obtain ⟨_, _, _, rfl, _⟩ := h; rfl)
      | (obtain ⟨_, _, _, _, rfl, _⟩ := h; rfl)
      | (obtain ⟨_, _, _, _, _, rfl, _⟩ := h; rfl)
      | (obtain ⟨_, _, _, _, _, _, rfl, _⟩ := h; rfl)
      | (obtain ⟨_, _, _, _, _, _, _, rfl, _⟩ := h; rfl)
      | (obtain ⟨_, _, _, _, _, _, _, _, rfl, _⟩ := h; rfl)
      | (obtain ⟨_, _, _, _, _, _, _, _, _, rfl, _⟩ := h; rfl)
      | (obtain ⟨_, _, _, _, _, _, _, _, _, _, rfl, _⟩ := h; rfl)
      | (obtain ⟨_, _, _, _, _, _, _, _, _, _, _, rfl, _⟩ := h; rfl)
      | (obtain ⟨_, _, _, _, _, _, _, _, _, _, _, _, rfl, _⟩ := h; rfl)
      | (obtain ⟨_, _, _, _, _, _, _, _, _, _, _, _, _, rfl, _⟩ := h; rfl)
      | (obtain ⟨_, _, _, _, _, _, _, _, _, _, _, _, _, _, rfl, _⟩ := h; rfl)
      | (obtain ⟨_, _, _, _, _, _, _, _, _, _, _, _, _, _, _, rfl, _⟩ := h; rfl)
      | (obtain ⟨_, _, _, _, _, _, _, _, _, _, _, _, _, _, _, _, rfl, _⟩ := h; rfl)
      | (obtain ⟨_, _, _, _, _, _, _, _, _, _, _, _, _, _, _, _, _, rfl, _⟩ := h; rfl)
      | (obtain ⟨_, _, _, _, _, _, _, _, _, _, _, _, _, _, _, _, _, _, rfl, _⟩ := h; rfl)
      | (obtain ⟨_, _, _, _, _, _, _, _, _, _, _, _, _, _, _, _, _, _, _, rfl, _⟩ := h; rfl)
  · obtain ⟨t, ps, ever, liv, ks, nb, v, d, rfl, ⟨lv, nd, dx, rep, x, rfl, rfl⟩, hd, k⟩ := h
    obtain ⟨ht, hl, hn, hra, ad, nk⟩ := x
    have cl_Ties := T.cl_Ties
    have na_Ties_near := T.na_Ties_near
    have na_Ties_own_ever := T.na_Ties_own_ever
    have na_Ties_own_living := T.na_Ties_own_living
    refine ⟨_, (pss_one (ps_ret (pe_and (d1 (ok_is_count T) (hr.mono (by decide)) (by rfl) T.m_is_count T.F_is_count.kp T.b_is_count passL (pa_cons (pv 1) pa_nil)) (pe_one (pe_cmp (pc_din (u1 hr.r.units) (pv 1) (k_fld (K := K) rfl (pv 0) rfl))))))), ?_⟩
    dsimp only [cxOf, st_1, st_2, st_3, st_4, st_5, st_6, List.length_cons, List.length_nil, List.replicate_succ, List.replicate_zero, Nat.reduceAdd, Nat.reduceSub]
    walk_at "gs"
    refine ⟨v, d, rfl, hd, ?_⟩
    walk_at "gs"
    refine i_bool2 (fun c => ?_) (fun c => ?_)
    · obtain ⟨n, rfl, h0⟩ := cnt_int c
      obtain rfl := hd.2 n rfl
      walk_at "gs"
      rw [val_in nk]
      have e : inL (rep.map (·.1)) (.int n) = decide (n ∈ rep.map (·.1)) := by
        show decide (0 ≤ n ∧ n ∈ rep.map (·.1)) = _
        by_cases c : n ∈ rep.map (·.1) <;> simp [c, h0]
      rw [e] at k
      exact k
    · rw [inL_no c] at k
      exact k
theorem inL_int {l : List Int} {d : PyData} (h : inL l d = true) : ∃ n, d = .int n ∧ n ∈ l := by
  cases d <;> first | (cases h; done) | exact ⟨_, rfl, (of_decide_eq_true h).2⟩

theorem has_int {K : PySem.W.Frag} {C : Addr} {t : Addr} {ps : List Addr} {ever n : Int} {liv ks : List Int} {nb : Int → List Int} {H : Hp} {Q : VK} {E : XK} (x : TiesAt C H t ps ever liv ks nb) (h0 : 0 ≤ n) (h : Q (.bl (decide (n ∈ ks))) H) :
    sp_thas K C [.ref t, .int n] H Q E := ⟨t, ps, ever, liv, ks, nb, .int n, .int n, rfl, x, .int n, by
  have e : inL ks (.int n) = decide (n ∈ ks) := by
    show decide (0 ≤ n ∧ n ∈ ks) = _
    by_cases c : n ∈ ks <;> simp [c, h0]
  rw [e]
  exact h⟩

def sp_ttied0 (C : Addr) : Sp := fun vs H Q _ => ∃ (D : Int → Int → Int) (t : Addr) (ps : List Addr) (ever : Int) (liv ks : List Int) (nb : Int → List Int) (w : Int), vs = [.ref t, .int w] ∧ TiesAt C H t ps ever liv ks nb ∧ Tr3 D ever liv ks nb ∧ ever ≤ 200 ∧ w ∈ ks ∧
  ∀ R (fs : List Int) H', Fr H R → Kp [] H H' → H' R = some (.lst (fs.map V.int)) → fs.Pairwise (· < ·) → (∀ x, x ∈ fs ↔ x ∈ nb w) → Q (.ref R) H'
theorem sc_Ties_tied : FnScope ["self", "world"] ["self", "world"] (defScope s_Ties_tied) :=
  ⟨rfl, rfl, rfl, by decide +kernel, rfl, by decide +kernel, by decide +kernel⟩
theorem ok_Ties_tied {P : Program} {w : World} {K : PySem.W.Frag} {mg : Str → Option Value} {base : Heap} (T : Txt K mg) :
    FnG P w K mg base 3 T.a_Ties_tied T.d_Ties_tied ["self", "world"] (sp_ttied0 T.c_Ties) := by
  refine okD T.F_Ties_tied sc_Ties_tied (fun vs H Q E h => ?_) (fun cdv A outer s H vs Q E hr h => ?_)
  · first
      | (obtain ⟨_, rfl, _⟩ := h; rfl)
      | (obtain ⟨_, _, rfl, _⟩ := h; rfl)
      | (obtain ⟨_, _, _, rfl, _⟩ := h; rfl)
      | (obtain ⟨_, _, _, _, rfl, _⟩ := h; rfl)
      | (obtain ⟨_, _, _, _, _, rfl, _⟩ := h; rfl)
      | (obtain ⟨_, _, _, _, _, _, rfl, _⟩ := h; rfl)
      | (obtain ⟨_, _, _, _, _, _, _, rfl, _⟩ := h; rfl)
      | (obtain ⟨_, _, _, _, _, _, _, _, rfl, _⟩ := h; rfl)
      | (obtain ⟨_, _, _, _, _, _, _, _, _, rfl, _⟩ := h; rfl)
      | (obtain ⟨_, _, _, _, _, _, _, _, _, _, rfl, _⟩ := h; rfl)
      | (obtain ⟨_, _, _, _, _, _, _, _, _, _, _, rfl, _⟩ := h; rfl)
      | (obtain ⟨_, _, _, _, _, _, _, _, _, _, _, _, rfl, _⟩ := h; rfl)
      | (obtain ⟨_, _, _, _, _, _, _, _, _, _, _, _, _, rfl, _⟩ := h; rfl)
      | (obtain ⟨_, _, _, _, _, _, _, _, _, _, _, _, _, _, rfl, _⟩ := h; rfl)
      | (obtain ⟨_, _, _, _, _, _, _, _, _, _, _, _, _, _, _, rfl, _⟩ := h; rfl)
      | (obtain ⟨_, _, _, _, _, _, _, _, _, _, _, _, _, _, _, _, rfl, _⟩ := h; rfl)
      | (obtain ⟨_, _, _, _, _, _, _, _, _, _, _, _, _, _, _, _, _, rfl, _⟩ := h; rfl)
      | (obtain ⟨_, _, _, _, _, _, _, _, _, _, _, _, _, _, _, _, _, _, rfl, _⟩ := h; rfl)
      | (obtain ⟨_, _, _, _, _, _, _, _, _, _, _, _, _, _, _, _, _, _, _, rfl, _⟩ := h; rfl)
  · obtain ⟨D, t, ps, ever, liv, ks, nb, w, rfl, x0, z, he, hw, k⟩ := h
    obtain ⟨lv, nd, dx, rep, x, rfl, rfl⟩ := id x0
    obtain ⟨ht, hl, hn, hra, ad, nk⟩ := id x
    have cl_Ties := T.cl_Ties
    have na_Ties_near := T.na_Ties_near
    have na_Ties_own_ever := T.na_Ties_own_ever
    have na_Ties_own_living := T.na_Ties_own_living
    refine ⟨_, (pss_cons (ps_if (pt_not (pt_val (dm T.cl_Ties T.me_Ties_has (ok_Ties_has T) (hr.mono (by decide)) T.b_Ties_has passL (pv 0) (pa_cons (pv 1) pa_nil)))) (pss_one ps_never) pss_nil)
      (pss_one (ps_ret (pe_callB (k_sorted (K := K) rfl) (by rfl) T.n_sorted (by decide +kernel) (pa_cons (pe_dget (u1 hr.r.units) (k_fld (K := K) rfl (pv 0) rfl) (pv 1) (fun _ _ => rfl)) pa_nil))))), ?_⟩
    dsimp only [cxOf, st_1, st_2, st_3, st_4, st_5, st_6, List.length_cons, List.length_nil, List.replicate_succ, List.replicate_zero, Nat.reduceAdd, Nat.reduceSub]
    walk_at "gs"
    refine has_int x0 (z.hU w hw).1 ?_
    rw [decide_eq_true hw]
    obtain ⟨a, ha, haw⟩ := x.mem hw
    walk_at "gs"
    refine i_dg hn (val_rep nk ha) ?_
    walk_at "gs"
    refine i_sorted (SqL.of haw) fun fs p pm pw fp => ?_
    exact k p fs _ fp (Kp.new fp) upd_same (strict_of pm (z.rp.nd w hw) pw) fun x => pm.mem_iff

/-! ### spread, way -/
def kI (q : Int × Int) : Key × V := (.inl q.1, .int q.2)
theorem val_kI {w y : Int} : ∀ {vis : List (Int × Int)}, (vis.map (·.1)).Nodup → (w, y) ∈ vis → valV (vis.map kI) (.inl w) = some (.int y)
  | p :: vis, n, h => by
    rw [List.map_cons, List.nodup_cons] at n
    rcases List.mem_cons.mp h with e | h
    · rw [← e, List.map_cons]
      exact valV_pos rfl
    · rw [List.map_cons, valV_neg (fun z => ?_)]
      · exact val_kI n.2 h
      · have z : (Sum.inl p.1 : Key) = .inl w := z
        injection z with z
        exact n.1 (by rw [z]; exact List.mem_map.mpr ⟨_, h, rfl⟩)
theorem val_kI_none {w : Int} : ∀ {vis : List (Int × Int)}, w ∉ vis.map (·.1) → valV (vis.map kI) (.inl w) = none
  | [], _ => rfl
  | p :: vis, h => by
    rw [List.map_cons, List.mem_cons, not_or] at h
    rw [List.map_cons, valV_neg (fun z => ?_)]
    · exact val_kI_none h.2
    · have z : (Sum.inl p.1 : Key) = .inl w := z
      injection z with z
      exact h.1 z.symm
theorem val_kI_in {w : Int} {vis : List (Int × Int)} (n : (vis.map (·.1)).Nodup) : (valV (vis.map kI) (.inl w)).isSome = decide (w ∈ vis.map (·.1)) := by
  by_cases c : w ∈ vis.map (·.1)
  · obtain ⟨p, hp, rfl⟩ := List.mem_map.mp c
    rw [val_kI (w := p.1) (y := p.2) n hp, decide_eq_true c]
    rfl
  · rw [val_kI_none c, decide_eq_false c]
    rfl
theorem put_kI {w y : Int} {vis : List (Int × Int)} (h : w ∉ vis.map (·.1)) : putK (vis.map kI) (.inl w) (.int y) = (vis ++ [(w, y)]).map kI := by
  rw [putK_new _ (val_kI_none h), List.map_append]
  rfl
def DispK (p : Addr) (Q : VK) (k v : V) (H2 : Hp) : Prop := H2 p = some (.dK []) ∧ ∃ kvs : List (Key × V), [(k, v)] = kvs.map (fun kv => (kV kv.1, kv.2)) ∧ kvs.length ≤ 15 ∧ Q (.ref p) (upd H2 p (.dK (mergeK [] kvs)))
theorem i_disp1v {σ : L2.St} {H : Hp} {Q : VK} {i j : Nat} (q : ∀ p, Fr H p → tVar i σ (upd H p (.dK [])) fun k H1 => tVar j σ H1 fun v H2 => DispK p Q k v H2) : tDisp [(tVar i, tVar j)] σ H Q := fun p hp => q p ⟨hp⟩
theorem i_dispK {H2 : Hp} {Q : VK} {n : Int} {p : Addr} {v : V} (h : H2 p = some (.dK [])) (q : Q (.ref p) (upd H2 p (.dK [(.inl n, v)]))) : DispK p Q (.int n) v H2 := ⟨h, [(.inl n, v)], rfl, by rw [List.length_singleton]; decide, q⟩
def sp_tspread (C : Addr) : Sp := fun vs H Q _ => ∃ (D : Int → Int → Int) (t : Addr) (ps : List Addr) (ever : Int) (liv ks : List Int) (nb : Int → List Int) (goal : Int), vs = [.ref t, .int goal] ∧ TiesAt C H t ps ever liv ks nb ∧ Tr3 D ever liv ks nb ∧ ever ≤ 200 ∧ goal ∈ ks ∧
  ∀ R (vis : List (Int × Int)) H', Fr H R → Kp [] H H' → H' R = some (.dK (vis.map kI)) → Met D ks nb goal vis → (∀ x, x ∈ vis.map (·.1) ↔ x ∈ ks) → Q (.ref R) H'
theorem sc_Ties_spread : FnScope ["self", "goal", "ahead", "waiting", "here", "there"] ["self", "goal"] (defScope s_Ties_spread) :=
  ⟨rfl, rfl, rfl, by decide +kernel, rfl, by decide +kernel, by decide +kernel⟩
theorem ok_Ties_spread {P : Program} {w : World} {K : PySem.W.Frag} {mg : Str → Option Value} {base : Heap} (T : Txt K mg) :
    FnG P w K mg base 1 T.a_Ties_spread T.d_Ties_spread ["self", "goal"] (sp_tspread T.c_Ties) := by
  refine okD T.F_Ties_spread sc_Ties_spread (fun vs H Q E h => ?_) (fun cdv A outer s H vs Q E hr h => ?_)
  · first
      | (obtain ⟨_, rfl, _⟩ := h; rfl)
      | (obtain ⟨_, _, rfl, _⟩ := h; rfl)
      | (obtain ⟨_, _, _, rfl, _⟩ := h; rfl)
      | (obtain ⟨_, _, _, _, rfl, _⟩ := h; rfl)
      | (obtain ⟨_, _, _, _, _, rfl, _⟩ := h; rfl)
      | (obtain ⟨_, _, _, _, _, _, rfl, _⟩ := h; rfl)
      | (obtain ⟨_, _, _, _, _, _, _, rfl, _⟩ := h; rfl)
      | (obtain ⟨_, _, _, _, _, _, _, _, rfl, _⟩ := h; rfl)
      | (obtain ⟨_, _, _, _, _, _, _, _, _, rfl, _⟩ := h; rfl)
      | (obtain ⟨_, _, _, _, _, _, _, _, _, _, rfl, _⟩ := h; rfl)
      | (obtain ⟨_, _, _, _, _, _, _, _, _, _, _, rfl, _⟩ := h; rfl)
      | (obtain ⟨_, _, _, _, _, _, _, _, _, _, _, _, rfl, _⟩ := h; rfl)
      | (obtain ⟨_, _, _, _, _, _, _, _, _, _, _, _, _, rfl, _⟩ := h; rfl)
      | (obtain ⟨_, _, _, _, _, _, _, _, _, _, _, _, _, _, rfl, _⟩ := h; rfl)
      | (obtain ⟨_, _, _, _, _, _, _, _, _, _, _, _, _, _, _, rfl, _⟩ := h; rfl)
      | (obtain ⟨_, _, _, _, _, _, _, _, _, _, _, _, _, _, _, _, rfl, _⟩ := h; rfl)
      | (obtain ⟨_, _, _, _, _, _, _, _, _, _, _, _, _, _, _, _, _, rfl, _⟩ := h; rfl)
      | (obtain ⟨_, _, _, _, _, _, _, _, _, _, _, _, _, _, _, _, _, _, rfl, _⟩ := h; rfl)
      | (obtain ⟨_, _, _, _, _, _, _, _, _, _, _, _, _, _, _, _, _, _, _, rfl, _⟩ := h; rfl)
  · obtain ⟨D, t, ps, ever, liv, ks, nb, goal, rfl, x0, z, he, hg, k⟩ := h
    have klen := z.klen
    have x1 := x0
    obtain ⟨lv, nd, dx, rep, x, eps, eks⟩ := id x0
    obtain ⟨ht, hl, hn, hra, ad, nk⟩ := id x
    have cl_Ties := T.cl_Ties
    have na_Ties_near := T.na_Ties_near
    have na_Ties_own_ever := T.na_Ties_own_ever
    have na_Ties_own_living := T.na_Ties_own_living
    refine ⟨_, (pss_cons (ps_set (i := 2) sc_Ties_spread.nd rfl (Or.inl rfl) (pe_disp (pps_cons (pv 1) (pv 1) pps_nil) (by rfl) (by rfl) (fun z => by cases z) (by decide)))
      (pss_cons (ps_set (i := 3) sc_Ties_spread.nd rfl (Or.inl rfl) (pe_lst (pa_cons (pv 1) pa_nil)))
      (pss_cons (ps_while (passes_of rfl) (pt_cmpR (k_ne (K := K) rfl hr.r.units) (pv 3) (pe_lst pa_nil) (nomark _)) (pss_cons (ps_set (i := 4) sc_Ties_spread.nd rfl (Or.inl rfl) (pe_bm0 PySem.F.plainAttrs_list PySem.F.slot_list_pop PySem.F.type_list_pop mt_pop (pv 3)))
      (pss_one (ps_for (passes_of rfl) rfl (k_plist (K := K) rfl (pe_dget (u1 hr.r.units) (k_fld (K := K) rfl (pv 0) rfl) (pv 4) (fun _ _ => rfl))) (pg_name (i := 5) sc_Ties_spread.nd rfl (Or.inl rfl))
      (pss_one (ps_if (pt_cmp (pc_dnotin (u1 hr.r.units) (pv 5) (pv 2))) (pss_cons (ps_asg (pv 4) (pg_sub (pv 2) (pv 5) (set_dict (u1 hr.r.units))))
      (pss_one (ps_expr (pe_bm PySem.F.plainAttrs_list PySem.F.slot_list_append PySem.F.type_list_append mt_append (pv 3) (pa_cons (pv 5) pa_nil))))) pss_nil))))))
      (pss_one (ps_ret (pv 2)))))), ?_⟩
    dsimp only [cxOf, st_1, st_2, st_3, st_4, st_5, st_6, List.length_cons, List.length_nil, List.replicate_succ, List.replicate_zero, Nat.reduceAdd, Nat.reduceSub]
    walk_at "gs"
    refine i_disp1v fun A fA => ?_
    walk_at "gs"
    refine i_dispK upd_same ?_
    walk_at "gs"
    refine i_new fun W fW => ?_
    walk_at "gs"
    have kA : Kp [] H (upd (upd H A (.dK [])) A (.dK [(.inl goal, .int goal)])) := Kp.upd (Kp.new fA) fA
    have fW0 : Fr H W := kA.free fW
    have nAW : A ≠ W := fr_ne upd_same fW
    refine i_while (fun m σ H' => ∃ (o4 o5 : Option V) (vis : List (Int × Int)) (wait : List Int), m = 2 * (ks.length - vis.length) + wait.length ∧ σ = [some (.ref t), some (.int goal), some (.ref A), some (.ref W), o4, o5] ∧
      Kp [] H H' ∧ H' A = some (.dK (vis.map kI)) ∧ H' W = some (.lst (wait.map V.int)) ∧ Met D ks nb goal vis ∧ (∀ x ∈ wait, x ∈ vis.map (·.1)) ∧ (∀ x ∈ vis.map (·.1), x ∉ wait → ∀ y ∈ nb x, y ∈ vis.map (·.1)) ∧ wait.length ≤ vis.length) (2 * (ks.length - 1) + 1) ?_ ?_
    · exact ⟨_, _, [(goal, goal)], [goal], rfl, rfl, Kp.upd kA fW0, by rw [upd_ne nAW]; exact upd_same, upd_same, Met.start hg, fun x hx => hx, fun x hx n => absurd hx n, Nat.le_refl _⟩
    rintro m σ H2 ⟨o4, o5, vis, wait, rfl, rfl, k2, hA2, hW2, met, ws, cl, wl⟩
    have ml := met.len
    have ht2 := k2.at_ _ _ ht not_nil
    walk_at "gs"
    refine i_new fun q fq => ?_
    have kq : Kp [] H2 (upd H2 q (.lst [])) := Kp.new fq
    have hW3 := kq.at_ _ _ hW2 not_nil
    have hA3 := kq.at_ _ _ hA2 not_nil
    walk_at "gs"
    refine ne_ints0 (SqL.of hW3) upd_same ?_
    walk_at "gs"
    refine i_decN (fun c => ?_) (fun c => ?_)
    · refine i_loop ?_
      obtain ⟨w2, here, rfl⟩ : ∃ ws y, wait = ws ++ [y] := ⟨_, _, (List.dropLast_concat_getLast c).symm⟩
      have hW3' : (upd H2 q (.lst [])) W = some (.lst (w2.map V.int ++ [V.int here])) := by rw [snoc_int]; exact hW3
      rw [List.length_append, List.length_singleton] at wl
      have hk : here ∈ vis.map (·.1) := ws here (List.mem_append.mpr (.inr (List.mem_singleton.mpr rfl)))
      have hks : here ∈ rep.map (·.1) := by
        obtain ⟨r, hr2, e⟩ := List.mem_map.mp hk
        rw [← eks, ← e]
        exact met.sub r hr2
      obtain ⟨a, ha, haw⟩ := x.mem hks
      have k03 : Kp [] H (upd H2 q (.lst [])) := Kp.trans k2 kq
      have k04 : Kp [] H (upd (upd H2 q (.lst [])) W (.lst (w2.map V.int))) := Kp.upd k03 fW0
      have hA4 : (upd (upd H2 q (.lst [])) W (.lst (w2.map V.int))) A = some (.dK (vis.map kI)) := by rw [upd_ne nAW]; exact hA3
      have ht4 := k04.at_ _ _ ht not_nil
      walk_at "gs"
      refine i_popV hW3' ?_
      walk_at "gs"
      refine i_dg (k04.at_ _ _ hn not_nil) (val_rep nk ha) ?_
      refine i_each (SqL.of (k04.at_ _ _ haw not_nil)) (fun j σ H' => ∃ (o5 : Option V) (vis2 : List (Int × Int)) (wait2 : List Int), σ = [some (.ref t), some (.int goal), some (.ref A), some (.ref W), some (.int here), o5] ∧
        Kp [] H H' ∧ H' A = some (.dK (vis2.map kI)) ∧ H' W = some (.lst (wait2.map V.int)) ∧ Met D ks nb goal vis2 ∧ here ∈ vis2.map (·.1) ∧ (∀ x ∈ wait2, x ∈ vis2.map (·.1)) ∧ (∀ x ∈ vis2.map (·.1), x ∉ wait2 → x ≠ here → ∀ y ∈ nb x, y ∈ vis2.map (·.1)) ∧
        (∀ y ∈ (nb here).take j, y ∈ vis2.map (·.1)) ∧ wait2.length ≤ vis2.length ∧ 2 * (ks.length - vis2.length) + wait2.length < 2 * (ks.length - vis.length) + (w2 ++ [here]).length) ?_ ?_ ?_ ?_
      · refine ⟨_, vis, w2, rfl, k04, hA4, upd_same, met, hk, fun x hx => ws x (List.mem_append.mpr (.inl hx)), fun x hx n n2 => cl x hx fun h => ?_, fun y hy => ?_, by omega, by rw [List.length_append, List.length_singleton]; omega⟩
        · rcases List.mem_append.mp h with h | h
          · exact n h
          · exact n2 (List.mem_singleton.mp h)
        · rw [List.take_zero] at hy
          cases hy
      · rintro j σ H' _ ⟨_, _, _, _, k5, _⟩
        exact k5.seqL not_nil (SqL.of haw)
      · rintro j y σ H' hy ⟨o5, vis2, wait2, rfl, k5, hA5, hW5, met5, hk5, ws5, cl5, tk5, wl5, ms5⟩
        obtain ⟨u, hu, e⟩ := map_get hy
        subst e
        have hum : u ∈ nb here := List.mem_of_getElem? hu
        have ml5 := met5.len
        have step : ∀ {P : List Int}, (∀ y ∈ (nb here).take j, y ∈ P) → u ∈ P → ∀ y ∈ (nb here).take (j + 1), y ∈ P := fun {P} h1 h2 y hy => by
          rw [List.take_add_one, hu] at hy
          rcases List.mem_append.mp hy with h | h
          · exact h1 y h
          · have e : y = u := by simpa using h
            rw [e]
            exact h2
        walk_at "gs"
        rw [val_kI_in met5.nv]
        refine i_decN (fun c => ?_) (fun c => ?_)
        · have hlen : (vis2.map kI).length ≤ 1000000 := by rw [List.length_map]; omega
          walk_at "gs"
          refine i_setK hA5 hlen ?_
          rw [put_kI c]
          have hW6 : (upd H' A (.dK ((vis2 ++ [(u, here)]).map kI))) W = some (.lst (wait2.map V.int)) := by rw [upd_ne (Ne.symm nAW)]; exact hW5
          walk_at "gs"
          refine i_app hW6 (small_sz (by rw [List.length_map]; omega)) ?_
          rw [snoc_int]
          have met6 := met5.add z hg hk5 hum c
          have ml6 := met6.len
          have up : ∀ {x}, x ∈ vis2.map (·.1) → x ∈ (vis2 ++ [(u, here)]).map (·.1) := fun {x} h => by rw [List.map_append]; exact List.mem_append.mpr (.inl h)
          have uin : u ∈ (vis2 ++ [(u, here)]).map (·.1) := by rw [List.map_append]; exact List.mem_append.mpr (.inr (List.mem_singleton.mpr rfl))
          rw [List.length_append, List.length_singleton] at ml6
          walk_at "gs"
          refine ⟨_, vis2 ++ [(u, here)], wait2 ++ [u], rfl, Kp.upd (Kp.upd k5 fA) fW0, by rw [upd_ne nAW]; exact upd_same, upd_same, met6, up hk5, fun x hx => ?_, fun x hx n n2 y hy2 => ?_, step (fun y hy => up (tk5 y hy)) uin, by rw [List.length_append, List.length_append, List.length_singleton, List.length_singleton]; omega, by rw [List.length_append (as := vis2), List.length_append (as := wait2), List.length_singleton, List.length_singleton]; omega⟩
          · rcases List.mem_append.mp hx with h | h
            · exact up (ws5 x h)
            · rw [List.mem_singleton.mp h]
              exact uin
          · rw [List.map_append] at hx
            rcases List.mem_append.mp hx with h | h
            · exact up (cl5 x h (fun z => n (List.mem_append.mpr (.inl z))) n2 y hy2)
            · exact absurd (List.mem_append.mpr (.inr h)) n
        · walk_at "gs"
          exact ⟨_, vis2, wait2, rfl, k5, hA5, hW5, met5, hk5, ws5, cl5, step tk5 c, wl5, ms5⟩
      · rintro σ H' ⟨o5, vis2, wait2, rfl, k5, hA5, hW5, met5, hk5, ws5, cl5, tk5, wl5, ms5⟩
        rw [List.length_map, List.take_length] at tk5
        refine ⟨_, ms5, _, _, vis2, wait2, rfl, rfl, k5, hA5, hW5, met5, ws5, fun x hx n => ?_, wl5⟩
        by_cases c : x = here
        · rw [c]
          exact tk5
        · exact cl5 x hx n c
    · subst c
      walk_at "gs"
      refine k A vis _ fA (Kp.trans k2 kq) hA3 met fun x => ⟨fun h => ?_, met.all z hg (fun x hx => cl x hx (by simp)) x⟩
      obtain ⟨r, hr2, e⟩ := List.mem_map.mp h
      rw [← e]
      exact met.sub r hr2

/-! ### len(o) by the text's own method -/
section
variable {X : Cx} {K : PySem.W.Frag} {k : Nat} {C f : Addr} {fd : FuncData} {ps : List Str} {sp : Sp} {E : XK}
theorem run_in {A : Around} {pins : List (Addr × Obj)} {σ : L2.St} {H : Hp} {s : Shared} {Q : VK} {vs : List V} {us : List Value}
    (F : Fg X k f fd ps sp) (z : RoomG k A) (hA : A.frames = X.A.frames) (hb : BindsD X.K fd ps []) (hx : Ps X E)
    (I : Inv X pins σ H s) (r : Vals vs us) (h : sp vs H Q E) :
    wpAny (model X.prog X.w) A (call (.ref f) us) (EP X pins σ Q) X.xe s := by
  obtain ⟨ds, hd, hb⟩ := hb
  cases hd
  have e := I.env0
  have e0 : Env0 X.prog X.w X.K X.mg X.base A X.stack s H :=
    ⟨by rw [hA]; exact e.frames, e.mod, e.bs, e.bsz, e.funs, e.frf, e.hok, e.bare⟩
  have hl : (us ++ []).length = ps.length := by
    rw [List.append_nil, ← r.length]
    exact F.len _ _ _ _ h
  have b := hb s us I.kIn hl
  rw [List.append_nil] at b
  refine wpAny_call (codeAny_mono (F.run A X.stack s H ⟨us, []⟩ us vs Q E z e0 b r h) ?_)
  intro q s' hq
  match q, hq with
  | .error e, hq => exact hx pins σ H s e s' I hq
  | .ok (.ret u), hq => exact I.after hq
  | .ok .next, hq => exact False.elim hq
  | .ok .brk, hq => exact False.elim hq
  | .ok .cont, hq => exact False.elim hq
theorem RoomG.in1 {k : Nat} {A : Around} (z : RoomG (k + 1) A) : RoomG k A.in1 := ⟨z.r.in1, z.g⟩
end

section
variable {X : Cx} {K : PySem.W.Frag} {k : Nat} {C f : Addr} {fd : FuncData} {ps : List Str} {sp : Sp} {E : XK}
def rLenM (C : Addr) (sp : Sp) (E : XK) : List V → Hp → VK → Prop := fun xs H Q => ∃ (a dx : Addr) (fs : List (Str × V)), xs = [.ref a] ∧ H a = some (.ins C dx fs) ∧
  sp [.ref a] H (fun v H' => ∃ n : Int, v = .int n ∧ (0 ≤ n ∧ n < 9223372036854775808) ∧ Q (.int n) H') E
theorem k_lenM (h : X.K = K) (hm : Meth X.K C "__len__" f) (F : Fg X k f fd ps sp) (z : RoomG (k + 1) X.A) (hb : BindsD X.K fd ps []) (hx : Ps X E) :
    CallR X (.builtin "len") (rLenM C sp E) := by
  intro pins s σ H xs us Q I r h
  obtain ⟨a, dx, fs, rfl, ha, hsp⟩ := h
  obtain ⟨u, rfl, rx⟩ := vals1 r
  cases rx
  obtain ⟨mA, J, _⟩ := ins_get I.hok ha
  obtain ⟨od, J, _⟩ := J.look
  obtain ⟨m, hF⟩ := I.fr
  refine PySem.W.len_K hF I.ok.mod.kin J hm.at_ hm.fn ?_
  have r0 : Vals [V.ref a] [Value.ref a] := .cons rfl .nil
  refine wpAny_mono (run_in F (RoomG.in1 z) rfl hb hx I r0 hsp) ?_ (fun e s' q => q)
  rintro u s' ⟨v, H', I', rv, n, rfl, hn, q⟩
  obtain ⟨t, rfl⟩ := rv
  exact ⟨hn, ⟨.int n, H', I'.tok _, ⟨_, rfl⟩, q⟩⟩
theorem i_lenM {H : Hp} {Q : VK} {a dx : Addr} {fs : List (Str × V)} (ha : H a = some (.ins C dx fs))
    (h : sp [.ref a] H (fun v H' => ∃ n : Int, v = .int n ∧ (0 ≤ n ∧ n < 9223372036854775808) ∧ Q (.int n) H') E) : rLenM C sp E [.ref a] H Q :=
  ⟨a, dx, fs, rfl, ha, h⟩
end

def sp_tlen (C : Addr) : Sp := fun vs H Q _ => ∃ (t : Addr) (ps : List Addr) (ever : Int) (liv ks : List Int) (nb : Int → List Int), vs = [.ref t] ∧ TiesAt C H t ps ever liv ks nb ∧ Q (.int ks.length) H
theorem sc_Ties_len : FnScope ["self"] ["self"] (defScope s_Ties_len) :=
  ⟨rfl, rfl, rfl, by decide +kernel, rfl, by decide +kernel, by decide +kernel⟩
theorem ok_Ties_len {P : Program} {w : World} {K : PySem.W.Frag} {mg : Str → Option Value} {base : Heap} (T : Txt K mg) :
    FnG P w K mg base 1 T.a_Ties_len T.d_Ties_len ["self"] (sp_tlen T.c_Ties) := by
  refine okD T.F_Ties_len sc_Ties_len (fun vs H Q E h => ?_) (fun cdv A outer s H vs Q E hr h => ?_)
  · first
      | (obtain ⟨_, rfl, _⟩ := h; rfl)
      | (obtain ⟨_, _, rfl, _⟩ := h; rfl)
      | (obtain ⟨_, _, _, rfl, _⟩ := h; rfl)
      | (obtain ⟨_, _, _, _, rfl, _⟩ := h; rfl)
      | (obtain ⟨_, _, _, _, _, rfl, _⟩ := h; rfl)
      | (obtain ⟨_, _, _, _, _, _, rfl, _⟩ := h; rfl)
      | (obtain ⟨_, _, _, _, _, _, _, rfl, _⟩ := h; rfl)
      | (obtain ⟨_, _, _, _, _, _, _, _, rfl, _⟩ := h; rfl)
      | (obtain ⟨_, _, _, _, _, _, _, _, _, rfl, _⟩ := h; rfl)
      | (obtain ⟨_, _, _, _, _, _, _, _, _, _, rfl, _⟩ := h; rfl)
      | (obtain ⟨_, _, _, _, _, _, _, _, _, _, _, rfl, _⟩ := h; rfl)
      | (obtain ⟨_, _, _, _, _, _, _, _, _, _, _, _, rfl, _⟩ := h; rfl)
      | (obtain ⟨_, _, _, _, _, _, _, _, _, _, _, _, _, rfl, _⟩ := h; rfl)
      | (obtain ⟨_, _, _, _, _, _, _, _, _, _, _, _, _, _, rfl, _⟩ := h; rfl)
      | (obtain ⟨_, _, _, _, _, _, _, _, _, _, _, _, _, _, _, rfl, _⟩ := h; rfl)
      | (obtain ⟨_, _, _, _, _, _, _, _, _, _, _, _, _, _, _, _, rfl, _⟩ := h; rfl)
      | (obtain ⟨_, _, _, _, _, _, _, _, _, _, _, _, _, _, _, _, _, rfl, _⟩ := h; rfl)
      | (obtain ⟨_, _, _, _, _, _, _, _, _, _, _, _, _, _, _, _, _, _, rfl, _⟩ := h; rfl)
      | (obtain ⟨_, _, _, _, _, _, _, _, _, _, _, _, _, _, _, _, _, _, _, rfl, _⟩ := h; rfl)
  · obtain ⟨t, ps, ever, liv, ks, nb, rfl, x0, k⟩ := h
    obtain ⟨lv, nd, dx, rep, x, rfl, rfl⟩ := id x0
    obtain ⟨ht, hl, hn, hra, ad, nk⟩ := id x
    have cl_Ties := T.cl_Ties
    have na_Ties_near := T.na_Ties_near
    have na_Ties_own_ever := T.na_Ties_own_ever
    have na_Ties_own_living := T.na_Ties_own_living
    refine ⟨_, (pss_one (ps_ret (pe_callB call_lenD (by rfl) T.n_len (by decide +kernel) (pa_cons (k_fld (K := K) rfl (pv 0) rfl) pa_nil)))), ?_⟩
    dsimp only [cxOf, st_1, st_2, st_3, st_4, st_5, st_6, List.length_cons, List.length_nil, List.replicate_succ, List.replicate_zero, Nat.reduceAdd, Nat.reduceSub]
    walk_at "gs"
    refine ⟨nd, rep.map kA, rfl, hn, ?_⟩
    rw [List.length_map] at k ⊢
    exact k

theorem FreeOf.len {liv ks fs : List Int} (f : FreeOf liv ks fs) : fs.length ≤ ks.length := sub_len (f.1.imp fun {a b} z e => by omega) fun x hx => ((f.2 x).mp hx).1

theorem eq_ints0 {K : PySem.W.Frag} {H : Hp} {Q : VK} {a b : Addr} {l : List Int} (hx : SqL K H a (l.map V.int)) (hy : H b = some (.lst []))
    (h : Q (.bl (decide (l = []))) H) : uEq K (.ref a) (.ref b) H Q := eq_ints (r := []) hx (SqL.of hy) h

/-! ### is_tree, ties_of -/
theorem FreeOf.perm {D : Int → Int → Int} {ever : Int} {liv ks fs : List Int} {nb : Int → List Int} (z : Tr3 D ever liv ks nb) (fo : FreeOf liv ks fs) : (liv ++ fs).Perm ks := by
  refine (List.perm_ext_iff_of_nodup ?_ z.nk).mpr fun x => ?_
  · refine List.nodup_append.mpr ⟨z.nl, fo.1.imp fun {a b} q e => by omega, fun a ha b hb e => ?_⟩
    rw [e] at ha
    exact ((fo.2 b).mp hb).2 ha
  · rw [List.mem_append, fo.2]
    constructor
    · rintro (h | h)
      · exact z.sub x h
      · exact h.1
    · intro h
      by_cases c : x ∈ liv
      · exact .inl c
      · exact .inr ⟨h, c⟩
theorem rows_max {D : Int → Int → Int} {ever : Int} {liv ks : List Int} {nb : Int → List Int} {rs : List (Int × Int)} (z : Tr3 D ever liv ks nb) (ro : RowsOf ks nb rs) : (rs.length : Int) = max 0 ((ks.length : Int) - 1) := by
  cases h : ks with
  | nil =>
    have e : rs = [] := List.eq_nil_iff_forall_not_mem.mpr fun q hq => by
      have := ((ro.2 q).mp hq).1
      rw [h] at this
      cases this
    rw [e]
    rfl
  | cons g l =>
    have e := z.rows_count (g := g) ro.nd ro.2 (by rw [h]; exact List.mem_cons_self)
    rw [← h]
    rw [Int.max_eq_right (by omega)]
    omega
def sp_istree (K : PySem.W.Frag) (C : Addr) : Sp := fun vs H Q _ => ∃ (D : Int → Int → Int) (t : Addr) (ps : List Addr) (ever : Int) (liv ks : List Int) (nb : Int → List Int), vs = [.ref t] ∧ TiesAt C H t ps ever liv ks nb ∧ Tr3 D ever liv ks nb ∧ ever ≤ 100 ∧ ∀ H', Kp [] H H' → Q (.bl true) H'
theorem sc_is_tree : FnScope ["ties", "worlds", "world"] ["ties"] (defScope s_is_tree) :=
  ⟨rfl, rfl, rfl, by decide +kernel, rfl, by decide +kernel, by decide +kernel⟩
theorem ok_is_tree {P : Program} {w : World} {K : PySem.W.Frag} {mg : Str → Option Value} {base : Heap} (T : Txt K mg) :
    FnG P w K mg base 4 T.a_is_tree T.d_is_tree ["ties"] (sp_istree K T.c_Ties) := by
  refine okD T.F_is_tree sc_is_tree (fun vs H Q E h => ?_) (fun cdv A outer s H vs Q E hr h => ?_)
  · first
      | (obtain ⟨_, rfl, _⟩ := h; rfl)
      | (obtain ⟨_, _, rfl, _⟩ := h; rfl)
      | (obtain ⟨_, _, _, rfl, _⟩ := h; rfl)
      | (obtain ⟨_, _, _, _, rfl, _⟩ := h; rfl)
      | (obtain ⟨_, _, _, _, _, rfl, _⟩ := h; rfl)
      | (obtain ⟨_, _, _, _, _, _, rfl, _⟩ := h; rfl)
      | (obtain ⟨_, _, _, _, _, _, _, rfl, _⟩ := h; rfl)
      | (obtain ⟨_, _, _, _, _, _, _, _, rfl, _⟩ := h; rfl)
      | (obtain ⟨_, _, _, _, _, _, _, _, _, rfl, _⟩ := h; rfl)
      | (obtain ⟨_, _, _, _, _, _, _, _, _, _, rfl, _⟩ := h; rfl)
      | (obtain ⟨_, _, _, _, _, _, _, _, _, _, _, rfl, _⟩ := h; rfl)
      | (obtain ⟨_, _, _, _, _, _, _, _, _, _, _, _, rfl, _⟩ := h; rfl)
      | (obtain ⟨_, _, _, _, _, _, _, _, _, _, _, _, _, rfl, _⟩ := h; rfl)
      | (obtain ⟨_, _, _, _, _, _, _, _, _, _, _, _, _, _, rfl, _⟩ := h; rfl)
      | (obtain ⟨_, _, _, _, _, _, _, _, _, _, _, _, _, _, _, rfl, _⟩ := h; rfl)
      | (obtain ⟨_, _, _, _, _, _, _, _, _, _, _, _, _, _, _, _, rfl, _⟩ := h; rfl)
      | (obtain ⟨_, _, _, _, _, _, _, _, _, _, _, _, _, _, _, _, _, rfl, _⟩ := h; rfl)
      | (obtain ⟨_, _, _, _, _, _, _, _, _, _, _, _, _, _, _, _, _, _, rfl, _⟩ := h; rfl)
      | (obtain ⟨_, _, _, _, _, _, _, _, _, _, _, _, _, _, _, _, _, _, _, rfl, _⟩ := h; rfl)
  · obtain ⟨D, t, ps, ever, liv, ks, nb, rfl, x0, z, he, k⟩ := h
    have klen := z.klen
    have llen := z.llen
    obtain ⟨_, _, _, ht⟩ := x0.ins
    have cl_Ties := T.cl_Ties
    have na_Ties_near := T.na_Ties_near
    have na_Ties_own_ever := T.na_Ties_own_ever
    have na_Ties_own_living := T.na_Ties_own_living
    refine ⟨_, (pss_cons (ps_if (pt_cmpR (k_ne (K := K) rfl hr.r.units) (pe_callB (k_len (K := K) rfl) (by rfl) T.n_len (by decide +kernel) (pa_cons (dm0 T.cl_Ties T.me_Ties_rows (ok_Ties_rows T) (hr.mono (by decide)) T.b_Ties_rows passL (pv 0)) pa_nil)) (pe_callB (c_max2 rfl) (by rfl) T.n_max (by decide +kernel) (pa_cons pe_int (pa_cons (pe_op op_sub (pe_callB (k_lenM (K := K) rfl T.me_Ties_len (ok_Ties_len T) (hr.mono (by decide)) T.b_Ties_len passL) (by rfl) T.n_len (by decide +kernel) (pa_cons (pv 0) pa_nil)) pe_int) pa_nil))) (nomark _)) (pss_one (ps_ret pe_bl)) pss_nil)
      (pss_cons (ps_if (pt_not (pt_val (pe_callB (k_all (K := K) rfl rfl) (by rfl) T.n_all (by decide +kernel) (pa_cons (pe_lc (own := [("world", 2)]) (g := (gName 2)) (tt := tYes) rfl sc_is_tree.nd (k_plist (K := K) rfl (dm0 T.cl_Ties T.me_Ties_free (ok_Ties_free T) (hr.mono (by decide)) T.b_Ties_free passL (pv 0))) (blkOk_by (own := [("world", 2)]) (N := ["ties", "worlds", "world"]) (sc := defScope s_is_tree) (by decide +kernel)) (fun _ _ _ _ _ => (pg_name (i := 2) sc_is_tree.nd rfl (Or.inl rfl))) (fun _ _ _ _ _ => pts_nil) (fun _ _ _ _ _ => (pe_cmpR op_ge (pe_callB (k_len (K := K) rfl) (by rfl) T.n_len (by decide +kernel) (pa_cons (dm T.cl_Ties T.me_Ties_tied (ok_Ties_tied T) (hr.mono (by decide)) T.b_Ties_tied passL (pv 0) (pa_cons (pv 2) pa_nil)) pa_nil)) (pe_glob (v := V.int 3) rfl T.g_FEWEST_TIES ⟨_, rfl⟩) (nomark _)))) pa_nil)))) (pss_one (ps_ret pe_bl)) pss_nil)
      (pss_cons (ps_set (i := 1) sc_is_tree.nd rfl (Or.inl rfl) (pe_op (k_add (K := K) rfl) (dm0 T.cl_Ties T.me_Ties_living (ok_Ties_living T) (hr.mono (by decide)) T.b_Ties_living passL (pv 0)) (dm0 T.cl_Ties T.me_Ties_free (ok_Ties_free T) (hr.mono (by decide)) T.b_Ties_free passL (pv 0))))
      (pss_one (ps_ret (pe_or (pe_cmpR (k_eq (K := K) rfl hr.r.units) (pv 1) (pe_lst pa_nil) (nomark _)) (pe_one (pe_cmpR (k_eq (K := K) rfl hr.r.units) (pe_callB call_lenD (by rfl) T.n_len (by decide +kernel) (pa_cons (dm T.cl_Ties T.me_Ties_spread (ok_Ties_spread T) (hr.mono (by decide)) T.b_Ties_spread passL (pv 0) (pa_cons (pe_ix (k_ix (K := K) rfl) (pv 1) pe_int (fun _ _ => rfl)) pa_nil)) pa_nil)) (pe_callB (k_len (K := K) rfl) (by rfl) T.n_len (by decide +kernel) (pa_cons (pv 1) pa_nil)) (nomark _))))))))), ?_⟩
    dsimp only [cxOf, st_1, st_2, st_3, st_4, st_5, st_6, List.length_cons, List.length_nil, List.replicate_succ, List.replicate_zero, Nat.reduceAdd, Nat.reduceSub]
    walk_at "gs"
    refine ⟨D, t, ps, ever, liv, ks, nb, rfl, x0, z, by omega, fun R rs H1 fR k1 ld ro => ?_⟩
    obtain ⟨xs, hxs, hall⟩ := id ld
    have hxl := dpa_len hall
    rw [List.length_map] at hxl
    have hsR : SqL K H1 R xs := SqL.of hxs
    have ht1 := k1.at_ _ _ ht not_nil
    walk_at "gs"
    refine i_lenM ht1 ⟨t, ps, ever, liv, ks, nb, rfl, x0.kp0 k1, _, rfl, by omega, ?_⟩
    walk_at "gs"
    refine i_decN (fun e => absurd (by rw [hxl]; exact rows_max z ro) e) (fun _ => ?_)
    walk_at "gs"
    refine ⟨t, ps, ever, liv, ks, nb, rfl, x0.kp0 k1, by omega, fun F fs H2 fF k2 hF fo => ?_⟩
    have k02 := Kp.trans k1 k2
    have flen := fo.len
    walk_at "gs"
    refine i_elts (SqL.of hF) (fun L i H' => Kp [] H2 H' ∧ H' L = some (.lst ((List.replicate i true).map V.bl))) ?_ ?_ ?_ ?_
    · intro L fL
      exact ⟨Kp.new fL, upd_same⟩
    · rintro L i H' fL _ ⟨kk, _⟩
      exact kk.seqL not_nil (SqL.of hF)
    · rintro L i y H' fL hy ⟨kk, hL⟩
      obtain ⟨w, hw, e⟩ := map_get hy
      subst e
      obtain ⟨wk, wl⟩ := (fo.2 w).mp (List.mem_of_getElem? hw)
      have hil := (List.getElem?_eq_some_iff.mp hw).1
      have k0H := Kp.trans k02 kk
      have htH := k0H.at_ _ _ ht not_nil
      walk_at "gs"
      refine ⟨D, t, ps, ever, liv, ks, nb, w, rfl, x0.kp0 k0H, z, by omega, wk, fun X ts H3 fX k3 hX st mt => ?_⟩
      have hsX : SqL K H3 X (ts.map V.int) := SqL.of hX
      have lt := (nd_perm (st.imp fun {a b} q e => by omega) (z.rp.nd w wk) mt).length_eq
      have red := z.red w wk wl
      walk_at "gs"
      rw [List.length_map, decide_eq_true (show (3 : Int) ≤ (ts.length : Int) by omega)]
      refine ⟨_, k3.at_ _ _ hL not_nil, small_sz (by rw [List.length_map, List.length_replicate]; omega), Kp.upd (Kp.trans kk k3) fL, ?_⟩
      have e : (List.replicate (i + 1) true).map V.bl = (List.replicate i true).map V.bl ++ [V.bl true] := by
        rw [List.replicate_succ', List.map_append]
        rfl
      rw [e]
      exact upd_same
    rintro L H3 fL ⟨k3, hL⟩
    have k03 := Kp.trans k02 k3
    have ht3 := k03.at_ _ _ ht not_nil
    walk_at "gs"
    refine i_all (SqL.of hL) ?_
    rw [all_rep]
    walk_at "gs"
    refine ⟨t, ps, ever, liv, ks, nb, rfl, x0.kp0 k03, fun L2 fL2 => ?_⟩
    have kL2 := Kp.new (ws := []) (o := .lst (liv.map V.int)) fL2
    have hL2 := fresh_at (o := .lst (liv.map V.int)) fL2
    have k04 := Kp.trans k03 kL2
    have ht4 := k04.at_ _ _ ht not_nil
    walk_at "gs"
    refine ⟨t, ps, ever, liv, ks, nb, rfl, x0.kp0 k04, by omega, fun F2 fs2 H5 fF2 k5 hF2 fo2 => ?_⟩
    have hL5 := k5.at_ _ _ hL2 not_nil
    have flen2 := fo2.len
    have k05 := Kp.trans k04 k5
    walk_at "gs"
    refine i_new fun W fW => ?_
    rw [← List.map_append]
    have kW := Kp.new (ws := []) (o := .lst ((liv ++ fs2).map V.int)) fW
    have hW := fresh_at (o := .lst ((liv ++ fs2).map V.int)) fW
    walk_at "gs"
    refine i_new fun q fq => ?_
    have kq := Kp.new (ws := []) (o := .lst []) fq
    have hWq := kq.at_ _ _ hW not_nil
    have pm := fo2.perm z
    have k06 := Kp.trans k05 (Kp.trans kW kq)
    walk_at "gs"
    refine eq_ints0 (SqL.of hWq) upd_same ?_
    walk_at "gs"
    refine i_dec (fun c => ?_) (fun c => ?_)
    · walk_at "gs"
      exact k _ k06
    · obtain ⟨g, l, eg⟩ : ∃ g l, liv ++ fs2 = g :: l := by
        cases h : liv ++ fs2 with
        | nil => exact absurd h c
        | cons g l => exact ⟨g, l, rfl⟩
      have gk : g ∈ ks := pm.mem_iff.mp (by rw [eg]; exact List.mem_cons_self)
      have ht6 := k06.at_ _ _ ht not_nil
      have hsW : SqL K _ W ((liv ++ fs2).map V.int) := SqL.of hWq
      have at0 : atI ((liv ++ fs2).map V.int) 0 = some (.int g) := atI_nat (j := 0) (by rw [eg]; rfl)
      walk_at "gs"
      refine ⟨D, t, ps, ever, liv, ks, nb, g, rfl, x0.kp0 k06, z, by omega, gk, fun A vis H7 fA k7 hA met all => ?_⟩
      have hW7 := k7.at_ _ _ hWq not_nil
      have hsW7 : SqL K H7 W ((liv ++ fs2).map V.int) := SqL.of hW7
      walk_at "gs"
      refine ⟨A, vis.map kI, rfl, hA, ?_⟩
      walk_at "gs"
      have e1 : (vis.map kI).length = ((liv ++ fs2).map V.int).length := by
        rw [List.length_map, List.length_map, pm.length_eq, ← (nd_perm met.nv z.nk all).length_eq, List.length_map]
      rw [e1, decide_eq_true rfl]
      exact k _ (Kp.trans k06 k7)

def LenSetI (K : PySem.W.Frag) (x : V) (H1 : Hp) (Q : VK) : Prop := ∃ (l : Addr) (ns : List Int), x = .ref l ∧ SqL K H1 l (ns.map V.int) ∧ ns.Nodup ∧ ns.length ≤ 4000 ∧ Q (.int (ns.length : Nat)) H1
theorem i_lenSetI {K : PySem.W.Frag} {ta : TE} {σ : L2.St} {H : Hp} {Q : VK} (h : ta σ H fun x H1 => LenSetI K x H1 Q) : RZ.tLenSetI K ta σ H Q := h

def sp_tiesof (K : PySem.W.Frag) (C : Addr) : Sp := fun vs H Q _ => ∃ (D : Int → Int → Int) (ever : Int) (lv fr R : Addr) (liv fs ks : List Int) (rs : List (Int × Int)) (nb : Int → List Int), vs = [.int ever, .ref lv, .ref fr, .ref R] ∧
  H lv = some (.lst (liv.map V.int)) ∧ H fr = some (.lst (fs.map V.int)) ∧ LD K H R (rs.map d2) ∧ Tr3 D ever liv ks nb ∧ liv.Pairwise (· < ·) ∧ FreeOf liv ks fs ∧ RowsOf ks nb rs ∧ ever ≤ 60 ∧
  ∀ t ps nb' H', Fr H t → (∀ b ∈ ps, Fr H b) → Kp [] H H' → TiesAt C H' t ps ever liv (liv ++ fs) nb' → Tr3 D ever liv (liv ++ fs) nb' → Q (.ref t) H'
theorem sc_ties_of : FnScope ["ever", "living", "free", "rows", "worlds", "found"] ["ever", "living", "free", "rows"] (defScope s_ties_of) :=
  ⟨rfl, rfl, rfl, by decide +kernel, rfl, by decide +kernel, by decide +kernel⟩
theorem ok_ties_of {P : Program} {w : World} {K : PySem.W.Frag} {mg : Str → Option Value} {base : Heap} (T : Txt K mg) :
    FnG P w K mg base 5 T.a_ties_of T.d_ties_of ["ever", "living", "free", "rows"] (sp_tiesof K T.c_Ties) := by
  refine okD T.F_ties_of sc_ties_of (fun vs H Q E h => ?_) (fun cdv A outer s H vs Q E hr h => ?_)
  · first
      | (obtain ⟨_, rfl, _⟩ := h; rfl)
      | (obtain ⟨_, _, rfl, _⟩ := h; rfl)
      | (obtain ⟨_, _, _, rfl, _⟩ := h; rfl)
      | (obtain ⟨_, _, _, _, rfl, _⟩ := h; rfl)
      | (obtain ⟨_, _, _, _, _, rfl, _⟩ := h; rfl)
      | (obtain ⟨_, _, _, _, _, _, rfl, _⟩ := h; rfl)
      | (obtain ⟨_, _, _, _, _, _, _, rfl, _⟩ := h; rfl)
      | (obtain ⟨_, _, _, _, _, _, _, _, rfl, _⟩ := h; rfl)
      | (obtain ⟨_, _, _, _, _, _, _, _, _, rfl, _⟩ := h; rfl)
      | (obtain ⟨_, _, _, _, _, _, _, _, _, _, rfl, _⟩ := h; rfl)
      | (obtain ⟨_, _, _, _, _, _, _, _, _, _, _, rfl, _⟩ := h; rfl)
      | (obtain ⟨_, _, _, _, _, _, _, _, _, _, _, _, rfl, _⟩ := h; rfl)
      | (obtain ⟨_, _, _, _, _, _, _, _, _, _, _, _, _, rfl, _⟩ := h; rfl)
      | (obtain ⟨_, _, _, _, _, _, _, _, _, _, _, _, _, _, rfl, _⟩ := h; rfl)
      | (obtain ⟨_, _, _, _, _, _, _, _, _, _, _, _, _, _, _, rfl, _⟩ := h; rfl)
      | (obtain ⟨_, _, _, _, _, _, _, _, _, _, _, _, _, _, _, _, rfl, _⟩ := h; rfl)
      | (obtain ⟨_, _, _, _, _, _, _, _, _, _, _, _, _, _, _, _, _, rfl, _⟩ := h; rfl)
      | (obtain ⟨_, _, _, _, _, _, _, _, _, _, _, _, _, _, _, _, _, _, rfl, _⟩ := h; rfl)
      | (obtain ⟨_, _, _, _, _, _, _, _, _, _, _, _, _, _, _, _, _, _, _, rfl, _⟩ := h; rfl)
  · obtain ⟨D, ever, lv, fr, R, liv, fs, ks, rs, nb, rfl, hlv, hfr, ld, z, sl, fo, ro, he, k⟩ := h
    have klen := z.klen
    have llen := z.llen
    have flen := fo.len
    have pm := fo.perm z
    have nW : (liv ++ fs).Nodup := pm.nodup_iff.mpr z.nk
    have lW := pm.length_eq
    have e0 := z.e0
    have rmax := rows_max z ro
    have rlen : rs.length ≤ ks.length := by
      have : max 0 ((ks.length : Int) - 1) ≤ ks.length := by omega
      omega
    have hrow : ∀ q ∈ rs, (0 ≤ q.1 ∧ q.1 < q.2 ∧ q.2 < 64) ∧ q.1 ∈ liv ++ fs ∧ q.2 ∈ liv ++ fs := fun q hq => by
      obtain ⟨a, b, c⟩ := (ro.2 q).mp hq
      obtain ⟨a2, _, _⟩ := (z.rp.adj _ a _).mp b
      obtain ⟨u1, u2⟩ := z.hU _ a
      obtain ⟨u3, u4⟩ := z.hU _ a2
      exact ⟨⟨u1, c, by omega⟩, pm.mem_iff.mpr a, pm.mem_iff.mpr a2⟩
    refine ⟨_, (pss_cons (ps_if (PW.pt (pw_or (pt_not (pt_val (d1 (ok_is_count T) (hr.mono (by decide)) (by rfl) T.m_is_count T.F_is_count.kp T.b_is_count passL (pa_cons (pv 0) pa_nil)))) (pw_or1 (pt_cmpR op_lt (pv 0) pe_int (nomark _))))) (pss_one ps_never) pss_nil)
      (pss_cons (ps_if (PW.pt (pw_or (pt_not (pt_val (d1 (ok_are_worlds T) (hr.mono (by decide)) (by rfl) T.m_are_worlds T.F_are_worlds.kp T.b_are_worlds passL (pa_cons (pv 1) (pa_cons (pv 0) pa_nil))))) (pw_or1 (pt_not (pt_val (d1 (ok_are_worlds T) (hr.mono (by decide)) (by rfl) T.m_are_worlds T.F_are_worlds.kp T.b_are_worlds passL (pa_cons (pv 2) (pa_cons (pv 0) pa_nil)))))))) (pss_one ps_never) pss_nil)
      (pss_cons (ps_set (i := 4) sc_ties_of.nd rfl (Or.inl rfl) (pe_op (k_add (K := K) rfl) (pv 1) (pv 2)))
      (pss_cons (ps_if (pt_cmpR (k_ne (K := K) rfl hr.r.units) (RZ.pe_lenSetI (by rfl) T.n_len (by rfl) T.n_set (pv 4)) (pe_callB (k_len (K := K) rfl) (by rfl) T.n_len (by decide +kernel) (pa_cons (pv 4) pa_nil)) (nomark _)) (pss_one ps_never) pss_nil)
      (pss_cons (ps_if (pt_not (pt_val (d1 (ok_are_pairs T) (hr.mono (by decide)) (by rfl) T.m_are_pairs T.F_are_pairs.kp T.b_are_pairs passL (pa_cons (pv 3) (pa_cons (pv 4) pa_nil))))) (pss_one ps_never) pss_nil)
      (pss_cons (ps_set (i := 5) sc_ties_of.nd rfl (Or.inl rfl) (d1 (ok_made T) (hr.mono (by decide)) (by rfl) T.m_made T.F_made.kp T.b_made passL (pa_cons (pv 0) (pa_cons (pv 1) (pa_cons (pv 4) (pa_cons (pv 3) pa_nil))))))
      (pss_cons (ps_if (pt_not (pt_val (d1 (ok_is_tree T) (hr.mono (by decide)) (by rfl) T.m_is_tree T.F_is_tree.kp T.b_is_tree passL (pa_cons (pv 5) pa_nil)))) (pss_one ps_never) pss_nil)
      (pss_one (ps_ret (pv 5)))))))))), ?_⟩
    dsimp only [cxOf, st_1, st_2, st_3, st_4, st_5, st_6, List.length_cons, List.length_nil, List.replicate_succ, List.replicate_zero, Nat.reduceAdd, Nat.reduceSub]
    walk_at "gs"
    refine ⟨.int ever, .int ever, rfl, Any.int ever, ?_⟩
    rw [show cntD (.int ever) = true from decide_eq_true (by omega)]
    walk_at "gs"
    refine i_dec (fun c => absurd c (by omega)) (fun _ => ?_)
    walk_at "gs"
    refine ⟨lv, ever, liv, rfl, hlv, sl, fun x hx => z.hU x (z.sub x hx), by omega, fun H1 k1 => ?_⟩
    walk_at "gs"
    refine ⟨fr, ever, fs, rfl, k1.at_ _ _ hfr not_nil, fo.1, fun x hx => z.hU x ((fo.2 x).mp hx).1, by omega, fun H2 k2 => ?_⟩
    have k02 := Kp.trans k1 k2
    have hlv2 := k02.at_ _ _ hlv not_nil
    have hfr2 := k02.at_ _ _ hfr not_nil
    walk_at "gs"
    refine i_new fun W fW => ?_
    rw [← List.map_append]
    have kW := Kp.new (ws := []) (o := .lst ((liv ++ fs).map V.int)) fW
    have hW := fresh_at (o := .lst ((liv ++ fs).map V.int)) fW
    have hsW : SqL K _ W ((liv ++ fs).map V.int) := SqL.of hW
    walk_at "gs"
    refine i_lenSetI ?_
    walk_at "gs"
    refine ⟨W, liv ++ fs, rfl, hsW, nW, by omega, ?_⟩
    walk_at "gs"
    rw [List.length_map]
    refine i_decN (fun e => absurd rfl e) (fun _ => ?_)
    have k03 := Kp.trans k02 kW
    walk_at "gs"
    refine ⟨R, W, rs, liv ++ fs, rfl, ld.kp k03 (imms_d2 _) not_nil, hW, ro.1, by omega, hrow, fun H4 k4 => ?_⟩
    have k04 := Kp.trans k03 k4
    walk_at "gs"
    refine ⟨ever, lv, W, R, liv, liv ++ fs, rs, rfl, k04.at_ _ _ hlv not_nil, .inr (k4.at_ _ _ hW not_nil), ld.kp k04 (imms_d2 _) not_nil, nW, by omega, by omega, fun q hq => ?_, fun t ps H5 ft fps k5 x5 => ?_⟩
    · obtain ⟨⟨a, b, c⟩, d, e⟩ := hrow q hq
      exact ⟨d, e, by omega⟩
    have z5 : Tr3 D ever liv (liv ++ fs) (nbR rs) := (z.told ro).alike nW (fun x => pm.mem_iff) z.nl (fun _ => Iff.rfl) (z.told ro).rp.nd fun _ _ _ => Iff.rfl
    walk_at "gs"
    refine ⟨D, t, ps, ever, liv, liv ++ fs, nbR rs, rfl, x5, z5, by omega, fun H6 k6 => ?_⟩
    walk_at "gs"
    exact k t ps (nbR rs) H6 (k04.free ft) (fun b hb => k04.free (fps b hb)) (Kp.trans k04 (Kp.trans k5 k6)) (x5.kp0 k6) z5

theorem i_isIf {c : TT} {s1 s2 : TS} {D : Ends} {σ : L2.St} {H : Hp} (h : tIfS c s1 s2 D σ H) : tIfS c s1 s2 D σ H := h
theorem i_cutIf {c : TT} {s1 s2 : TS} {D : Ends} {σ : L2.St} {H : Hp} (P : L2.St → Hp → Prop) (k : ∀ σ' H', P σ' H' → D.nx σ' H') (h : ∀ D' : Ends, (∀ σ' H', P σ' H' → D'.nx σ' H') → tIfS c s1 s2 D' σ H) : tIfS c s1 s2 D σ H := h D k
--%%M
local macro_rules | `(tactic| walk_at "gi") => `(tactic| repeat ((fail_if_success (with_reducible apply i_isIf)); (walk_at "g1")))
--%%E

/-! ### pots and draws -/
def sp_law_pot (K : PySem.W.Frag) : Sp := fun vs H Q _ => ∃ (a : Addr) (ns : List Int) (i : Nat),
  vs = [.ref a, .int i] ∧ SqL K H a (ns.map V.int) ∧ i ≤ 100 ∧
  ∀ p H', Fr H p → Kp [] H H' → PotAt H' p → Q (.ref p) H'
theorem sc_law_pot : FnScope ["_law_script", "_law_k", "_law_cell"] ["_law_script", "_law_k"] (defScope s_law_pot) :=
  ⟨rfl, rfl, rfl, by decide +kernel, rfl, by decide +kernel, by decide +kernel⟩
theorem ok_law_pot {P : Program} {w : World} {K : PySem.W.Frag} {mg : Str → Option Value} {base : Heap} (T : Txt K mg) :
    FnG P w K mg base 1 T.a_law_pot T.d_law_pot ["_law_script", "_law_k"] (sp_law_pot K) := by
  refine okD T.F_law_pot sc_law_pot (fun vs H Q E h => ?_) (fun cdv A outer s H vs Q E hr h => ?_)
  · first
      | (obtain ⟨_, rfl, _⟩ := h; rfl)
      | (obtain ⟨_, _, rfl, _⟩ := h; rfl)
      | (obtain ⟨_, _, _, rfl, _⟩ := h; rfl)
      | (obtain ⟨_, _, _, _, rfl, _⟩ := h; rfl)
      | (obtain ⟨_, _, _, _, _, rfl, _⟩ := h; rfl)
      | (obtain ⟨_, _, _, _, _, _, rfl, _⟩ := h; rfl)
      | (obtain ⟨_, _, _, _, _, _, _, rfl, _⟩ := h; rfl)
      | (obtain ⟨_, _, _, _, _, _, _, _, rfl, _⟩ := h; rfl)
      | (obtain ⟨_, _, _, _, _, _, _, _, _, rfl, _⟩ := h; rfl)
      | (obtain ⟨_, _, _, _, _, _, _, _, _, _, rfl, _⟩ := h; rfl)
      | (obtain ⟨_, _, _, _, _, _, _, _, _, _, _, rfl, _⟩ := h; rfl)
      | (obtain ⟨_, _, _, _, _, _, _, _, _, _, _, _, rfl, _⟩ := h; rfl)
      | (obtain ⟨_, _, _, _, _, _, _, _, _, _, _, _, _, rfl, _⟩ := h; rfl)
      | (obtain ⟨_, _, _, _, _, _, _, _, _, _, _, _, _, _, rfl, _⟩ := h; rfl)
      | (obtain ⟨_, _, _, _, _, _, _, _, _, _, _, _, _, _, _, rfl, _⟩ := h; rfl)
      | (obtain ⟨_, _, _, _, _, _, _, _, _, _, _, _, _, _, _, _, rfl, _⟩ := h; rfl)
      | (obtain ⟨_, _, _, _, _, _, _, _, _, _, _, _, _, _, _, _, _, rfl, _⟩ := h; rfl)
      | (obtain ⟨_, _, _, _, _, _, _, _, _, _, _, _, _, _, _, _, _, _, rfl, _⟩ := h; rfl)
      | (obtain ⟨_, _, _, _, _, _, _, _, _, _, _, _, _, _, _, _, _, _, _, rfl, _⟩ := h; rfl)
  · obtain ⟨a, ns, i, rfl, hsq, hi, k⟩ := h
    refine ⟨_, (pss_cons (ps_set (i := 2) sc_law_pot.nd rfl (Or.inl rfl) (pe_ifExp (pt_cmpR op_lt (pv 1) (pe_callB (k_len (K := K) rfl) (by rfl) T.n_len (by decide +kernel) (pa_cons (pv 0) pa_nil)) (nomark _)) (pe_ix (k_ix (K := K) rfl) (pv 0) (pv 1) (fun _ _ => rfl)) (pe_op (k_add (K := K) rfl) (pe_op o_mul pe_int (pv 1)) pe_int)))
      (pss_one (ps_ret (pe_lst (pa_cons (pe_callB (c_max2 rfl) (by rfl) T.n_max (by decide +kernel) (pa_cons pe_int (pa_cons (pe_op op_sub (pe_callB c_abs (by rfl) T.n_abs (by decide +kernel) (pa_cons (pv 2) pa_nil)) (pe_op o_pow pe_int pe_int)) pa_nil))) (pa_cons (pe_op (k_add (K := K) rfl) (pe_op (k_add (K := K) rfl) (pe_op o_mod (pe_callB c_abs (by rfl) T.n_abs (by decide +kernel) (pa_cons (pv 2) pa_nil)) pe_int) (pe_op o_mul pe_int (pv 1))) pe_int) pa_nil)))))), ?_⟩
    dsimp only [cxOf, st_1, st_2, st_3, st_4, st_5, st_6, List.length_cons, List.length_nil, List.replicate_succ, List.replicate_zero, Nat.reduceAdd, Nat.reduceSub]
    walk_at "gs"
    refine i_dec (fun h0 => ?_) (fun h0 => ?_)
    · rw [List.length_map] at h0
      have hx : (ns.map V.int)[i]? = some (V.int (ns[i]'(by omega))) := by simp
      have hat := atI_nat hx
      walk_at "gs"
      refine i_new fun p hp => ?_
      refine k p _ hp (Kp.new hp) ⟨_, _, upd_same, ?_, ?_, ?_⟩ <;> omega
    · walk_at "gs"
      refine i_new fun p hp => ?_
      refine k p _ hp (Kp.new hp) ⟨_, _, upd_same, ?_, ?_, ?_⟩ <;> omega
def sp_law_draw : Sp := fun vs H Q _ => ∃ (p : Addr) (n : Int), vs = [.ref p, .int n] ∧ PotAt H p ∧ 0 < n ∧
  n ≤ 10000000000000000000000000000000000000000000000000000000000000000000000 ∧
  ∀ r H', 0 ≤ r → r < n → PotAt H' p → Kp [p] H H' → Q (.int r) H'
theorem sc_law_draw : FnScope ["_law_pot_here", "_law_many", "_law_digit"] ["_law_pot_here", "_law_many"] (defScope s_law_draw) :=
  ⟨rfl, rfl, rfl, by decide +kernel, rfl, by decide +kernel, by decide +kernel⟩
theorem ok_law_draw {P : Program} {w : World} {K : PySem.W.Frag} {mg : Str → Option Value} {base : Heap} (T : Txt K mg) :
    FnG P w K mg base 1 T.a_law_draw T.d_law_draw ["_law_pot_here", "_law_many"] sp_law_draw := by
  refine okD T.F_law_draw sc_law_draw (fun vs H Q E h => ?_) (fun cdv A outer s H vs Q E hr h => ?_)
  · first
      | (obtain ⟨_, rfl, _⟩ := h; rfl)
      | (obtain ⟨_, _, rfl, _⟩ := h; rfl)
      | (obtain ⟨_, _, _, rfl, _⟩ := h; rfl)
      | (obtain ⟨_, _, _, _, rfl, _⟩ := h; rfl)
      | (obtain ⟨_, _, _, _, _, rfl, _⟩ := h; rfl)
      | (obtain ⟨_, _, _, _, _, _, rfl, _⟩ := h; rfl)
      | (obtain ⟨_, _, _, _, _, _, _, rfl, _⟩ := h; rfl)
      | (obtain ⟨_, _, _, _, _, _, _, _, rfl, _⟩ := h; rfl)
      | (obtain ⟨_, _, _, _, _, _, _, _, _, rfl, _⟩ := h; rfl)
      | (obtain ⟨_, _, _, _, _, _, _, _, _, _, rfl, _⟩ := h; rfl)
      | (obtain ⟨_, _, _, _, _, _, _, _, _, _, _, rfl, _⟩ := h; rfl)
      | (obtain ⟨_, _, _, _, _, _, _, _, _, _, _, _, rfl, _⟩ := h; rfl)
      | (obtain ⟨_, _, _, _, _, _, _, _, _, _, _, _, _, rfl, _⟩ := h; rfl)
      | (obtain ⟨_, _, _, _, _, _, _, _, _, _, _, _, _, _, rfl, _⟩ := h; rfl)
      | (obtain ⟨_, _, _, _, _, _, _, _, _, _, _, _, _, _, _, rfl, _⟩ := h; rfl)
      | (obtain ⟨_, _, _, _, _, _, _, _, _, _, _, _, _, _, _, _, rfl, _⟩ := h; rfl)
      | (obtain ⟨_, _, _, _, _, _, _, _, _, _, _, _, _, _, _, _, _, rfl, _⟩ := h; rfl)
      | (obtain ⟨_, _, _, _, _, _, _, _, _, _, _, _, _, _, _, _, _, _, rfl, _⟩ := h; rfl)
      | (obtain ⟨_, _, _, _, _, _, _, _, _, _, _, _, _, _, _, _, _, _, _, rfl, _⟩ := h; rfl)
  · obtain ⟨p, n, rfl, ⟨x, y, hp, hx, hy, hy2⟩, h0, h1, k⟩ := h
    refine ⟨_, (pss_cons (ps_if (pt_cmpR op_gt (pe_ix (k_ix (K := K) rfl) (pv 0) pe_int (fun _ _ => rfl)) pe_int (nomark _)) (pss_cons (ps_asg (pe_callB c_dm (by rfl) T.n_divmod (by decide +kernel) (pa_cons (pe_ix (k_ix (K := K) rfl) (pv 0) pe_int (fun _ _ => rfl)) (pa_cons (pv 1) pa_nil))) (k_gtup (K := K) 2 rfl rfl (pgs_cons (pg_sub (pv 0) pe_int set_list) (pgs_cons (pg_name (i := 2) sc_law_draw.nd rfl (Or.inl rfl)) pgs_nil))))
      (pss_one (ps_ret (pv 2)))) pss_nil)
      (pss_cons (ps_asg (pe_op o_mod (pe_op (k_add (K := K) rfl) (pe_op o_mul (pe_ix (k_ix (K := K) rfl) (pv 0) pe_int (fun _ _ => rfl)) pe_int) pe_int) pe_int) (pg_sub (pv 0) pe_int set_list))
      (pss_one (ps_ret (pe_op o_mod (pe_op o_div (pe_op o_mod (pe_op o_mul (pe_ix (k_ix (K := K) rfl) (pv 0) pe_int (fun _ _ => rfl)) (pe_ix (k_ix (K := K) rfl) (pv 0) pe_int (fun _ _ => rfl))) pe_int) pe_int) (pv 1)))))), ?_⟩
    dsimp only [cxOf, st_1, st_2, st_3, st_4, st_5, st_6, List.length_cons, List.length_nil, List.replicate_succ, List.replicate_zero, Nat.reduceAdd, Nat.reduceSub]
    walk_at "gs"
    refine i_dec (fun hx0 => ?_) (fun hx0 => ?_)
    · walk_at "gs"
      refine i_new fun q hq => ?_
      walk_at "gs"
      refine k _ _ (Int.emod_nonneg _ (by omega)) (Int.emod_lt_of_pos _ h0) ⟨_, _, upd_same, ?_, hy, hy2⟩ ?_
      · exact Int.ediv_nonneg hx (by omega)
      · walk_at "g_kp"
    · walk_at "gs"
      refine k _ _ (Int.emod_nonneg _ (by omega)) (Int.emod_lt_of_pos _ h0) ⟨_, _, upd_same, hx, ?_, ?_⟩ ?_
      · omega
      · omega
      · walk_at "g_kp"
theorem use_draw {H : Hp} {Q : VK} {E : XK} {p : Addr} {n : Int} (hp : PotAt H p) (h0 : 0 < n)
    (h1 : n ≤ 10000000000000000000000000000000000000000000000000000000000000000000000)
    (k : ∀ r H', 0 ≤ r → r < n → PotAt H' p → Kp [p] H H' → Q (.int r) H') :
    sp_law_draw [.ref p, .int n] H Q E := ⟨p, n, rfl, hp, h0, h1, k⟩

/-! ### drawn trees: grown edge by edge, named anew -/
section
variable {D : Int → Int → Int} {ever n w : Int} {es : List (Int × Int)} {ks : List Int} {nb : Int → List Int}
/-- the numbers below n -/
def upto (n : Nat) : List Int := (List.range n).map fun k : Nat => (k : Int)
theorem mem_upto {n : Nat} {x : Int} : x ∈ upto n ↔ 0 ≤ x ∧ x < n := by
  unfold upto
  rw [List.mem_map]
  constructor
  · rintro ⟨k, hk, rfl⟩
    have := List.mem_range.mp hk
    omega
  · rintro ⟨a, b⟩
    exact ⟨x.toNat, List.mem_range.mpr (by omega), by omega⟩
theorem upto_succ (n : Nat) : upto (n + 1) = upto n ++ [(n : Int)] := by
  unfold upto
  rw [List.range_succ, List.map_append]
  rfl
theorem upto_nd (n : Nat) : (upto n).Nodup := by
  unfold upto
  refine List.pairwise_map.mpr (List.nodup_range.imp fun {a b} n e => n ?_)
  omega
theorem upto_len (n : Nat) : (upto n).length = n := by
  unfold upto
  rw [List.length_map, List.length_range]
/-- a tree of n worlds by its edges, each to a later one -/
structure Tre (n : Nat) (es : List (Int × Int)) : Prop where
  ex : ∃ D, TreeU D (Un n) ∧ Rp D (upto n) (nbR es)
  lt : ∀ q ∈ es, 0 ≤ q.1 ∧ q.1 < q.2 ∧ q.2 < n
  nd : es.Nodup
  len : es.length + 1 = n
  sn : (es.map (·.2)).Nodup
theorem nbR_app (es : List (Int × Int)) (q : Int × Int) (u : Int) : nbR (es ++ [q]) u = nbR es u ++ ((if q.1 = u then [q.2] else []) ++ (if q.2 = u then [q.1] else [])) := by
  unfold nbR
  rw [List.flatMap_append]
  simp
theorem nbR_none {es : List (Int × Int)} {u : Int} (h : ∀ q ∈ es, q.1 ≠ u ∧ q.2 ≠ u) : nbR es u = [] := by
  cases e : nbR es u with
  | nil => rfl
  | cons v l =>
    have m : v ∈ nbR es u := by rw [e]; exact List.mem_cons_self
    rcases mem_nbR.mp m with m | m
    · exact absurd rfl (h _ m).1
    · exact absurd rfl (h _ m).2
theorem Tre.one : Tre 1 [] := by
  have z := tr3_init
  refine ⟨⟨D0, z.t, ?_⟩, fun q h => (nomatch h), List.nodup_nil, rfl, List.nodup_nil⟩
  exact z.rp
theorem Tre.more {n : Nat} {w : Int} (t : Tre n es) (h : 0 ≤ w ∧ w < n) : Tre (n + 1) (es ++ [(w, (n : Int))]) := by
  obtain ⟨D, tu, r⟩ := t.ex
  have hU : ∀ u ∈ upto n, Un n u := fun u hu => mem_upto.mp hu
  have hw := mem_upto.mpr h
  refine ⟨⟨Dk D n w, tu.fork (hU w hw), ?_⟩, fun q hq => ?_, ?_, by rw [List.length_append, List.length_singleton, t.len], ?_⟩
  · have z := r.fork tu hU hw
    rw [upto_succ]
    have e : nbR (es ++ [(w, (n : Int))]) = forkN (nbR es) n w := by
      funext u
      rw [nbR_app]
      unfold forkN
      by_cases c : u = n
      · subst c
        rw [if_neg (by show w ≠ _; omega), if_pos rfl, if_pos rfl, nbR_none fun q hq => by have := t.lt q hq; omega]
        rfl
      · rw [if_neg c, if_neg (fun z : (n : Int) = u => c z.symm)]
        by_cases c2 : u = w
        · subst c2
          rw [if_pos rfl, if_pos rfl, List.append_nil]
        · rw [if_neg (fun z : w = u => c2 z.symm), if_neg c2, List.append_nil, List.append_nil]
    rw [e]
    exact z
  · rcases List.mem_append.mp hq with h | h
    · have := t.lt q h
      omega
    · rw [List.mem_singleton.mp h]
      show 0 ≤ w ∧ w < (n : Int) ∧ (n : Int) < ((n + 1 : Nat) : Int)
      omega
  · refine List.nodup_append.mpr ⟨t.nd, by simp, fun a ha b hb e => ?_⟩
    have := t.lt a ha
    rw [e, List.mem_singleton.mp hb] at this
    have : (n : Int) < n := this.2.2
    omega
  · rw [List.map_append]
    refine List.nodup_append.mpr ⟨t.sn, by simp, fun a ha b hb e => ?_⟩
    obtain ⟨q, hq, rfl⟩ := List.mem_map.mp ha
    have := t.lt q hq
    have e2 : b = (n : Int) := List.mem_singleton.mp hb
    omega
/-- how many edges a world has -/
theorem nbR_count {u : Int} : ∀ {es : List (Int × Int)}, (∀ q ∈ es, q.1 ≠ q.2) → (nbR es u).length = (es.filter fun q => decide (u = q.1 ∨ u = q.2)).length
  | [], _ => rfl
  | q :: es, h => by
    have ih := nbR_count (u := u) (es := es) fun r hr => h r (List.mem_cons_of_mem _ hr)
    have hq := h q List.mem_cons_self
    have e : nbR (q :: es) u = ((if q.1 = u then [q.2] else []) ++ (if q.2 = u then [q.1] else [])) ++ nbR es u := by
      unfold nbR
      rw [List.flatMap_cons]
    rw [e, List.length_append, ih, List.filter_cons]
    by_cases c1 : q.1 = u
    · rw [if_pos c1, if_neg (by omega), if_pos (decide_eq_true (.inl c1.symm)), List.length_cons]
      simp
      omega
    · by_cases c2 : q.2 = u
      · rw [if_neg c1, if_pos c2, if_pos (decide_eq_true (.inr c2.symm)), List.length_cons]
        simp
        omega
      · rw [if_neg c1, if_neg c2, if_neg (by simp; omega)]
        simp
/-- the youngest has one edge at most -/
theorem Tre.last {n : Nat} (t : Tre n es) : (nbR es ((n : Int) - 1)).length ≤ 1 := by
  rw [nbR_count fun q hq => by have := t.lt q hq; omega]
  have h : ∀ q ∈ es.filter fun q => decide ((n : Int) - 1 = q.1 ∨ (n : Int) - 1 = q.2), q.2 = (n : Int) - 1 := fun q hq => by
    obtain ⟨a, b⟩ := List.mem_filter.mp hq
    have := t.lt q a
    have := of_decide_eq_true b
    omega
  have nd : ((es.filter fun q => decide ((n : Int) - 1 = q.1 ∨ (n : Int) - 1 = q.2)).map (·.2)).Nodup := t.sn.sublist (List.Sublist.map _ List.filter_sublist)
  cases e : es.filter fun q => decide ((n : Int) - 1 = q.1 ∨ (n : Int) - 1 = q.2) with
  | nil => exact Nat.zero_le _
  | cons a l =>
    cases l with
    | nil => exact Nat.le_refl _
    | cons b l =>
      rw [e] at h nd
      have h1 := h a (by simp)
      have h2 := h b (by simp)
      rw [List.map_cons, List.map_cons, List.nodup_cons, h1, h2] at nd
      exact absurd List.mem_cons_self nd.1
/-! named anew -/
/-- distances where each of U' hangs at one of U -/
def Dn (D : Int → Int → Int) (g h : Int → Int) : Int → Int → Int := fun x y => if x = y then 0 else D (g x) (g y) + h x + h y
theorem TreeU.named {U U' : Int → Prop} {g h : Int → Int} (t : TreeU D U) (hg : ∀ x, U' x → U (g x)) (h0 : ∀ x, 0 ≤ h x) (inj : ∀ x y, U' x → U' y → g x = g y → h x = 0 → h y = 0 → x = y) : TreeU (Dn D g h) U' := by
  have ne : ∀ {x y}, x ≠ y → Dn D g h x y = D (g x) (g y) + h x + h y := fun {x y} c => by
    unfold Dn
    rw [if_neg c]
  have eq : ∀ x, Dn D g h x x = 0 := fun x => by
    unfold Dn
    rw [if_pos rfl]
  have nn : ∀ u v, U' u → U' v → 0 ≤ Dn D g h u v := fun u v hu hv => by
    by_cases c : u = v
    · rw [c, eq]
      exact Int.le_refl _
    · rw [ne c]
      have := t.nn _ _ (hg u hu) (hg v hv)
      have := h0 u
      have := h0 v
      omega
  have sy : ∀ u v, U' u → U' v → Dn D g h u v = Dn D g h v u := fun u v hu hv => by
    by_cases c : u = v
    · rw [c]
    · rw [ne c, ne (Ne.symm c), t.sym _ _ (hg u hu) (hg v hv)]
      omega
  have tri : ∀ u v x, U' u → U' v → U' x → Dn D g h u v ≤ Dn D g h u x + Dn D g h x v := fun u v x hu hv hx => by
    by_cases c : u = v
    · have := nn u x hu hx
      have := nn x v hx hv
      rw [c, eq] at *
      omega
    · by_cases c1 : u = x
      · rw [c1, eq]
        omega
      · by_cases c2 : x = v
        · rw [c2, eq]
          omega
        · rw [ne c, ne c1, ne c2]
          have := t.tri (hg u hu) (hg v hv) (hg x hx)
          have := h0 x
          omega
  refine ⟨nn, fun u _ => eq u, fun u v hu hv e => ?_, sy, fun a b c d ha hb hc hd => ?_⟩
  · refine Classical.byContradiction fun n => ?_
    rw [ne n] at e
    have := t.nn _ _ (hg u hu) (hg v hv)
    have := h0 u
    have := h0 v
    exact n (inj u v hu hv (t.eq _ _ (hg u hu) (hg v hv) (by omega)) (by omega) (by omega))
  · by_cases e1 : a = b
    · subst e1
      have := tri c d a hc hd ha
      have := sy c a hc ha
      rw [eq]
      omega
    by_cases e2 : c = d
    · subst e2
      have := tri a b c ha hb hc
      have := sy c b hc hb
      rw [eq]
      omega
    by_cases e3 : a = c
    · subst e3
      have := sy a b ha hb
      rw [eq]
      omega
    by_cases e4 : a = d
    · subst e4
      have := sy b a hb ha
      have := sy c a hc ha
      rw [eq]
      omega
    by_cases e5 : b = c
    · subst e5
      rw [eq]
      omega
    by_cases e6 : b = d
    · subst e6
      have := sy c b hc hb
      rw [eq]
      omega
    rw [ne e1, ne e2, ne e3, ne e4, ne e5, ne e6]
    have := t.four _ _ _ _ (hg a ha) (hg b hb) (hg c hc) (hg d hd)
    omega
theorem Rp.named {D' : Int → Int → Int} {f : Int → Int} {nb' : Int → List Int} (r : Rp D ks nb) (inj : ∀ x ∈ ks, ∀ y ∈ ks, f x = f y → x = y) (e : ∀ x ∈ ks, ∀ y ∈ ks, D' (f x) (f y) = D x y) (en : ∀ x ∈ ks, nb' (f x) = (nb x).map f) : Rp D' (ks.map f) nb' := by
  have b : ∀ {x y z}, x ∈ ks → y ∈ ks → z ∈ ks → (Btw D' (f x) (f y) (f z) ↔ Btw D x y z) := fun {x y z} hx hy hz => by
    unfold Btw
    rw [e x hx y hy, e y hy z hz, e x hx z hz]
  refine ⟨fun u hu => ?_, fun u hu v => ?_, fun u hu v hv z hz => ?_⟩
  · obtain ⟨x, hx, rfl⟩ := List.mem_map.mp hu
    rw [en x hx]
    refine List.pairwise_map.mpr ((r.nd x hx).imp_of_mem fun {a b} ha hb n q => n (inj a ((r.adj x hx a).mp ha).1 b ((r.adj x hx b).mp hb).1 q))
  · obtain ⟨x, hx, rfl⟩ := List.mem_map.mp hu
    rw [en x hx, List.mem_map]
    constructor
    · rintro ⟨y, hy, rfl⟩
      obtain ⟨h1, h2, h3⟩ := (r.adj x hx y).mp hy
      refine ⟨List.mem_map.mpr ⟨y, h1, rfl⟩, fun q => h2 (inj y h1 x hx q), fun c hc n1 n2 k => ?_⟩
      obtain ⟨z, hz, rfl⟩ := List.mem_map.mp hc
      exact h3 z hz (fun q => n1 (by rw [q])) (fun q => n2 (by rw [q])) ((b hx hz h1).mp k)
    · rintro ⟨h1, h2, h3⟩
      obtain ⟨y, hy, rfl⟩ := List.mem_map.mp h1
      refine ⟨y, (r.adj x hx y).mpr ⟨hy, fun q => h2 (by rw [q]), fun z hz n1 n2 k => ?_⟩, rfl⟩
      exact h3 (f z) (List.mem_map.mpr ⟨z, hz, rfl⟩) (fun q => n1 (inj z hz x hx q)) (fun q => n2 (inj z hz y hy q)) ((b hx hz hy).mpr k)
  · obtain ⟨x, hx, rfl⟩ := List.mem_map.mp hu
    obtain ⟨y, hy, rfl⟩ := List.mem_map.mp hv
    obtain ⟨c, hc, rfl⟩ := List.mem_map.mp hz
    obtain ⟨m, hm, m1, m2, m3⟩ := r.med x hx y hy c hc
    exact ⟨f m, List.mem_map.mpr ⟨m, hm, rfl⟩, (b hx hm hy).mpr m1, (b hx hm hc).mpr m2, (b hy hm hc).mpr m3⟩
/-- an edge named anew, the lower end first -/
def edN (f : Int → Int) (q : Int × Int) : Int × Int := (min (f q.1) (f q.2), max (f q.1) (f q.2))
theorem nbR_named {f : Int → Int} {n : Nat} {u : Int} (hu : 0 ≤ u ∧ u < n) (inj : ∀ x y : Int, (0 ≤ x ∧ x < n) → (0 ≤ y ∧ y < n) → f x = f y → x = y) : ∀ {es : List (Int × Int)}, (∀ q ∈ es, 0 ≤ q.1 ∧ q.1 < q.2 ∧ q.2 < n) → nbR (es.map (edN f)) (f u) = (nbR es u).map f
  | [], _ => rfl
  | q :: es, h => by
    have ih := nbR_named hu inj (es := es) fun r hr => h r (List.mem_cons_of_mem _ hr)
    obtain ⟨a, b, c⟩ := h q List.mem_cons_self
    have i1 : f q.1 = f u ↔ q.1 = u := ⟨inj _ _ (by omega) hu, fun e => by rw [e]⟩
    have i2 : f q.2 = f u ↔ q.2 = u := ⟨inj _ _ (by omega) hu, fun e => by rw [e]⟩
    have i3 : f q.1 ≠ f q.2 := fun e => by
      have := inj _ _ (by omega) (by omega) e
      omega
    unfold nbR at ih ⊢
    rw [List.map_cons, List.flatMap_cons, List.flatMap_cons, ih, List.map_append]
    congr 1
    unfold edN
    rw [List.map_append]
    by_cases c1 : q.1 = u
    · have n2 : q.2 ≠ u := by omega
      have e1 := i1.mpr c1
      have e2 : f q.2 ≠ f u := fun e => n2 (i2.mp e)
      rw [if_pos c1, if_neg n2]
      by_cases l : f q.1 < f q.2
      · rw [Int.min_eq_left (by omega), Int.max_eq_right (by omega), if_pos e1, if_neg e2]
        rfl
      · rw [Int.min_eq_right (by omega), Int.max_eq_left (by omega), if_pos e1, if_neg e2]
        rfl
    · have e1 : f q.1 ≠ f u := fun e => c1 (i1.mp e)
      rw [if_neg c1]
      by_cases c2 : q.2 = u
      · have e2 := i2.mpr c2
        rw [if_pos c2]
        by_cases l : f q.1 < f q.2
        · rw [Int.min_eq_left (by omega), Int.max_eq_right (by omega), if_pos e2, if_neg e1]
          rfl
        · rw [Int.min_eq_right (by omega), Int.max_eq_left (by omega), if_pos e2, if_neg e1]
          rfl
      · have e2 : f q.2 ≠ f u := fun e => c2 (i2.mp e)
        rw [if_neg c2]
        by_cases l : f q.1 < f q.2
        · rw [Int.min_eq_left (by omega), Int.max_eq_right (by omega), if_neg e1, if_neg e2]
          rfl
        · rw [Int.min_eq_right (by omega), Int.max_eq_left (by omega), if_neg e1, if_neg e2]
          rfl
/-- the tree by other names, of which there may be more: ties' tree, where each free one has three ties -/
theorem Tre.tr3 {n : Nat} {f : Int → Int} {liv fs : List Int} {rs : List (Int × Int)} (t : Tre n es) (hf : ∀ x : Int, 0 ≤ x → x < n → Un ever (f x)) (inj : ∀ x y : Int, (0 ≤ x ∧ x < n) → (0 ≤ y ∧ y < n) → f x = f y → x = y)
    (pm : (liv ++ fs).Perm ((upto n).map f)) (prs : rs.Perm (es.map (edN f))) (red : ∀ x ∈ fs, ∀ u : Int, 0 ≤ u → u < n → x = f u → 3 ≤ (nbR es u).length) :
    ∃ D', Tr3 D' ever liv (liv ++ fs) (nbR rs) ∧ (liv ++ fs).Nodup ∧ ∀ q, q ∈ rs ↔ q.1 ∈ liv ++ fs ∧ q.2 ∈ nbR rs q.1 ∧ q.1 < q.2 := by
  obtain ⟨D, tu, r⟩ := t.ex
  have n0 : 0 < n := by have := t.len; omega
  have e0 : 0 < ever := by
    have := hf 0 (Int.le_refl _) (by omega)
    obtain ⟨a, b⟩ := this
    omega
  have ninj : ∀ x ∈ upto n, ∀ y ∈ upto n, f x = f y → x = y := fun x hx y hy => inj x y (mem_upto.mp hx) (mem_upto.mp hy)
  have nK : ((upto n).map f).Nodup := List.pairwise_map.mpr ((upto_nd n).imp_of_mem fun {a b} ha hb n q => n (ninj a ha b hb q))
  have nLF := pm.nodup_iff.mpr nK
  obtain ⟨g, hg⟩ : ∃ g : Int → Int, ∀ x, (x ∈ (upto n).map f → g x ∈ upto n ∧ f (g x) = x) ∧ (x ∉ (upto n).map f → g x = 0) := by
    have h : ∀ x, ∃ y, (x ∈ (upto n).map f → y ∈ upto n ∧ f y = x) ∧ (x ∉ (upto n).map f → y = 0) := fun x => by
      by_cases c : x ∈ (upto n).map f
      · obtain ⟨y, hy, e⟩ := List.mem_map.mp c
        exact ⟨y, fun _ => ⟨hy, e⟩, fun z => absurd c z⟩
      · exact ⟨0, fun z => absurd z c, fun _ => rfl⟩
    exact ⟨fun x => Classical.choose (h x), fun x => Classical.choose_spec (h x)⟩
  obtain ⟨h, hh⟩ : ∃ h : Int → Int, ∀ x, (x ∈ (upto n).map f → h x = 0) ∧ (x ∉ (upto n).map f → h x = 1) :=
    ⟨fun x => if x ∈ (upto n).map f then 0 else 1, fun x => ⟨fun c => if_pos c, fun c => if_neg c⟩⟩
  have gf : ∀ x ∈ upto n, g (f x) = x := fun x hx => by
    obtain ⟨a, b⟩ := (hg (f x)).1 (List.mem_map.mpr ⟨x, hx, rfl⟩)
    exact ninj _ a _ hx b
  have tn : TreeU (Dn D g h) (Un ever) := by
    refine tu.named (fun x _ => ?_) (fun x => ?_) (fun x y _ _ e1 e2 e3 => ?_)
    · by_cases c : x ∈ (upto n).map f
      · exact mem_upto.mp ((hg x).1 c).1
      · rw [(hg x).2 c]
        exact ⟨Int.le_refl _, by omega⟩
    · by_cases c : x ∈ (upto n).map f
      · rw [(hh x).1 c]
        exact Int.le_refl _
      · rw [(hh x).2 c]
        decide
    · have c1 : x ∈ (upto n).map f := Classical.byContradiction fun c => by
        rw [(hh x).2 c] at e2
        cases e2
      have c2 : y ∈ (upto n).map f := Classical.byContradiction fun c => by
        rw [(hh y).2 c] at e3
        cases e3
      rw [← ((hg x).1 c1).2, ← ((hg y).1 c2).2, e1]
  have de : ∀ x ∈ upto n, ∀ y ∈ upto n, Dn D g h (f x) (f y) = D x y := fun x hx y hy => by
    unfold Dn
    by_cases c : x = y
    · rw [c, if_pos rfl]
      exact (tu.self y (mem_upto.mp hy)).symm
    · rw [if_neg (fun z => c (ninj x hx y hy z)), gf x hx, gf y hy, (hh _).1 (List.mem_map.mpr ⟨x, hx, rfl⟩), (hh _).1 (List.mem_map.mpr ⟨y, hy, rfl⟩)]
      omega
  have rn : Rp (Dn D g h) ((upto n).map f) (nbR (es.map (edN f))) := r.named ninj de fun x hx => nbR_named (mem_upto.mp hx) inj t.lt
  have elt : ∀ q ∈ es.map (edN f), q.1 < q.2 ∧ q.1 ∈ (upto n).map f ∧ q.2 ∈ (upto n).map f := fun q hq => by
    obtain ⟨p, hp, rfl⟩ := List.mem_map.mp hq
    obtain ⟨a, b, c⟩ := t.lt p hp
    have i3 : f p.1 ≠ f p.2 := fun e => by
      have := inj _ _ (by omega) (by omega) e
      omega
    have m1 : f p.1 ∈ (upto n).map f := List.mem_map.mpr ⟨p.1, mem_upto.mpr (by omega), rfl⟩
    have m2 : f p.2 ∈ (upto n).map f := List.mem_map.mpr ⟨p.2, mem_upto.mpr (by omega), rfl⟩
    unfold edN
    by_cases l : f p.1 < f p.2
    · rw [Int.min_eq_left (by omega), Int.max_eq_right (by omega)]
      exact ⟨l, m1, m2⟩
    · rw [Int.min_eq_right (by omega), Int.max_eq_left (by omega)]
      exact ⟨by show f p.2 < f p.1; omega, m2, m1⟩
  have nE : (es.map (edN f)).Nodup := by
    refine List.pairwise_map.mpr (t.nd.imp_of_mem fun {p q} hp hq n e => n ?_)
    obtain ⟨a, b, c⟩ := t.lt p hp
    obtain ⟨a', b', c'⟩ := t.lt q hq
    have e1 := congrArg Prod.fst e
    have e2 := congrArg Prod.snd e
    unfold edN at e1 e2
    simp only at e1 e2
    have k : (f p.1 = f q.1 ∧ f p.2 = f q.2) ∨ (f p.1 = f q.2 ∧ f p.2 = f q.1) := by omega
    rcases k with ⟨k1, k2⟩ | ⟨k1, k2⟩
    · exact Prod.ext (inj _ _ (by omega) (by omega) k1) (inj _ _ (by omega) (by omega) k2)
    · have := inj _ _ (by omega) (by omega) k1
      have := inj _ _ (by omega) (by omega) k2
      omega
  have nR := prs.nodup_iff.mpr nE
  have rlt : ∀ q ∈ rs, q.1 < q.2 ∧ q.1 ∈ liv ++ fs ∧ q.2 ∈ liv ++ fs := fun q hq => by
    obtain ⟨a, b, c⟩ := elt q (prs.mem_iff.mp hq)
    exact ⟨a, pm.mem_iff.mpr b, pm.mem_iff.mpr c⟩
  have mn : ∀ u v, v ∈ nbR rs u ↔ v ∈ nbR (es.map (edN f)) u := fun u v => by rw [mem_nbR, mem_nbR, prs.mem_iff, prs.mem_iff]
  have rn2 : Rp (Dn D g h) (liv ++ fs) (nbR rs) := rn.alike (fun x => pm.mem_iff) (fun u _ => nbR_nd nR fun q hq => (rlt q hq).1) fun u _ v => mn u v
  refine ⟨Dn D g h, ⟨tn, fun u hu => ?_, rn2, nLF, (List.nodup_append.mp nLF).1, fun x hx => List.mem_append.mpr (.inl hx), fun x hx n => ?_, e0⟩, nLF, fun q => ?_⟩
  · obtain ⟨x, hx, rfl⟩ := List.mem_map.mp (pm.mem_iff.mp hu)
    obtain ⟨a, b⟩ := mem_upto.mp hx
    exact hf x a b
  · have hx2 := (List.mem_append.mp hx).resolve_left n
    obtain ⟨u, hu, e⟩ := List.mem_map.mp (pm.mem_iff.mp hx)
    obtain ⟨a, b⟩ := mem_upto.mp hu
    have l := red x hx2 u a b e.symm
    have p : (nbR rs x).Perm ((nbR es u).map f) := by
      rw [← nbR_named ⟨a, b⟩ inj t.lt, e]
      exact nd_perm (nbR_nd nR fun q hq => (rlt q hq).1) (nbR_nd nE fun q hq => (elt q hq).1) (mn x)
    rw [p.length_eq, List.length_map]
    exact l
  · constructor
    · intro hq
      obtain ⟨a, b, c⟩ := rlt q hq
      exact ⟨b, mem_nbR.mpr (.inl hq), a⟩
    · rintro ⟨a, b, c⟩
      rcases mem_nbR.mp b with h | h
      · exact h
      · have : q.2 < q.1 := (rlt _ h).1
        omega
end

def sp_tlives (K : PySem.W.Frag) (C : Addr) : Sp := fun vs H Q _ => ∃ (t : Addr) (ps : List Addr) (ever : Int) (liv ks : List Int) (nb : Int → List Int) (v : V) (d : PyData), vs = [.ref t, v] ∧ TiesAt C H t ps ever liv ks nb ∧ Any K H v d ∧ Q (.bl (inL liv d)) H
theorem sc_Ties_lives : FnScope ["self", "thing"] ["self", "thing"] (defScope s_Ties_lives) :=
  ⟨rfl, rfl, rfl, by decide +kernel, rfl, by decide +kernel, by decide +kernel⟩
theorem ok_Ties_lives {P : Program} {w : World} {K : PySem.W.Frag} {mg : Str → Option Value} {base : Heap} (T : Txt K mg) :
    FnG P w K mg base 2 T.a_Ties_lives T.d_Ties_lives ["self", "thing"] (sp_tlives K T.c_Ties) := by
  refine okD T.F_Ties_lives sc_Ties_lives (fun vs H Q E h => ?_) (fun cdv A outer s H vs Q E hr h => ?_)
  · first
      | (obtain ⟨_, rfl, _⟩ := h; rfl)
      | (obtain ⟨_, _, rfl, _⟩ := h; rfl)
      | (obtain ⟨_, _, _, rfl, _⟩ := h; rfl)
      | (obtain ⟨_, _, _, _, rfl, _⟩ := h; rfl)
      | (obtain ⟨_, _, _, _, _, rfl, _⟩ := h; rfl)
      | (obtain ⟨_, _, _, _, _, _, rfl, _⟩ := h; rfl)
      | (obtain ⟨_, _, _, _, _, _, _, rfl, _⟩ := h; rfl)
      | (obtain ⟨_, _, _, _, _, _, _, _, rfl, _⟩ := h; rfl)
      | (obtain ⟨_, _, _, _, _, _, _, _, _, rfl, _⟩ := h; rfl)
      | (obtain ⟨_, _, _, _, _, _, _, _, _, _, rfl, _⟩ := h; rfl)
      | (obtain ⟨_, _, _, _, _, _, _, _, _, _, _, rfl, _⟩ := h; rfl)
      | (obtain ⟨_, _, _, _, _, _, _, _, _, _, _, _, rfl, _⟩ := h; rfl)
      | (obtain ⟨_, _, _, _, _, _, _, _, _, _, _, _, _, rfl, _⟩ := h; rfl)
      | (obtain ⟨_, _, _, _, _, _, _, _, _, _, _, _, _, _, rfl, _⟩ := h; rfl)
      | (obtain ⟨_, _, _, _, _, _, _, _, _, _, _, _, _, _, _, rfl, _⟩ := h; rfl)
      | (obtain ⟨_, _, _, _, _, _, _, _, _, _, _, _, _, _, _, _, rfl, _⟩ := h; rfl)
      | (obtain ⟨_, _, _, _, _, _, _, _, _, _, _, _, _, _, _, _, _, rfl, _⟩ := h; rfl)
      | (obtain ⟨_, _, _, _, _, _, _, _, _, _, _, _, _, _, _, _, _, _, rfl, _⟩ := h; rfl)
      | (obtain ⟨_, _, _, _, _, _, _, _, _, _, _, _, _, _, _, _, _, _, _, rfl, _⟩ := h; rfl)
  · obtain ⟨t, ps, ever, liv, ks, nb, v, d, rfl, ⟨lv, nd, dx, rep, x, rfl, rfl⟩, hd, k⟩ := h
    obtain ⟨ht, hl, hn, hra, ad, nk⟩ := x
    have cl_Ties := T.cl_Ties
    have na_Ties_near := T.na_Ties_near
    have na_Ties_own_ever := T.na_Ties_own_ever
    have na_Ties_own_living := T.na_Ties_own_living
    refine ⟨_, (pss_one (ps_ret (pe_and (d1 (ok_is_count T) (hr.mono (by decide)) (by rfl) T.m_is_count T.F_is_count.kp T.b_is_count passL (pa_cons (pv 1) pa_nil)) (pe_one (pe_cmpR (k_in (K := K) rfl) (pv 1) (k_fld (K := K) rfl (pv 0) rfl) (rfl)))))), ?_⟩
    dsimp only [cxOf, st_1, st_2, st_3, st_4, st_5, st_6, List.length_cons, List.length_nil, List.replicate_succ, List.replicate_zero, Nat.reduceAdd, Nat.reduceSub]
    walk_at "gs"
    refine ⟨v, d, rfl, hd, ?_⟩
    walk_at "gs"
    refine i_bool2 (fun c => ?_) (fun c => ?_)
    · obtain ⟨n, rfl, h0⟩ := cnt_int c
      obtain rfl := hd.2 n rfl
      have hl1 : SqL K H lv (liv.map V.int) := SqL.of hl
      walk_at "gs"
      have e : inL liv (.int n) = decide (n ∈ liv) := by
        show decide (0 ≤ n ∧ n ∈ liv) = _
        by_cases c : n ∈ liv <;> simp [c, h0]
      rw [e] at k
      exact k
    · rw [inL_no c] at k
      exact k
theorem lives_int {K : PySem.W.Frag} {C : Addr} {t : Addr} {ps : List Addr} {ever n : Int} {liv ks : List Int} {nb : Int → List Int} {H : Hp} {Q : VK} {E : XK} (x : TiesAt C H t ps ever liv ks nb) (h0 : 0 ≤ n) (h : Q (.bl (decide (n ∈ liv))) H) :
    sp_tlives K C [.ref t, .int n] H Q E := ⟨t, ps, ever, liv, ks, nb, .int n, .int n, rfl, x, .int n, by
  have e : inL liv (.int n) = decide (n ∈ liv) := by
    show decide (0 ≤ n ∧ n ∈ liv) = _
    by_cases c : n ∈ liv <;> simp [c, h0]
  rw [e]
  exact h⟩

/-! ### zip over lists and tuples, whose pairs are held by a name -/
section
open PySem.Calls PyProof.Rows PySem.Spec PyProof PySem.W
def ItA (k : Bool) (h : Heap) (it a : Addr) (i : Nat) : Prop := match k with
  | true => h.IsTupleIter it a i
  | false => h.IsListIter it a i
def SeA (k : Bool) (h : Heap) (a : Addr) (xs : Array Value) : Prop := match k with
  | true => h.IsTuple a xs
  | false => h.IsList a xs
theorem ItA.at {k : Bool} {h g : Heap} {it a : Addr} {i : Nat} (q : ItA k h it a i) (e : ∀ o, h.get? it = some o → g.get? it = some o) : ItA k g it a i := by
  cases k with
  | true => exact Heap.IsTupleIter.at q e
  | false => exact Heap.IsListIter.at q e
theorem ItA.obj {k : Bool} {h : Heap} {it a : Addr} {i : Nat} (q : ItA k h it a i) : ∃ o, h.get? it = some o ∧ ∀ v, o.data ≠ .cell v := by
  cases k with
  | true =>
    obtain ⟨o, e, _, d⟩ := q
    exact ⟨o, e, fun v e => by rw [d] at e; cases e⟩
  | false =>
    obtain ⟨o, e, _, d⟩ := q
    exact ⟨o, e, fun v e => by rw [d] at e; cases e⟩
theorem drawsA {prog : Program} {w : World} {A : Around} (k : Bool) (hh : A.handled = none) (it a : Addr) (hne : a ≠ it) (items : Array Value) :
    Draws prog w A it [it, a] items.size (fun i v => items[i]? = some v) (fun i h => ItA k h it a i ∧ SeA k h a items) := by
  cases k with
  | true => exact Draws.tuple hh it a hne items
  | false => exact Draws.list hh it a hne items
section
variable {prog : Program} {w : World} {A : Around} {E : Value → Shared → Prop} {s : Shared} {z TI TO T i1 i2 : Addr} {f : Bool} {oT : Obj} {fp1 fp2 : List Addr} {n1 n2 i : Nat} {P1 P2 : Nat → Value → Prop} {St1 St2 : Nat → Heap → Prop}
theorem zdh_item {Q : Value → Shared → Prop} (S : ZipSep2 z TI TO i1 i2 fp1 fp2) (D1 : Draws prog w A i1 fp1 n1 P1 St1) (D2 : Draws prog w A i2 fp2 n2 P2 St2)
    (hz : IsZipHeld s.heap z TI TO T f) (hT : s.heap.get? T = some oT) (hTI : IsTupOf2 s.heap TI (.ref i1) (.ref i2)) (st1 : St1 i s.heap) (st2 : St2 i s.heap) (hlt1 : i < n1) (hlt2 : i < n2)
    (hQ : ∀ x1 x2 h' tk, P1 i x1 → P2 i x2 → IsZipHeld h' z TI TO T true → St1 (i + 1) h' → St2 (i + 1) h' → IsTupOf2 h' s.heap.objs.size x1 x2 → h'.objs.size = s.heap.objs.size + 1 →
      (∀ c o, c ≠ z → c ≠ i1 → c ≠ i2 → s.heap.get? c = some o → h'.get? c = some o) → Q (.ref s.heap.objs.size) { s with heap := h', toks := tk }) :
    wpAny (model prog w) A (Builtin.«zip.__next__» ⟨[.ref z], []⟩) (fun fin s' => ∃ v, fin = .done (.ret v) ∧ Q v s') E s := by
  obtain ⟨hp, g, d, tk0, os⟩ := s
  show wpAny _ _ (field (.ref z) 2 >>= _) _ _ _
  refine wpAny_bind (wpAny_field hz rfl (x := .bool false) rfl ?_)
  show wpAny _ _ (field (.ref z) 3 >>= _) _ _ _
  refine wpAny_bind (wpAny_field hz rfl (x := .ref TI) rfl ?_)
  refine wpAny_bind (wpAny_seqItems hTI rfl ?_)
  show wpAny _ _ (Builtin.SmallTypes.ownedTupleIsFree (.ref z) >>= _) _ _ _
  refine wpAny_bind (wpAny_tupleHeld_zip hz hT fun h₁ hz₁ hs₁ => ?_)
  replace hs₁ : Heap.SameBut z hp h₁ := hs₁
  simp only [Bool.false_eq_true, if_false]
  refine wpAny_bind ?_
  rw [← Array.forIn_toList]
  simp only [List.forIn_cons, List.forIn_nil]
  refine wpAny_bind (wpAny_bind (wpAny_holding ?_))
  show wpAny _ _ (Builtin.SmallTypes.nextOf (.ref i1) >>= _) _ _ ⟨h₁, g, d, tk0, os⟩
  refine wpAny_bind (D1.item i _ _ _ hlt1 (D1.over st1 hs₁ S.zf1) fun x1 h₂ tk1 hx1 sn1 hs₂ => wpAny_pure ?_)
  replace hs₂ : Heap.SameBut i1 h₁ h₂ := hs₂
  refine wpAny_pure ?_
  refine wpAny_bind (wpAny_bind (wpAny_holding ?_))
  show wpAny _ _ (Builtin.SmallTypes.nextOf (.ref i2) >>= _) _ _ ⟨h₂, g, d, tk1, os⟩
  refine wpAny_bind (D2.item i _ _ _ hlt2 (D2.over (D2.over st2 hs₁ S.zf2) hs₂ S.sep1_2) fun x2 h₃ tk2 hx2 sn2 hs₃ => wpAny_pure ?_)
  replace hs₃ : Heap.SameBut i2 h₂ h₃ := hs₃
  refine wpAny_pure (wpAny_pure ?_)
  show wpAny _ _ (newTuple [x1, x2] >>= _) _ _ ⟨h₃, g, d, tk2, os⟩
  refine wpAny_bind (wpAny_newTuple ?_)
  have hsz : h₃.objs.size = hp.objs.size := by rw [hs₃.1, hs₂.1, hs₁.1]
  have hz₃ : IsZipHeld h₃ z TI TO T true := hs₃.extBut _ _ S.zi2 (hs₂.extBut _ _ S.zi1 hz₁)
  have hk : ∀ c o, c ≠ z → c ≠ i1 → c ≠ i2 → hp.get? c = some o → h₃.get? c = some o := fun c o c1 c2 c3 e => hs₃.extBut _ _ c3 (hs₂.extBut _ _ c2 (hs₁.extBut _ _ c1 e))
  have sn1' : St1 (i + 1) h₃ := D1.over sn1 hs₃ S.sep2_1
  refine wpAny_pure ⟨_, rfl, ?_⟩
  show Q (.ref h₃.objs.size) ⟨h₃.push { cls := .type "tuple", data := .seq #[x1, x2] }, g, d, tk2, os⟩
  have hq : IsTupOf2 (h₃.push { cls := .type "tuple", data := .seq #[x1, x2] }) h₃.objs.size x1 x2 := Heap.get?_push_size _ rfl
  have hz4 : (h₃.push { cls := .type "tuple", data := .seq #[x1, x2] }).objs.size = h₃.objs.size + 1 := Heap.size_push ..
  rw [hsz] at hq hz4 ⊢
  exact hQ x1 x2 _ tk2 hx1 hx2 (Heap.get?_push_of_some _ hz₃) (D1.frame _ _ _ sn1' fun b _ o e => Heap.get?_push_of_some _ e) (D2.frame _ _ _ sn2 fun b _ o e => Heap.get?_push_of_some _ e) hq hz4 fun c o c1 c2 c3 e => Heap.get?_push_of_some _ (hk c o c1 c2 c3 e)
theorem zdh_end {Q : Fin → Shared → Prop} (S : ZipSep2 z TI TO i1 i2 fp1 fp2) (D1 : Draws prog w A i1 fp1 n1 P1 St1) (D2 : Draws prog w A i2 fp2 n2 P2 St2)
    (hz : IsZipHeld s.heap z TI TO T f) (hT : s.heap.get? T = some oT) (hTI : IsTupOf2 s.heap TI (.ref i1) (.ref i2)) (st1 : St1 i s.heap) (st2 : St2 i s.heap) (hle1 : i ≤ n1) (hle2 : i ≤ n2) (hend : i = n1 ∨ i = n2)
    (hE : ∀ h' tk e, (∀ c o, c ≠ z → c ≠ i1 → c ≠ i2 → s.heap.get? c = some o → h'.get? c = some o) → (∃ o, h'.get? e = some o ∧ o.cls = .type "StopIteration") → E (.ref e) { s with heap := h', toks := tk }) :
    wpAny (model prog w) A (Builtin.«zip.__next__» ⟨[.ref z], []⟩) Q E s := by
  obtain ⟨hp, g, d, tk0, os⟩ := s
  show wpAny _ _ (field (.ref z) 2 >>= _) _ _ _
  refine wpAny_bind (wpAny_field hz rfl (x := .bool false) rfl ?_)
  show wpAny _ _ (field (.ref z) 3 >>= _) _ _ _
  refine wpAny_bind (wpAny_field hz rfl (x := .ref TI) rfl ?_)
  refine wpAny_bind (wpAny_seqItems hTI rfl ?_)
  show wpAny _ _ (Builtin.SmallTypes.ownedTupleIsFree (.ref z) >>= _) _ _ _
  refine wpAny_bind (wpAny_tupleHeld_zip hz hT fun h₁ hz₁ hs₁ => ?_)
  replace hs₁ : Heap.SameBut z hp h₁ := hs₁
  simp only [Bool.false_eq_true, if_false]
  refine wpAny_bind ?_
  rw [← Array.forIn_toList]
  simp only [List.forIn_cons, List.forIn_nil]
  refine wpAny_bind (wpAny_bind (wpAny_holding ?_))
  show wpAny _ _ (Builtin.SmallTypes.nextOf (.ref i1) >>= _) _ _ ⟨h₁, g, d, tk0, os⟩
  by_cases hlt1 : i < n1
  · have hi2 : i = n2 := by omega
    refine wpAny_bind (D1.item i _ _ _ hlt1 (D1.over st1 hs₁ S.zf1) fun x1 h₂ tk1 hx1 sn1 hs₂ => wpAny_pure ?_)
    replace hs₂ : Heap.SameBut i1 h₁ h₂ := hs₂
    refine wpAny_pure ?_
    refine wpAny_bind (wpAny_bind (wpAny_holding ?_))
    show wpAny _ _ (Builtin.SmallTypes.nextOf (.ref i2) >>= _) _ _ ⟨h₂, g, d, tk1, os⟩
    refine wpAny_bind (D2.done ⟨h₂, g, d, tk1, os⟩ _ _ (by rw [← hi2]; exact D2.over (D2.over st2 hs₁ S.zf2) hs₂ S.sep1_2) fun q e hq he => ?_)
    exact hE q tk1 e (fun c o c1 c2 c3 x => hq _ _ c3 (hs₂.extBut _ _ c2 (hs₁.extBut _ _ c1 x))) he
  · have hi1 : i = n1 := by omega
    refine wpAny_bind (D1.done ⟨h₁, g, d, tk0, os⟩ _ _ (by rw [← hi1]; exact D1.over st1 hs₁ S.zf1) fun q e hq he => ?_)
    exact hE q tk0 e (fun c o c1 c2 _ x => hq _ _ c2 (hs₁.extBut _ _ c1 x)) he
theorem zdh_next_item {Q : Option Value → Shared → Prop} (S : ZipSep2 z TI TO i1 i2 fp1 fp2) (D1 : Draws prog w A.in1 i1 fp1 n1 P1 St1) (D2 : Draws prog w A.in1 i2 fp2 n2 P2 St2)
    (hz : IsZipHeld s.heap z TI TO T f) (hT : s.heap.get? T = some oT) (hTI : IsTupOf2 s.heap TI (.ref i1) (.ref i2)) (st1 : St1 i s.heap) (st2 : St2 i s.heap) (hlt1 : i < n1) (hlt2 : i < n2)
    (hQ : ∀ x1 x2 h' tk, P1 i x1 → P2 i x2 → IsZipHeld h' z TI TO T true → St1 (i + 1) h' → St2 (i + 1) h' → IsTupOf2 h' s.heap.objs.size x1 x2 → h'.objs.size = s.heap.objs.size + 1 →
      (∀ c o, c ≠ z → c ≠ i1 → c ≠ i2 → s.heap.get? c = some o → h'.get? c = some o) → Q (some (.ref s.heap.objs.size)) { s with heap := h', toks := tk }) :
    wpAny (model prog w) A (pyNext (.ref z)) Q E s := by
  have hTy : s.TypeIs (.ref z) "zip" := ⟨_, hz, rfl⟩
  unfold pyNext
  exact wpAny_bind (wpAny_attempt (wpAny_callSpecial?_slot (name := Str.ofString "__next__") hTy F.slot_zip_next
    (wpAny_call_entry F.slot_zip_next hTy F.entry_zip_next
      (zdh_item S D1 D2 hz hT hTI st1 st2 hlt1 hlt2 fun x1 x2 h' tk y1 y2 b1 d1 d2 b5 b6 b7 => wpAny_pure (hQ x1 x2 h' tk y1 y2 b1 d1 d2 b5 b6 b7)) (F.args_zip_next_1 _))))
theorem zdh_next_end {Q : Option Value → Shared → Prop} (S : ZipSep2 z TI TO i1 i2 fp1 fp2) (D1 : Draws prog w A.in1 i1 fp1 n1 P1 St1) (D2 : Draws prog w A.in1 i2 fp2 n2 P2 St2)
    (hz : IsZipHeld s.heap z TI TO T f) (hT : s.heap.get? T = some oT) (hTI : IsTupOf2 s.heap TI (.ref i1) (.ref i2)) (st1 : St1 i s.heap) (st2 : St2 i s.heap) (hle1 : i ≤ n1) (hle2 : i ≤ n2) (hend : i = n1 ∨ i = n2)
    (hQ : ∀ h' tk, (∀ c o, c ≠ z → c ≠ i1 → c ≠ i2 → s.heap.get? c = some o → h'.get? c = some o) → Q none { s with heap := h', toks := tk }) : wpAny (model prog w) A (pyNext (.ref z)) Q E s := by
  have hTy : s.TypeIs (.ref z) "zip" := ⟨_, hz, rfl⟩
  unfold pyNext
  refine wpAny_bind (wpAny_attempt (wpAny_callSpecial?_slot (name := Str.ofString "__next__") hTy F.slot_zip_next
    (wpAny_call_entry F.slot_zip_next hTy F.entry_zip_next (zdh_end S D1 D2 hz hT hTI st1 st2 hle1 hle2 hend fun h' tk e hk he => ?_) (F.args_zip_next_1 _))))
  obtain ⟨o, ho, hc⟩ := he
  refine wpAny_bind (wpAny_isInstance (T := "StopIteration") (b := true) ⟨o, ho, hc⟩ isSubtype_stop ?_)
  exact wpAny_pure (hQ _ _ hk)
end
end
section
open PySem.Calls PyProof.Rows PySem.Spec PyProof PySem.W
variable {z TI TO i1 i2 a b : Addr} {k1 k2 : Bool}
/-- a zip behind i pairs, the first of which it holds -/
def ZSA (k1 k2 : Bool) (h : Heap) (z TI TO i1 i2 a b : Addr) (i : Nat) (Tm : Option Addr) : Prop := IsPair h TI (.ref i1) (.ref i2) ∧ (∃ u v, IsPair h TO u v) ∧ ItA k1 h i1 a i ∧ ItA k2 h i2 b i ∧
  ((Tm = none ∧ IsZip h z TI TO .none) ∨ ∃ T f, Tm = some T ∧ IsZipHeld h z TI TO T f ∧ T ≠ z ∧ T ≠ i1 ∧ T ≠ i2)
abbrev zfpA (z TI TO i1 i2 : Addr) : List Addr := [z, TI, TO, i1, i2]
theorem ZSA.keep {h g : Heap} {i : Nat} {Tm : Option Addr} (q : ZSA k1 k2 h z TI TO i1 i2 a b i Tm) (k : ∀ c ∈ zfpA z TI TO i1 i2, ∀ o, h.get? c = some o → g.get? c = some o) : ZSA k1 k2 g z TI TO i1 i2 a b i Tm := by
  obtain ⟨q1, ⟨u, v, q2⟩, q3, q4, q5⟩ := q
  refine ⟨k TI (by simp) _ q1, ⟨u, v, k TO (by simp) _ q2⟩, q3.at fun o e => k i1 (by simp) o e, q4.at fun o e => k i2 (by simp) o e, ?_⟩
  rcases q5 with ⟨e, w⟩ | ⟨T, f, e, w, n⟩
  · exact .inl ⟨e, k z (by simp) _ w⟩
  · exact .inr ⟨T, f, e, k z (by simp) _ w, n⟩
theorem ZSA.obj {h : Heap} {i : Nat} {Tm : Option Addr} (q : ZSA k1 k2 h z TI TO i1 i2 a b i Tm) : ∀ c ∈ zfpA z TI TO i1 i2, ∃ o, h.get? c = some o ∧ ∀ v, o.data ≠ .cell v := by
  obtain ⟨q1, ⟨u, v, q2⟩, q3, q4, q5⟩ := q
  intro c hc
  have hz : ∃ o, h.get? z = some o ∧ ∀ v, o.data ≠ .cell v := by
    rcases q5 with ⟨_, w⟩ | ⟨T, f, _, w, _⟩
    · exact ⟨_, w, fun v e => nomatch e⟩
    · exact ⟨_, w, fun v e => nomatch e⟩
  have hc' : c = z ∨ c = TI ∨ c = TO ∨ c = i1 ∨ c = i2 := by simpa using hc
  rcases hc' with rfl | rfl | rfl | rfl | rfl
  · exact hz
  · exact ⟨_, q1, fun v e => nomatch e⟩
  · exact ⟨_, q2, fun v e => nomatch e⟩
  · exact q3.obj
  · exact q4.obj
abbrev oA (k : Bool) (a : Addr) : Obj := match k with
  | true => { cls := .type "tuple_iterator", data := .fields #[.ref a, .int 0 0] }
  | false => { cls := .type "list_iterator", data := .fields #[.ref a, .int 0 0] }
theorem beginsA (k : Bool) (a : Addr) (items : Array Value) : Begins (.ref a) (oA k a) fun h => SeA k h a items := by
  cases k with
  | true => exact begins_tuple a items
  | false => exact begins_list a items
theorem itA_0 {k : Bool} {h : Heap} {it a : Addr} (e : h.get? it = some (oA k a)) : ItA k h it a 0 := by
  cases k with
  | true => exact ⟨_, e, rfl, rfl⟩
  | false => exact ⟨_, e, rfl, rfl⟩
section
variable {prog : Program} {w : World} {A : Around} {E : Value → Shared → Prop} {s : Shared} {xs ys : Array Value} {i : Nat} {Tm : Option Addr}
theorem ZSA.item {x y : Value} {Q : Option Value → Shared → Prop} (hh : A.handled = none) (D : ZipSep2 z TI TO i1 i2 [i1, a] [i2, b]) (n1 : a ≠ i1) (n2 : b ≠ i2) (q : ZSA k1 k2 s.heap z TI TO i1 i2 a b i Tm) (al : ∀ T, Tm = some T → ∃ o, s.heap.get? T = some o) (l1 : SeA k1 s.heap a xs) (l2 : SeA k2 s.heap b ys) (ex : xs[i]? = some x) (ey : ys[i]? = some y)
    (go : ∀ g tk, ZSA k1 k2 g z TI TO i1 i2 a b (i + 1) (some (Tm.getD s.heap.objs.size)) → IsPair g s.heap.objs.size x y → (∀ c o, c ∉ zfpA z TI TO i1 i2 → s.heap.get? c = some o → g.get? c = some o) → Q (some (.ref s.heap.objs.size)) { s with heap := g, toks := tk }) :
    wpAny (model prog w) A (pyNext (.ref z)) Q E s := by
  obtain ⟨q1, ⟨u, v, q2⟩, q3, q4, q5⟩ := q
  have far1 : s.heap.objs.size ≠ i1 := by
    obtain ⟨_, e1, _⟩ := q3.obj
    exact Nat.ne_of_gt (Heap.lt_size e1)
  have far2 : s.heap.objs.size ≠ i2 := by
    obtain ⟨_, e1, _⟩ := q4.obj
    exact Nat.ne_of_gt (Heap.lt_size e1)
  have lt1 := (Array.getElem?_eq_some_iff.mp ex).1
  have lt2 := (Array.getElem?_eq_some_iff.mp ey).1
  have D1 := drawsA (prog := prog) (w := w) (A := A.in1) k1 hh i1 a n1 xs
  have D2 := drawsA (prog := prog) (w := w) (A := A.in1) k2 hh i2 b n2 ys
  rcases q5 with ⟨eT, e⟩ | ⟨T, f, eT, e, t1, t2, t3⟩
  · subst eT
    refine wpAny_pyNext_zipD2_item D D1 D2 e q1 q2 ⟨q3, l1⟩ ⟨q4, l2⟩ lt1 lt2 fun x1 x2 g tk p1 p2 y1 y2 y3 y4 y5 y6 y7 => ?_
    rw [ex] at p1
    rw [ey] at p2
    cases p1
    cases p2
    refine go g tk ⟨y7 _ _ D.TIz D.TITO D.TIi1 D.TIi2 q1, ⟨_, _, y2⟩, y3.1, y4.1, .inr ⟨_, false, rfl, y1, Nat.ne_of_gt (Heap.lt_size e), far1, far2⟩⟩ y5 fun c o hc eo => ?_
    simp only [List.mem_cons, List.not_mem_nil, or_false, not_or] at hc
    exact y7 c o hc.1 hc.2.2.1 hc.2.2.2.1 hc.2.2.2.2 eo
  · subst eT
    obtain ⟨o, ho⟩ := al T rfl
    refine zdh_next_item D D1 D2 e ho q1 ⟨q3, l1⟩ ⟨q4, l2⟩ lt1 lt2 fun x1 x2 g tk p1 p2 y1 y3 y4 y5 y6 y7 => ?_
    rw [ex] at p1
    rw [ey] at p2
    cases p1
    cases p2
    refine go g tk ⟨y7 _ _ D.TIz D.TIi1 D.TIi2 q1, ⟨u, v, y7 _ _ D.TOz D.Ti1 D.Ti2 q2⟩, y3.1, y4.1, .inr ⟨T, true, rfl, y1, t1, t2, t3⟩⟩ y5 fun c o hc eo => ?_
    simp only [List.mem_cons, List.not_mem_nil, or_false, not_or] at hc
    exact y7 c o hc.1 hc.2.2.2.1 hc.2.2.2.2 eo
theorem ZSA.stop {Q : Option Value → Shared → Prop} (hh : A.handled = none) (D : ZipSep2 z TI TO i1 i2 [i1, a] [i2, b]) (n1 : a ≠ i1) (n2 : b ≠ i2) (q : ZSA k1 k2 s.heap z TI TO i1 i2 a b i Tm) (al : ∀ T, Tm = some T → ∃ o, s.heap.get? T = some o) (l1 : SeA k1 s.heap a xs) (l2 : SeA k2 s.heap b ys) (le1 : i ≤ xs.size) (le2 : i ≤ ys.size) (en : i = xs.size ∨ i = ys.size)
    (go : ∀ g tk, (∀ c o, c ∉ zfpA z TI TO i1 i2 → s.heap.get? c = some o → g.get? c = some o) → Q none { s with heap := g, toks := tk }) : wpAny (model prog w) A (pyNext (.ref z)) Q E s := by
  obtain ⟨q1, ⟨u, v, q2⟩, q3, q4, q5⟩ := q
  have D1 := drawsA (prog := prog) (w := w) (A := A.in1) k1 hh i1 a n1 xs
  have D2 := drawsA (prog := prog) (w := w) (A := A.in1) k2 hh i2 b n2 ys
  rcases q5 with ⟨eT, e⟩ | ⟨T, f, eT, e, t1, t2, t3⟩
  · refine wpAny_pyNext_zipD2_end D D1 D2 e q1 q2 ⟨q3, l1⟩ ⟨q4, l2⟩ le1 le2 en fun g tk k => go g tk fun c o hc eo => ?_
    simp only [List.mem_cons, List.not_mem_nil, or_false, not_or] at hc
    exact k c o hc.1 hc.2.2.1 hc.2.2.2.1 hc.2.2.2.2 eo
  · subst eT
    obtain ⟨o, ho⟩ := al T rfl
    refine zdh_next_end D D1 D2 e ho q1 ⟨q3, l1⟩ ⟨q4, l2⟩ le1 le2 en fun g tk k => go g tk fun c o hc eo => ?_
    simp only [List.mem_cons, List.not_mem_nil, or_false, not_or] at hc
    exact k c o hc.1 hc.2.2.2.1 hc.2.2.2.2 eo
theorem ZSA.ty (q : ZSA k1 k2 s.heap z TI TO i1 i2 a b i Tm) : s.TypeIs (.ref z) "zip" := by
  obtain ⟨_, _, _, _, ⟨_, e⟩ | ⟨_, _, _, e, _⟩⟩ := q
  · exact ⟨_, e, rfl⟩
  · exact ⟨_, e, rfl⟩
theorem ZSA.self {Q : Value → Shared → Prop} (q : ZSA k1 k2 s.heap z TI TO i1 i2 a b i none) (h : Q (.ref z) s) : wpAny (model prog w) A (pyIter (.ref z)) Q E s := by
  obtain ⟨_, _, _, _, ⟨_, e⟩ | ⟨_, _, e, _⟩⟩ := q
  · exact wpAny_pyIter_zip e h
  · cases e
end
end
/-- a list, or a tuple -/
def SqA (K : PySem.W.Frag) (k : Bool) (H : Hp) (a : Addr) (xs : List V) : Prop := match k with
  | true => SqT K H a xs
  | false => SqL K H a xs
theorem inv_seqA {X : Cx} {pins : List (Addr × Obj)} {σ : L2.St} {H : Hp} {s : Shared} {k : Bool} {a : Addr} {xs : List V} (I : L2.Inv X pins σ H s) (h : SqA X.K k H a xs) : ∃ its : List Value, L2.Vals xs its ∧ SeA k s.heap a its.toArray ∧ a < s.heap.objs.size ∧ xs.length ≤ sizeLine := by
  cases k with
  | true =>
    obtain ⟨its, r, p, z⟩ := I.tuple h
    obtain ⟨o, e, q⟩ := id p
    exact ⟨its, r, ⟨o, e, q⟩, Heap.lt_size e, z⟩
  | false =>
    obtain ⟨its, r, p, z⟩ := I.list h
    exact ⟨its, r, p.isList, p.lt, z⟩
section
open PySem.Calls PyProof.Rows PySem.Spec PyProof PySem.W L2
variable {X : Cx}
/-- the list of what the block tells of each pair -/
def tLcNA (K : PySem.W.Frag) (ta : TA) (g : TG) (te : TE) (vs : List Nat) : TE := fun σ H Q => ta σ H fun ws H1 => ∃ (k1 k2 : Bool) (a b : Addr) (xs ys : List V), ws = [.ref a, .ref b] ∧ SqA K k1 H1 a xs ∧ SqA K k2 H1 b ys ∧ ∀ D, H1 D = none → ∃ W : Nat → Hp → Prop, W 0 (upd H1 D (.lst [])) ∧
  ∀ i H, W i H → SqA K k1 H a xs ∧ SqA K k2 H b ys ∧ (i = min xs.length ys.length → Q (.ref D) H) ∧ ∀ x y, xs[i]? = some x → ys[i]? = some y → ∀ T, H T = none → g (.ref T) (wipe σ vs) (upd H T (.tup [x, y])) fun σ2 H2 => wipe σ2 vs = wipe σ vs ∧
    te σ2 H2 fun v H4 => ∃ acc, H4 D = some (.lst acc) ∧ acc.length < sizeLine ∧ W (i + 1) (upd H4 D (.lst (acc ++ [v]))) ∧ ∀ c zs, upd H T (.tup [x, y]) c = some (.tup zs) → upd H4 D (.lst (acc ++ [v])) c = some (.tup zs)
theorem pe_lcNA {K : PySem.W.Frag} {elt e e2 : Expr} {scope : Scope} {own : List (Str × Nat)} {pos zp zpos tp : Pos} {nm : Str} {ta : TA} {g : TG} {te : TE} (hK : X.K = K) (calm : X.calm = true) (nd : X.N.Nodup) (zg : Gl X "zip") (zm : X.mg "zip" = none) (ha : PA X [e, e2] ta) (ok : BlkOk X.N X.env.scope scope own)
    (hg : ∀ (s : Shared) (H : Hp) (C : Addr) (cl : List (Str × Addr)) (fp : List Addr), PG (X.blk s H scope (compEnvC scope cl C X.env) fp) (.Name nm tp) g) (he : ∀ (s : Shared) (H : Hp) (C : Addr) (cl : List (Str × Addr)) (fp : List Addr), PE (X.blk s H scope (compEnvC scope cl C X.env) fp) elt te)
    (st : starEach [e, e2] X.env = (false, eval e X.env) :: starEach [e2] X.env := by rfl) (pl : (backTo zpos (starEach [e2] X.env)).any (·.1) = false := by rfl)
    (fs : ∀ x, foldedSetIterable (.Call (.Name "zip" zp) [e, e2] [] zpos) X.env x = pure x := by intro _; rfl) :
    PE X (.ListComp elt [⟨.Name nm tp, .Call (.Name "zip" zp) [e, e2] [] zpos, [], 0⟩] scope pos) (tLcNA K ta g te (own.map (·.2))) := by
  subst hK
  refine ⟨fun pins s σ H Q I h => ?_⟩
  rw [eval_ListComp]
  have closed : ∀ y ∈ scope.names, y.2 = .free → ∃ c, X.env.cells.lookup y.1 = some c := fun y hy q => (ok.free y hy q).elim (fun w => I.ok.has _ (.inl w)) fun w => I.ok.has _ (.inr w)
  refine wpAny_comprehension_free (use := none) rfl fs (closure_ok closed) ok.kind (fun y hy q => by rw [ok.uniq y hy, q]) ?_
  -- the zip
  refine Call_ (ld_blt I zg zm PyProof.Rows.boot_zip (PyProof.Rows.callWith_type1 (thn (ha.run zpos pins s σ H _ I h) fun us s1 q0 => ?_) st pl))
  obtain ⟨vs, H1, I1, r1, k1, k2, a, b, xs, ys, ew, sx, sy, body⟩ := q0
  subst ew
  cases r1 with
  | cons ra r1 =>
  cases r1 with
  | cons rb r1 =>
  cases r1
  cases ra
  cases rb
  obtain ⟨its0, _, pa, la, _⟩ := inv_seqA I1 sx
  obtain ⟨its1, _, pb, lb, _⟩ := inv_seqA I1 sy
  obtain ⟨B, eB⟩ : ∃ B, B = s1.heap.objs.size := ⟨_, rfl⟩
  refine zip_begins2 (beginsA k1 a its0.toArray) (beginsA k2 b its1.toArray) pa pb fun h1 y1 y2 y3 y4 y5 y6 y7 => ?_
  have D := zip_sep2 (N := s1.heap.objs.size) (fp1 := [a]) (fp2 := [b]) (fun c hc => by rw [List.mem_singleton.mp hc]; exact la) (fun c hc => by rw [List.mem_singleton.mp hc]; exact lb)
  have na1 : a ≠ s1.heap.objs.size := Nat.ne_of_lt la
  have nb2 : b ≠ s1.heap.objs.size + 1 := Nat.ne_of_lt (Nat.lt_succ_of_lt lb)
  rw [← eB] at y1 y2 y3 y4 y5 D na1 nb2 ⊢
  have I2 : Inv X pins σ H1 { s1 with heap := h1 } := I1.kept (t' := s1.toks) y7
  have z0 : ZSA k1 k2 h1 (B + 4) (B + 2) (B + 3) B (B + 1) a b 0 none := ⟨y2, ⟨_, _, y3⟩, itA_0 y4, itA_0 y5, .inl ⟨rfl, y1⟩⟩
  have lowest : ∀ c ∈ zfpA (B + 4) (B + 2) (B + 3) B (B + 1), s1.heap.objs.size ≤ c := fun c hc => by
    have hc' : c = B + 4 ∨ c = B + 2 ∨ c = B + 3 ∨ c = B ∨ c = B + 1 := by simpa using hc
    rw [← eB]
    rcases hc' with q | q | q | q | q
    · rw [q]
      exact Nat.le_add_right _ _
    · rw [q]
      exact Nat.le_add_right _ _
    · rw [q]
      exact Nat.le_add_right _ _
    · rw [q]
      exact Nat.le_refl _
    · rw [q]
      exact Nat.le_add_right _ _
  have free1 : ∀ c ∈ zfpA (B + 4) (B + 2) (B + 3) B (B + 1), FpOk X pins H1 c := fun c hc => I1.fpOk (lowest c hc) (I1.hok.fresh (lowest c hc))
  refine ZSA.self z0 ?_
  generalize hs2 : ({ s1 with heap := h1 } : Shared) = s2 at I2 ⊢
  have eh : s2.heap = h1 := by rw [← hs2]
  rw [← eh] at z0
  refine wpAny_newObj_type (newEnv_comp ?_) (by show 0 ≤ sizeLine; decide)
  generalize hD : s2.heap.objs.size = L
  have freeL : H1 L = none := I2.hok.fresh (Nat.le_of_eq hD)
  obtain ⟨W, w0, turn⟩ := body L freeL
  have below : ∀ c ∈ zfpA (B + 4) (B + 2) (B + 3) B (B + 1), c < s2.heap.objs.size := fun c hc => by
    obtain ⟨o, q, _⟩ := z0.obj c hc
    exact Heap.lt_size q
  generalize hs3 : ({ s2 with heap := s2.heap.push { cls := .type "list", data := .seq ([] : List Value).toArray } } : Shared) = s3
  have h3 : s3.heap = s2.heap.push { cls := .type "list", data := .seq ([] : List Value).toArray } := by rw [← hs3]
  have I3 : Inv X pins σ (upd H1 L (.lst [])) s3 := by
    rw [← hs3]
    refine I2.laid (t' := s2.toks) (fun c o q => Heap.get?_push_of_some _ q) (Nat.le_of_eq hD) ⟨Nat.zero_le _, [], 0, .nil, ?_⟩
    rw [← hD]
    exact Heap.get?_push_size _ rfl
  have free3 : ∀ c ∈ zfpA (B + 4) (B + 2) (B + 3) B (B + 1), FpOk X pins (upd H1 L (.lst [])) c ∧ c < s3.heap.objs.size := fun c hc => by
    have lt := below c hc
    refine ⟨⟨?_, (free1 c hc).2⟩, by rw [h3, Heap.size_push]; exact Nat.lt_succ_of_lt lt⟩
    have n : c ≠ L := by
      rw [← hD]
      exact Nat.ne_of_lt lt
    rw [upd_ne n]
    exact (free1 c hc).1
  have z3 : ZSA k1 k2 s3.heap (B + 4) (B + 2) (B + 3) B (B + 1) a b 0 none := z0.keep fun c _ o q => by
    rw [h3]
    exact Heap.get?_push_of_some _ q
  have I4 := block_start I3 ok nd free3
  obtain ⟨fp, efp⟩ : ∃ fp, fp = zfpA (B + 4) (B + 2) (B + 3) B (B + 1) := ⟨_, rfl⟩
  rw [← efp] at free1 below free3 I4 lowest
  have gP := hg s3 (upd H1 L (.lst [])) s3.heap.objs.size (cellsFrom (s3.heap.objs.size + 1) scope.names (cloFrom X.env.cells scope.names [])) fp
  have eP := he s3 (upd H1 L (.lst [])) s3.heap.objs.size (cellsFrom (s3.heap.objs.size + 1) scope.names (cloFrom X.env.cells scope.names [])) fp
  have none3 : ∀ c ∈ fp, (upd H1 L (.lst [])) c = none := fun c hc => (free3 c hc).1.1
  show codeAny _ _ (.compStart (.ListComp elt [⟨.Name nm tp, .Call (.Name "zip" zp) [e, e2] [] zpos, [], 0⟩] scope pos) 0 (.ref (B + 4)) (.ref L) (compEnvC scope (cellsFrom (s3.heap.objs.size + 1) scope.names (cloFrom X.env.cells scope.names [])) s3.heap.objs.size X.env))
    (compPost (model X.prog X.w) X.A X.xe none (EP X pins σ Q) (.ref L) s3.heap.objs.size) { s3 with heap := pushCells (s3.heap.push { cls := .type "dict", data := .dict #[] }) scope.names }
  generalize hce : compEnvC scope (cellsFrom (s3.heap.objs.size + 1) scope.names (cloFrom X.env.cells scope.names [])) s3.heap.objs.size X.env = ce at I4 gP eP ⊢
  have eloc : ce.locals = s3.heap.objs.size := by
    subst hce
    rfl
  generalize hH3 : upd H1 L (.lst []) = H3 at I3 I4 gP eP w0 none3 free3
  generalize hs4 : ({ s3 with heap := pushCells (s3.heap.push { cls := .type "dict", data := .dict #[] }) scope.names } : Shared) = s4 at I4 ⊢
  have z4 : ZSA k1 k2 s4.heap (B + 4) (B + 2) (B + 3) B (B + 1) a b 0 none := z3.keep fun c _ o q => by
    rw [← hs4]
    exact pushCells_keeps _ _ _ _ (Heap.get?_push_of_some _ q)
  have inner : ∀ {σ' : L2.St} {H' : Hp} {s' : Shared}, Inv (X.blk s3 H3 scope ce fp) [] σ' H' s' → (∀ c ∈ fp, H' c = none) → ∀ c ∈ fp, FpOk (X.blk s3 H3 scope ce fp) [] H' c := fun {σ' H' s'} J n c hc =>
    ⟨n c hc, (J.ok.exf c hc).1, J.ok.exfs c hc, .inl hc, fun x d q => (J.ok.exf c hc).2 x d q, fun p hp => absurd (show p ∈ ([] : List (Addr × Obj)) ++ [] from hp) (by simp)⟩
  have loop : codeAny (model X.prog X.w) X.A (.compLoop (.ListComp elt [⟨.Name nm tp, .Call (.Name "zip" zp) [e, e2] [] zpos, [], 0⟩] scope pos) 0 (.ref (B + 4)) (.ref L) ce) (compPost (model X.prog X.w) X.A X.xe none (EP X pins σ Q) (.ref L) s3.heap.objs.size) s4 := by
    refine compLoop_any (fun n s' => ∃ i Tm H', n = min xs.length ys.length - i ∧ i ≤ min xs.length ys.length ∧ Inv (X.blk s3 H3 scope ce fp) [] (wipe σ (own.map (·.2))) H' s' ∧ ZSA k1 k2 s'.heap (B + 4) (B + 2) (B + 3) B (B + 1) a b i Tm ∧ (∀ c ∈ fp, H' c = none) ∧ (∀ T, Tm = some T → ∃ zs, H' T = some (.tup zs)) ∧ W i H') ?_ (min xs.length ys.length - 0) ⟨0, none, H3, rfl, Nat.zero_le _, I4, z4, none3, (fun T q => nomatch q), w0⟩
    rintro n s5 ⟨i, Tm, H5, rfl, le5, I5, z5, n5, t5, w5⟩
    obtain ⟨sx5, sy5, stop, step⟩ := turn i H5 w5
    obtain ⟨xv, rx, lx, _⟩ := inv_seqA I5 sx5
    obtain ⟨yv, ry, ly, _⟩ := inv_seqA I5 sy5
    have nx := rx.length
    have ny := ry.length
    have alive : ∀ T, Tm = some T → ∃ o, s5.heap.get? T = some o := fun T q => by
      obtain ⟨zs, e⟩ := t5 T q
      obtain ⟨its, _, ⟨o, ho, _⟩, _⟩ := I5.tuple (.inl (.inl e))
      exact ⟨o, ho⟩
    by_cases lt : i < min xs.length ys.length
    · obtain ⟨x, ex⟩ : ∃ x, xs[i]? = some x := ⟨_, List.getElem?_eq_getElem (by omega)⟩
      obtain ⟨y, ey⟩ : ∃ y, ys[i]? = some y := ⟨_, List.getElem?_eq_getElem (by omega)⟩
      obtain ⟨u, hu, ru⟩ := rx.get ex
      obtain ⟨v, hv, rv⟩ := ry.get ey
      refine ZSA.item (I.ok.hd calm) D na1 nb2 z5 alive lx ly (x := u) (y := v) (by simpa using hu) (by simpa using hv) fun h6 tk6 z6 pr k6 => ?_
      obtain ⟨T, eT⟩ : ∃ T, T = s5.heap.objs.size := ⟨_, rfl⟩
      have fT : H5 s5.heap.objs.size = none := I5.hok.fresh (Nat.le_refl _)
      have fresh : ObjOk X.prog X.w (upd H5 s5.heap.objs.size (.tup [x, y])) h6 s5.heap.objs.size (.tup [x, y]) :=
        ⟨by show 2 ≤ sizeLine; decide, [u, v], .cons ru (.cons rv .nil), ⟨_, pr, rfl, _, rfl⟩⟩
      have k6' : ∀ c o, c ∉ fp → s5.heap.get? c = some o → h6.get? c = some o := fun c o hc => k6 c o (by rw [← efp]; exact hc)
      have I6 : Inv (X.blk s3 H3 scope ce fp) [] (wipe σ (own.map (·.2))) (upd H5 s5.heap.objs.size (.tup [x, y])) { s5 with heap := h6, toks := tk6 } := I5.turnedNew (t' := tk6) (ch := fp) k6' (inner I5 n5) (Nat.le_refl _) fresh
      have n6 : ∀ c ∈ fp, upd H5 s5.heap.objs.size (.tup [x, y]) c = none := fun c hc => by
        obtain ⟨o, q, _⟩ := z5.obj c (by rw [← efp]; exact hc)
        rw [upd_ne (Nat.ne_of_lt (Heap.lt_size q))]
        exact n5 c hc
      rw [← eT] at fT I6 n6 z6 ⊢
      unfold letOwnedTupleGo
      refine wpAny_pure ?_
      have I6' := I6.pinned (inner I6 n6) (by rw [efp]; exact z6.obj)
      refine thnF (gP.run _ _ _ _ (.ref T) (.ref T) _ I6' rfl (step x y ex ey T fT)) fun _ s8 ⟨σ8, H8, I8, hw8, q8⟩ => ?_
      refine wpAny_tests_nil ?_
      rw [if_pos rfl]
      refine thnF (eP.run _ s8 σ8 H8 _ I8 q8) fun t s10 ⟨yv, H10, I10, r10, acc, hD10, hz10, nx, kept⟩ => ?_
      refine app_ok (X := X.blk s3 H3 scope ce fp) I10 hD10 hz10 r10 fun s11 I11 => ?_
      have same : (wipe σ (own.map (·.2))).length = σ8.length := by rw [← hw8, wipe_length]
      have pinned : ∀ c ∈ fp, ∀ o, h6.get? c = some o → s11.heap.get? c = some o ∧ upd H10 L (.lst (acc ++ [yv])) c = none := fun c hc o q =>
        let w := I11.pin (c, o) (List.mem_append_right _ (List.mem_append_right _ (mem_pinsAt hc q)))
        ⟨w.1, w.2.1⟩
      refine ⟨min xs.length ys.length - (i + 1), by omega, i + 1, some (Tm.getD T), _, rfl, by omega, (I11.unpinned (pins := [])).weak same (fun j v q => ?_), z6.keep fun c hc o q => (pinned c (by rw [efp]; exact hc) o q).1, fun c hc => ?_, fun T' q => ?_, nx⟩
      · rw [← hw8] at q
        exact (wipe_some q).1
      · obtain ⟨o, q, _⟩ := z6.obj c (by rw [← efp]; exact hc)
        exact (pinned c hc o q).2
      · have eT' : Tm.getD T = T' := Option.some.inj q
        cases Tm with
        | none =>
          have e1 : T = T' := eT'
          rw [← e1]
          exact ⟨_, kept T _ upd_same⟩
        | some T0 =>
          have e1 : T0 = T' := eT'
          obtain ⟨zs, e2⟩ := t5 T0 rfl
          have ne : T0 ≠ T := fun q => by
            rw [q, fT] at e2
            cases e2
          rw [← e1]
          exact ⟨zs, kept T0 zs (by rw [upd_ne ne]; exact e2)⟩
    · have ends : i = xv.toArray.size ∨ i = yv.toArray.size := by
        simp only [List.size_toArray]
        omega
      have Q5 := stop (by omega)
      refine ZSA.stop (I.ok.hd calm) D na1 nb2 z5 alive lx ly (by simp only [List.size_toArray]; omega) (by simp only [List.size_toArray]; omega) ends fun h6 tk6 k6 => ?_
      have k6' : ∀ c o, c ∉ fp → s5.heap.get? c = some o → h6.get? c = some o := fun c o hc => k6 c o (by rw [← efp]; exact hc)
      have I6 := I5.turnedL (t' := tk6) (ch := fp) k6' (inner I5 n5)
      have I7 := I3.call' (ch := fp) I6.os I6.base I6.hok I6.bare fun c hc => ⟨(free3 c hc).1.2.2.2.1, (free3 c hc).1.2.1, (free3 c hc).1.2.2.2.2.1, (free3 c hc).1.2.2.2.2.2⟩
      have noL : H5 s3.heap.objs.size = none := by
        have q : H5 ce.locals = none := I6.free
        rw [eloc] at q
        exact q
      obtain ⟨m, hm, _⟩ := I6.loc
      have hm2 : h6.Ns ce.locals m := hm
      rw [eloc] at hm2
      obtain ⟨f0, f1, f2, f3, f4, f5⟩ := I3.fpOk (Nat.le_refl _) noL
      exact ⟨m, hm2, fun h8 sb => ⟨.ref L, H5, I7.turned (t' := tk6) (fun c o hc q => (sb.2 c hc).trans q) f0 f1 f3 f4 f5, rfl, Q5⟩⟩
  exact codeAny_compStart_list loop (ZSA.self z4 loop)
end
section
variable {K : PySem.W.Frag} {σ : L2.St} {H : Hp} {Q : VK} {g : TG} {te : TE} {ta : TA} {vn : List Nat} {a b : Addr} {xs ys : List V}
def LcNA (K : PySem.W.Frag) (ws : List V) (g : TG) (te : TE) (vs : List Nat) (σ : L2.St) (H1 : Hp) (Q : VK) : Prop := ∃ (k1 k2 : Bool) (a b : Addr) (xs ys : List V), ws = [.ref a, .ref b] ∧ SqA K k1 H1 a xs ∧ SqA K k2 H1 b ys ∧ ∀ D, H1 D = none → ∃ W : Nat → Hp → Prop, W 0 (upd H1 D (.lst [])) ∧
  ∀ i H, W i H → SqA K k1 H a xs ∧ SqA K k2 H b ys ∧ (i = min xs.length ys.length → Q (.ref D) H) ∧ ∀ x y, xs[i]? = some x → ys[i]? = some y → ∀ T, H T = none → g (.ref T) (wipe σ vs) (upd H T (.tup [x, y])) fun σ2 H2 => wipe σ2 vs = wipe σ vs ∧
    te σ2 H2 fun v H4 => ∃ acc, H4 D = some (.lst acc) ∧ acc.length < sizeLine ∧ W (i + 1) (upd H4 D (.lst (acc ++ [v]))) ∧ ∀ c zs, upd H T (.tup [x, y]) c = some (.tup zs) → upd H4 D (.lst (acc ++ [v])) c = some (.tup zs)
theorem i_lcNA (h : ta σ H fun ws H1 => LcNA K ws g te vn σ H1 Q) : tLcNA K ta g te vn σ H Q := h
theorem i_eltsNA {k1 k2 : Bool} (hx : SqA K k1 H a xs) (hy : SqA K k2 H b ys) (Pv : Addr → Nat → Hp → Prop)
    (h0 : ∀ D, Fr H D → Pv D 0 (upd H D (.lst [])))
    (hl : ∀ D i H', Fr H D → Pv D i H' → SqA K k1 H' a xs ∧ SqA K k2 H' b ys)
    (st : ∀ D i x y T H', Fr H D → xs[i]? = some x → ys[i]? = some y → Pv D i H' → Fr H' T → g (.ref T) (wipe σ vn) (upd H' T (.tup [x, y])) fun σ2 H2 => wipe σ2 vn = wipe σ vn ∧
      te σ2 H2 fun v H4 => ∃ acc, H4 D = some (.lst acc) ∧ acc.length < sizeLine ∧ Pv D (i + 1) (upd H4 D (.lst (acc ++ [v]))) ∧ ∀ c zs, upd H' T (.tup [x, y]) c = some (.tup zs) → upd H4 D (.lst (acc ++ [v])) c = some (.tup zs))
    (hd : ∀ D H', Fr H D → Pv D (min xs.length ys.length) H' → Q (.ref D) H') : LcNA K [.ref a, .ref b] g te vn σ H Q := by
  refine ⟨k1, k2, a, b, xs, ys, rfl, hx, hy, fun D fD => ⟨fun i H' => Pv D i H', h0 D ⟨fD⟩, ?_⟩⟩
  intro i H' p
  obtain ⟨s1, s2⟩ := hl D i H' ⟨fD⟩ p
  refine ⟨s1, s2, fun ge => hd D H' ⟨fD⟩ (by rw [← ge]; exact p), fun x y ex ey T fT => ?_⟩
  exact st D i x y T H' ⟨fD⟩ ex ey p ⟨fT⟩
end
theorem SqA.kp {K : PySem.W.Frag} {k : Bool} {H H' : Hp} {a : Addr} {xs : List V} {ws : List Addr} (h : SqA K k H a xs) (kk : Kp ws H H') (n : a ∉ ws) : SqA K k H' a xs := by
  cases k with
  | true => exact kk.seqT h
  | false => exact kk.seqL n h
section
open PyProof PyProof.Rows PySem.Calls PySem.Spec PySem.W
section
variable {z : Addr} {prog : Program} {w : World} {A : Around} {E : Value → Shared → Prop} {s : Shared}
theorem zip_no_len : typeLookup (.type "zip") "__len__" = pure none := by rw [typeLookup_type, builtinLookup_eq_fast]; kernel_rfl
theorem zip_no_hint : typeLookup (.type "zip") "__length_hint__" = pure none := by rw [typeLookup_type, builtinLookup_eq_fast]; kernel_rfl
theorem zip_room {Q : Bool → Shared → Prop} (ty : s.TypeIs (.ref z) "zip") (h : Q true s) : wpAny (model prog w) A (Builtin.List.listLengthHint (.ref z)) Q E s := by
  unfold Builtin.List.listLengthHint
  refine wpAny_bind (wpAny_specialOf ty zip_no_len ?_)
  show wpAny _ _ (specialOf (Value.ref z) "__length_hint__" >>= _) _ _ _
  refine wpAny_bind (wpAny_specialOf ty zip_no_hint ?_)
  exact wpAny_pure h
end
end
section
open PyProof PyProof.Rows PySem.Calls PySem.Spec PySem.W
/-- what list(zip(..)) has laid from the turn i on -/
structure ZdA (H H' : Hp) (S : Addr) (xs ys : List V) (i : Nat) (ps : List Addr) : Prop where
  len : ps.length = min xs.length ys.length - i
  at' : ∀ j p, ps[j]? = some p → ∃ x y, xs[i + j]? = some x ∧ ys[i + j]? = some y ∧ H' p = some (.tup [x, y]) ∧ H p = none
  kept : ∀ c v, c ≠ S → H c = some v → H' c = some v
theorem zip_loopA {X : Cx} {pins : List (Addr × Obj)} {σ : L2.St} {A : Around} {R : Result → Shared → Prop} {z TI TO i1 i2 a b S : Addr} {k1 k2 : Bool} {xs ys : List V} {res : Value} (hh : A.handled = none) (D : ZipSep2 z TI TO i1 i2 [i1, a] [i2, b]) (na1 : a ≠ i1) (nb2 : b ≠ i2)
    (hS : S ∉ [z, TI, TO, i1, i2]) (aS : a ≠ S) (bS : b ≠ S) : ∀ (k i : Nat) (s : Shared) (H : Hp) (acc : List V), min xs.length ys.length - i = k → i ≤ min xs.length ys.length → Inv X pins σ H s → SqA X.K k1 H a xs → SqA X.K k2 H b ys →
    (∃ Tm, ZSA k1 k2 s.heap z TI TO i1 i2 a b i Tm ∧ ∀ T, Tm = some T → ∃ o, s.heap.get? T = some o) → H S = some (.lst acc) → acc.length = i → (∀ c ∈ [z, TI, TO, i1, i2], FpOk X pins H c ∧ c < s.heap.objs.size) →
    (∀ H' s' ps, Inv X pins σ H' s' → H' S = some (.lst (acc ++ ps.map V.ref)) → ZdA H H' S xs ys i ps → R (.ok (.ret res)) s') →
    codeAny (model X.prog X.w) A (.builtin "list.extend.loop" ⟨[.ref S, .ref z, res], []⟩) R s := by
  have s5 : S ≠ z ∧ S ≠ TI ∧ S ≠ TO ∧ S ≠ i1 ∧ S ≠ i2 := by simpa using hS
  intro k
  induction k with
  | zero =>
    intro i s H acc ek hi I ha hb ⟨Tm, q, al⟩ hl el fp go
    obtain ⟨ia, ra, la, _, za⟩ := inv_seqA I ha
    obtain ⟨ib, rb, lb, _, zb⟩ := inv_seqA I hb
    have na := ra.length
    have nb := rb.length
    refine codeAny_builtin F.entry_extend_loop ?_; rw [Around.under_plainId F.plain_extend_loop _]; show wpAny _ A.in1 (pyNext (.ref z) >>= _) _ _ s
    have en : i = ia.toArray.size ∨ i = ib.toArray.size := by
      simp only [List.size_toArray]
      omega
    refine wpAny_bind (q.stop (A := A.in1) hh D na1 nb2 al la lb (by simp only [List.size_toArray]; omega) (by simp only [List.size_toArray]; omega) en fun g tk kg => wpAny_pure ?_)
    refine go H _ [] (I.turnedL (t' := tk) kg fun c hc => (fp c hc).1) (by rw [List.map_nil, List.append_nil]; exact hl) ⟨by simp; omega, fun j p e => by simp at e, fun c v _ e => e⟩
  | succ k ih =>
    intro i s H acc ek hi I ha hb ⟨Tm, q, al⟩ hl el fp go
    obtain ⟨ia, ra, la, _, za⟩ := inv_seqA I ha
    obtain ⟨ib, rb, lb, _, zb⟩ := inv_seqA I hb
    have na := ra.length
    have nb := rb.length
    have hx : xs[i]? = some xs[i] := List.getElem?_eq_getElem (by omega)
    have hy : ys[i]? = some ys[i] := List.getElem?_eq_getElem (by omega)
    generalize xs[i] = x at hx
    generalize ys[i] = y at hy
    obtain ⟨u, hu, ru⟩ := ra.get hx
    obtain ⟨v, hv, rv⟩ := rb.get hy
    refine codeAny_builtin F.entry_extend_loop ?_; rw [Around.under_plainId F.plain_extend_loop _]; show wpAny _ A.in1 (pyNext (.ref z) >>= _) _ _ s
    refine wpAny_bind (q.item hh D na1 nb2 al la lb (x := u) (y := v) (by simpa using hu) (by simpa using hv) fun g tk q1 pr kg => ?_)
    have fT : H s.heap.objs.size = none := I.hok.fresh (Nat.le_refl _)
    have new : ObjOk X.prog X.w (upd H s.heap.objs.size (.tup [x, y])) g s.heap.objs.size (.tup [x, y]) :=
      ⟨by show 2 ≤ sizeLine; decide, [u, v], .cons ru (.cons rv .nil), ⟨_, pr, rfl, _, rfl⟩⟩
    have I1 : Inv X pins σ (upd H s.heap.objs.size (.tup [x, y])) { s with heap := g, toks := tk } := I.turnedNew (t' := tk) (ch := [z, TI, TO, i1, i2]) kg (fun c hc => (fp c hc).1) (Nat.le_refl _) new
    obtain ⟨T, eT⟩ : ∃ T, T = s.heap.objs.size := ⟨_, rfl⟩
    have lS : S < s.heap.objs.size := by
      obtain ⟨_, _, _, _, w⟩ := I.hok S _ hl
      exact Heap.lt_size w
    have gT : T < g.objs.size := by
      rw [eT]
      exact Heap.lt_size pr
    have oth : ∀ c, c ≠ T → ∀ w, H c = some w → upd H T (.tup [x, y]) c = some w := fun c hc w e => by
      rw [upd_ne hc]
      exact e
    rw [← eT] at I1 fT new ⊢
    have ST : S ≠ T := fun w => absurd lS (by rw [w, eT]; exact Nat.lt_irrefl _)
    have hl1 := oth S ST _ hl
    obtain ⟨zl, its, n, rl, ob⟩ := I1.hok S _ hl1
    have hz : its.length = i := by rw [← rl.length]; exact el
    show wpAny _ A.in1 (updateSeq S (·.push (.ref T)) >>= _) _ _ _
    refine wpAny_bind (wpAny_updateSeq (s := { s with heap := g, toks := tk }) ob rfl (wpAny_pure ⟨plainId_quiet F.plain_extend_loop _, ?_⟩) (by simp; omega) (by simp; omega))
    have ob2 := Heap.get?_update_self (Obj.mapSeq (·.push (Value.ref T))) ob rfl
    have I2 := I1.write (x := S) (e := S) (o := .lst (acc ++ [V.ref T])) (t' := tk) (h' := g.update S (Obj.mapSeq (·.push (Value.ref T)))) (by rw [hl1]; trivial) (.inl rfl)
      (fun c o hc e => (Heap.get?_update_other _ _ (Ne.symm hc)).trans e) ⟨_, ob2⟩ ⟨by simp; omega, its ++ [.ref T], _, rl.append (.cons (show RelV (V.ref T) (Value.ref T) from rfl) .nil), by simpa [Obj.mapSeq] using ob2⟩
    have keep2 : ∀ c o, c ≠ S → g.get? c = some o → (g.update S (Obj.mapSeq (·.push (Value.ref T)))).get? c = some o := fun c o hc e => (Heap.get?_update_other _ _ (Ne.symm hc)).trans e
    refine ih (i + 1) _ _ (acc ++ [V.ref T]) (by omega) (by omega) I2 ?_ ?_ ⟨_, q1.keep fun c hc o e => keep2 c o (fun w => hS (w ▸ hc)) e, fun T' e => ?_⟩ upd_same (by simp; omega) (fun c hc => ?_) fun H' s' ps J jl jz => ?_
    · exact (ha.kp (ws := []) (Kp.new ⟨fT⟩) not_nil).kp (ws := [S]) (kp_set hl1 (fun z => z)) (not_one aS)
    · exact (hb.kp (ws := []) (Kp.new ⟨fT⟩) not_nil).kp (ws := [S]) (kp_set hl1 (fun z => z)) (not_one bS)
    · have here : ∃ o, g.get? T' = some o := by
        cases Tm with
        | none =>
          have e1 : s.heap.objs.size = T' := Option.some.inj e
          rw [← e1]
          exact ⟨_, pr⟩
        | some T0 =>
          have e1 : T0 = T' := Option.some.inj e
          rw [← e1]
          by_cases c : T0 ∈ zfpA z TI TO i1 i2
          · obtain ⟨o, ho, _⟩ := q1.obj T0 c
            exact ⟨o, ho⟩
          · obtain ⟨o, ho⟩ := al T0 rfl
            exact ⟨o, kg T0 o c ho⟩
      obtain ⟨o, ho⟩ := here
      by_cases c : T' = S
      · rw [c]
        exact ⟨_, ob2⟩
      · exact ⟨_, keep2 T' o c ho⟩
    · obtain ⟨f1, f2⟩ := fp c hc
      have cS : c ≠ S := fun w => hS (w ▸ hc)
      have cT : c ≠ T := fun w => absurd f2 (by rw [w, eT]; exact Nat.lt_irrefl _)
      refine ⟨⟨?_, f1.2⟩, ?_⟩
      · rw [upd_ne cS, upd_ne cT]
        exact f1.1
      · show c < (g.update S _).objs.size
        rw [Heap.size_update]
        exact Nat.lt_trans f2 (by rw [← eT]; exact gT)
    · refine go H' s' (T :: ps) J (by rw [List.map_cons, List.append_cons]; exact jl) ⟨?_, fun j p e => ?_, fun c w hc e => ?_⟩
      · have := jz.len
        simp only [List.length_cons]
        omega
      · cases j with
        | zero =>
          simp only [List.getElem?_cons_zero, Option.some.injEq] at e
          subst e
          exact ⟨x, y, hx, hy, jz.kept _ _ ST.symm (by rw [upd_ne ST.symm, upd_same]), fT⟩
        | succ j =>
          simp only [List.getElem?_cons_succ] at e
          obtain ⟨x', y', e1, e2, e3, e4⟩ := jz.at' j p e
          refine ⟨x', y', by rw [← e1]; congr 1; omega, by rw [← e2]; congr 1; omega, e3, ?_⟩
          have pS : p ≠ S := fun w => by rw [w, upd_same] at e4; cases e4
          have pT : p ≠ T := fun w => by rw [w, upd_ne ST.symm, upd_same] at e4; cases e4
          rw [upd_ne pS, upd_ne pT] at e4
          exact e4
      · refine jz.kept c w hc ?_
        rw [upd_ne hc]
        exact oth c (fun q => by rw [q, fT] at e; cases e) _ e
end
section
open PyProof PyProof.Rows PySem.Calls PySem.Spec PySem.W
theorem zip_listA {X : Cx} {pins : List (Addr × Obj)} {σ : L2.St} {H : Hp} {s : Shared} {A : Around} {E : Value → Shared → Prop} {Q : Value → Shared → Prop} {z TI TO i1 i2 a b : Addr} {b1 b2 : Bool} {xs ys : List V} (hh : A.handled = none) (D : ZipSep2 z TI TO i1 i2 [i1, a] [i2, b]) (na1 : a ≠ i1) (nb2 : b ≠ i2)
    (I : Inv X pins σ H s) (ha : SqA X.K b1 H a xs) (hb : SqA X.K b2 H b ys) (q : ZSA b1 b2 s.heap z TI TO i1 i2 a b 0 none) (fp : ∀ c ∈ [z, TI, TO, i1, i2], FpOk X pins H c ∧ c < s.heap.objs.size)
    (go : ∀ H' s' S ps, Inv X pins σ H' s' → Fr H S → H' S = some (.lst (ps.map V.ref)) → ZdA H H' S xs ys 0 ps → Q (.ref S) s') :
    wpAny (model X.prog X.w) A (call (.type "list") [.ref z]) Q E s := by
  obtain ⟨S, eS⟩ : ∃ S, S = s.heap.objs.size := ⟨_, rfl⟩
  have fS : H S = none := I.hok.fresh (by rw [eS]; exact Nat.le_refl _)
  have nS : S ∉ [z, TI, TO, i1, i2] := fun m => absurd (fp S m).2 (by rw [eS]; exact Nat.lt_irrefl _)
  have s5 : S ≠ z ∧ S ≠ TI ∧ S ≠ TO ∧ S ≠ i1 ∧ S ≠ i2 := by simpa using nS
  have aS : a ≠ S := by
    obtain ⟨_, _, _, la, _⟩ := inv_seqA I ha
    rw [eS]
    exact Nat.ne_of_lt la
  have bS : b ≠ S := by
    obtain ⟨_, _, _, lb, _⟩ := inv_seqA I hb
    rw [eS]
    exact Nat.ne_of_lt lb
  refine callType_codes (Q₁ := fun obj t => obj = .ref S ∧ t = { s with heap := s.heap.push { cls := .type "list", data := .seq #[] } }) PySem.F.called_list (PySem.F.typeCall_list_1 _) PySem.F.entry_list_init (code_list_new _ ⟨by rw [eS], rfl⟩) fun obj t ht => ?_
  obtain ⟨eo, et⟩ := ht
  subst eo et
  have ob0 : (s.heap.push { cls := .type "list", data := .seq #[] }).get? S = some { cls := .type "list", data := .seq #[] } := by rw [eS]; exact Heap.get?_push_size _ rfl
  have k0 : ∀ c o, s.heap.get? c = some o → (s.heap.push { cls := .type "list", data := .seq #[] }).get? c = some o := fun c o e => Heap.get?_push_of_some _ e
  refine ⟨⟨_, ob0, rfl⟩, PySem.F.args_list_init_2 _ _, ?_⟩
  show wpAny _ _ (do let old ← Builtin.List.listItems (.ref S); Builtin.List.listUpdate (.ref S) (fun _ => #[]); letGo old.toList.reverse; Builtin.List.listExtendWith (.ref S) (.ref z) .none) _ _ _
  refine wpAny_bind ?_
  unfold Builtin.List.listItems
  refine wpAny_bind (wpAny_seqItems ob0 rfl (wpAny_pure ?_))
  show wpAny _ _ (updateSeq S (fun _ => #[]) >>= fun _ => letGo (#[] : Array Value).toList.reverse >>= fun _ => Builtin.List.listExtendWith (.ref S) (.ref z) .none) _ _ _
  refine wpAny_bind (wpAny_updateSeq ob0 rfl ?_)
  have ob1 := Heap.get?_update_self (Obj.mapSeq (fun _ => (#[] : Array Value))) ob0 rfl
  have k1 : ∀ c o, c ≠ S → s.heap.get? c = some o → ((s.heap.push { cls := .type "list", data := .seq #[] }).update S (Obj.mapSeq (fun _ => (#[] : Array Value)))).get? c = some o :=
    fun c o hc e => (Heap.get?_update_other _ _ (Ne.symm hc)).trans (k0 c o e)
  refine wpAny_bind (wpAny_letGo ?_)
  have q1 : ZSA b1 b2 _ z TI TO i1 i2 a b 0 none := q.keep fun c hc o e => k1 c o (fun w => nS (w ▸ hc)) e
  unfold Builtin.List.listExtendWith
  refine wpAny_bind (wpAny_typeOf (T := "zip") q1.ty ?_)
  have n1 : Builtin.List.listSameRef (.ref S) (.ref z) = false := by simp [Builtin.List.listSameRef, s5.1]
  have n2 : (Value.type "zip" == Value.type "list") = false := by decide
  have n3 : (Value.type "zip" == Value.type "tuple") = false := by decide
  simp only [n1, n2, n3, Bool.or_false, Bool.false_eq_true, if_false]
  refine wpAny_bind (q1.self (wpAny_bind (wpAny_holding (zip_room q1.ty ?_))))
  simp only [Bool.true_or, if_true]
  refine wpAny_bind (wpAny_rule (wpAny_bind ?_))
  show wpAny _ _ (updateSeq S (fun v => v.push .none) >>= fun _ => updateSeq S (fun v => v.pop)) _ _ _
  refine wpAny_bind (wpAny_updateSeq ob1 rfl ?_)
  have ob2 := Heap.get?_update_self (Obj.mapSeq (fun v => v.push Value.none)) ob1 rfl
  refine wpAny_updateSeq (hz := by seq_fits) ob2 rfl ?_
  have ob3 := Heap.get?_update_self (Obj.mapSeq (fun v => v.pop)) ob2 rfl
  have k3 := fun c o (hc : c ≠ S) (e : s.heap.get? c = some o) => (Heap.get?_update_other _ (Obj.mapSeq (fun v => v.pop)) (Ne.symm hc)).trans ((Heap.get?_update_other _ (Obj.mapSeq (fun v => v.push Value.none)) (Ne.symm hc)).trans (k1 c o hc e))
  have q3 : ZSA b1 b2 _ z TI TO i1 i2 a b 0 none := q.keep fun c hc o e => k3 c o (fun w => nS (w ▸ hc)) e
  have ne : ∀ c o, s.heap.get? c = some o → c ≠ S := fun c o e => by
    rw [eS]
    exact Nat.ne_of_lt (Heap.lt_size e)
  have I3 := I.laid (a := S) (o := .lst []) (t' := s.toks) (fun c o e => k3 c o (ne c o e) e) (by rw [eS]; exact Nat.le_refl _) ⟨Nat.zero_le _, [], _, .nil, ob3⟩
  refine wpAny_pure ⟨plainId_quiet F.plain_extend_loop _, ?_⟩
  refine zip_loopA (A := A.in1) hh D na1 nb2 nS aS bS _ 0 _ _ [] rfl (Nat.zero_le _) I3 (ha.kp (ws := []) (Kp.new ⟨fS⟩) not_nil) (hb.kp (ws := []) (Kp.new ⟨fS⟩) not_nil) ⟨none, q3, fun T e => (nomatch e)⟩ upd_same rfl (fun c hc => ?_) fun H' s' ps J jl jz => ?_
  · obtain ⟨f1, f2⟩ := fp c hc
    have cS : c ≠ S := fun w => nS (w ▸ hc)
    refine ⟨⟨by rw [upd_ne cS]; exact f1.1, f1.2⟩, ?_⟩
    show c < (Heap.update _ _ _).objs.size
    rw [Heap.size_update, Heap.size_update, Heap.size_update, Heap.size_push]
    exact Nat.lt_succ_of_lt f2
  · refine ⟨rfl, go H' s' S ps J ⟨fS⟩ jl ⟨jz.len, fun j p e => ?_, fun c w hc e => jz.kept c w hc (by rw [upd_ne hc]; exact e)⟩⟩
    obtain ⟨x, y, e1, e2, e3, e4⟩ := jz.at' j p e
    refine ⟨x, y, e1, e2, e3, ?_⟩
    have pS : p ≠ S := fun w => by rw [w, upd_same] at e4; cases e4
    rw [upd_ne pS] at e4
    exact e4
end
section
open PyProof PyProof.Rows PySem.Calls PySem.Spec PySem.W
variable {X : Cx}
def LZipA (K : PySem.W.Frag) (vs : List V) (H1 : Hp) (Q : VK) : Prop := ∃ (k1 k2 : Bool) (a b : Addr) (xs ys : List V), vs = [.ref a, .ref b] ∧ SqA K k1 H1 a xs ∧ SqA K k2 H1 b ys ∧ ∀ (H' : Hp) (S : Addr) (ps : List Addr), Fr H1 S → H' S = some (.lst (ps.map V.ref)) → ZdA H1 H' S xs ys 0 ps → Q (.ref S) H'
def tListZipA (K : PySem.W.Frag) (ta : TA) : TE := fun σ H Q => ta σ H fun vs H1 => LZipA K vs H1 Q
theorem i_listZipA {K : PySem.W.Frag} {ta : TA} {σ : L2.St} {H : Hp} {Q : VK} (h : ta σ H fun vs H1 => LZipA K vs H1 Q) : tListZipA K ta σ H Q := h
theorem pe_listZipA {e e2 : Expr} {ta : TA} {p p2 pos pos2 : Pos} (calm : X.calm = true) (hg : Gl X "list") (hm : X.mg "list" = none) (hg2 : Gl X "zip") (hm2 : X.mg "zip" = none) (ha : PA X [e, e2] ta)
    (hs : starEach [e, e2] X.env = (false, eval e X.env) :: starEach [e2] X.env := by rfl) (hpl : (backTo pos2 (starEach [e2] X.env)).any (·.1) = false := by rfl)
    (one : starEach [Expr.Call (.Name "zip" p2) [e, e2] [] pos2] X.env = (false, eval (Expr.Call (.Name "zip" p2) [e, e2] [] pos2) X.env) :: starEach [] X.env := by rfl) :
    PE X (.Call (.Name "list" p) [.Call (.Name "zip" p2) [e, e2] [] pos2] [] pos) (tListZipA X.K ta) := by
  refine ⟨fun pins s σ H Q I q0 => ?_⟩
  refine Call_ (ld_blt I hg hm boot_list (PyProof.Rows.callWith_type1 (PyProof.Rows.args_cons ?_ one) one rfl))
  refine Call_ (ld_blt I hg2 hm2 PyProof.Rows.boot_zip (PyProof.Rows.callWith_type1 (thn (ha.run pos2 pins s σ H _ I q0) fun us s1 w => ?_) hs hpl))
  obtain ⟨vs, H1, I1, r1, k1, k2, a, b, xs, ys, ev, ea, eb, q⟩ := w
  subst ev
  obtain ⟨u1, u2, rfl, r2, r3⟩ := vals2 r1
  obtain rfl : u1 = Value.ref a := r2
  obtain rfl : u2 = Value.ref b := r3
  obtain ⟨ia, va, la, za, _⟩ := inv_seqA I1 ea
  obtain ⟨ib, vb, lb, zb, _⟩ := inv_seqA I1 eb
  refine zip_begins2 (beginsA k1 a ia.toArray) (beginsA k2 b ib.toArray) la lb fun g w1 w2 w3 w4 w5 w6 kg => PyProof.Rows.args_nil ?_
  have I2 : Inv X pins σ H1 { s1 with heap := g } := I1.kept (t' := s1.toks) kg
  refine zip_listA (A := X.A) (I.ok.hd calm) (zip_sep2 (N := s1.heap.objs.size) (fp1 := [a]) (fp2 := [b]) (fun c hc => by rw [List.mem_singleton.mp hc]; exact za) (fun c hc => by rw [List.mem_singleton.mp hc]; exact zb)) (Nat.ne_of_lt za) (Nat.ne_of_lt (Nat.lt_succ_of_lt zb)) I2 ea eb ⟨w2, ⟨_, _, w3⟩, itA_0 w4, itA_0 w5, .inl ⟨rfl, w1⟩⟩ (fun c hc => ?_) fun H' s' S ps J fr jl jz => ⟨.ref S, H', J, rfl, q H' S ps fr jl jz⟩
  have hle : s1.heap.objs.size ≤ c ∧ c < s1.heap.objs.size + 5 := by
    simp only [List.mem_cons, List.not_mem_nil, or_false] at hc
    rcases hc with rfl | rfl | rfl | rfl | rfl
    · exact ⟨Nat.le_add_right _ _, Nat.lt_succ_self _⟩
    · exact ⟨Nat.le_add_right _ _, Nat.add_lt_add_left (by decide) _⟩
    · exact ⟨Nat.le_add_right _ _, Nat.add_lt_add_left (by decide) _⟩
    · exact ⟨Nat.le_refl _, Nat.lt_add_of_pos_right (by decide)⟩
    · exact ⟨Nat.le_add_right _ _, Nat.add_lt_add_left (by decide) _⟩
  exact ⟨I1.fpOk hle.1 (I1.hok.fresh hle.1), by show c < g.objs.size; rw [w6]; exact hle.2⟩
end

/-! ### enumerate over a list or a tuple, in a comprehension -/
section
open PySem.Calls PyProof.Rows PySem.Spec PyProof PySem.W L2
theorem meets_enum1 {v : Value} {o : Obj} {H : Heap → Prop} (B : Begins v o H) :
    Meets (Builtin.«enumerate.__new__» ⟨[.type "enumerate", v], []⟩) (fun _ R s => H s.heap ∧
      R (.ok (.ret (.ref (s.heap.push o).objs.size))) { s with heap := (s.heap.push o).push { cls := .type "enumerate", data := .fields #[.none, .bool false, .ref s.heap.objs.size, rawInt 0, .none, .none] } }) :=
  .of_wp fun prog w A R s h => by
    obtain ⟨hp, g, d, tk, os⟩ := s; obtain ⟨h1, h⟩ := h
    have hsub := sub_enumerate
    have q1 : ∀ {A' : Around} {E : Value → Shared → Prop} {Q : Value → Shared → Prop}, Q (.ref hp.objs.size) ⟨hp.push o, g, d, tk, os⟩ → wpAny (model prog w) A' (pyIter v) Q E ⟨hp, g, d, tk, os⟩ :=
      fun q => B.iter prog w _ _ ⟨hp, g, d, tk, os⟩ _ h1 q
    wp_walk using q1
    refine wpAny_stack_any fun st => wpAny_pure ?_
    split
    · rename_i c _ _ _ _ _
      cases (c == Value.type "enumerate")
      · wp_walk using q1
        exact ⟨_, rfl, h⟩
      · wp_walk using q1
        exact ⟨_, rfl, h⟩
    · wp_walk using q1
      exact ⟨_, rfl, h⟩
theorem enum_begins1 {prog : Program} {w : World} {A : Around} {E : Value → Shared → Prop} {s : Shared} {v : Value} {o : Obj} {H : Heap → Prop} {Q : Value → Shared → Prop} (B : Begins v o H) (h1 : H s.heap)
    (h : ∀ h', IsEnum h' (s.heap.objs.size + 1) s.heap.objs.size 0 .none → h'.get? s.heap.objs.size = some o → h'.objs.size = s.heap.objs.size + 2 →
      (∀ b o, s.heap.get? b = some o → h'.get? b = some o) → Q (.ref (s.heap.objs.size + 1)) { s with heap := h' }) :
    wpAny (model prog w) A (call (.type "enumerate") [v]) Q E s := by
  refine callType_new PySem.F.called_enumerate (by decide) (PySem.F.typeCall_enumerate_1 _) (PySem.F.newCall_enumerate_1 _) (fun obj => PySem.F.args_object_init_2 obj _) PySem.F.entry_enumerate_new
    (meets_enum1 B) ⟨h1, ?_⟩
  have hz : (s.heap.push o).objs.size = s.heap.objs.size + 1 := Heap.size_push ..
  show _ ∧ _
  rw [hz]
  have he : IsEnum ((s.heap.push o).push { cls := .type "enumerate", data := .fields #[.none, .bool false, .ref s.heap.objs.size, rawInt 0, .none, .none] }) (s.heap.objs.size + 1) s.heap.objs.size 0 .none := by
    have := Heap.get?_push_size (s.heap.push o) (o := { cls := .type "enumerate", data := .fields #[.none, .bool false, .ref s.heap.objs.size, rawInt 0, .none, .none] }) rfl
    rw [hz] at this; exact this
  refine ⟨⟨_, he, rfl⟩, h _ he (Heap.get?_push_of_some _ (Heap.get?_push_size _ B.free)) (by rw [Heap.size_push, hz]) fun b o x => Heap.get?_push_of_some _ (Heap.get?_push_of_some _ x)⟩
theorem sqA_inj {X : Cx} {pins : List (Addr × Obj)} {σ : L2.St} {H : Hp} {s : Shared} {k : Bool} {a : Addr} {xs ys : List V} (I : L2.Inv X pins σ H s) (h : SqA X.K k H a xs) (h' : SqA X.K k H a ys) : xs = ys := by
  cases k with
  | true => exact I.tuple_inj h h'
  | false => exact I.list_inj h h'
def IteA (K : PySem.W.Frag) (k : Bool) (a : Addr) : It :=
  ⟨fun i H => ∃ (xs : List V) (x : V), SqA K k H a xs ∧ xs[i]? = some x, fun i H v H' => ∃ T x, v = .ref T ∧ H T = none ∧ H' = upd H T (.tup [.int (i : Nat), x]) ∧ ∀ xs, SqA K k H a xs → xs[i]? = some x, fun i H => ∃ xs : List V, SqA K k H a xs ∧ i = xs.length⟩
theorem turn_enumA {P : Program} {w : World} {K : PySem.W.Frag} {elts : List Expr} {kk : Nat} {tpos : Pos} (k : Bool) (a e it : Addr) :
    Turn P w K (.Tuple elts kk tpos) (IteA K k a) [e, it] e (fun i h => (∃ old, IsEnum h e it ((i : Nat) : Int) old) ∧ ItA k h it a i ∧ e ≠ it ∧ a ≠ it ∧ a ≠ e) where
  mem := by simp
  obj := fun i h st b hb => by
    obtain ⟨⟨old, he⟩, hi, _⟩ := st
    have e' : b = e ∨ b = it := by simpa using hb
    rcases e' with z | z
    · rw [z]; exact ⟨_, he, fun v q => nomatch q⟩
    · rw [z]; exact hi.obj
  keep := fun i h h' st k => let ⟨⟨old, he⟩, hi, hne⟩ := st; ⟨⟨old, k e (by simp) _ he⟩, hi.at fun o q => k it (by simp) o q, hne⟩
  item := by
    intro X hP hw hK hc i pins s σ H E I hf st hg
    subst hP hw hK
    obtain ⟨⟨old, he⟩, hit, hne, hai, hae⟩ := st
    obtain ⟨xs, x, hq, hx⟩ := hg
    obtain ⟨its, rv, p, hz⟩ := inv_seqA I hq
    obtain ⟨u, hu, ru⟩ := rv.get hx
    have hel : e < s.heap.objs.size := Heap.lt_size he
    have hil : it < s.heap.objs.size := by obtain ⟨_, q, _⟩ := hit.obj; exact Heap.lt_size q
    have D := drawsA (prog := X.prog) (w := X.w) (A := X.A.in1) k (I.ok.hd hc) it a hai its.toArray
    have W := WalksT.enumFrom (0 : Int) D e hne (by simp only [List.mem_cons, List.not_mem_nil, or_false, not_or]; exact ⟨hne, Ne.symm hae⟩) (by simp)
    have hlt : i < its.toArray.size := by
      have : its[i]? = some u := hu
      have := (List.getElem?_eq_some_iff.mp this).1
      simpa using this
    refine W.item i s _ _ hlt ⟨⟨old, by rw [Int.zero_add]; exact he⟩, hit, p⟩ fun T vals h' tk hPt hnew hT hm hk => ?_
    obtain ⟨t, x', hx', ev⟩ := hPt
    have ex : x' = u := by
      have h2 : its.toArray[i]? = some u := by simpa using hu
      rw [h2] at hx'
      exact (Option.some.inj hx').symm
    subst ev ex
    refine ⟨_, rfl, W.go elts kk tpos i T { s with heap := h', toks := tk } _ _ hm fun h'' st'' hk2 => ?_⟩
    have ap := W.apart i T h' hm
    obtain ⟨oT, gT, cT, nT, dT⟩ := hT
    have hT2 := hk2 T oT ap gT
    have new : ObjOk X.prog X.w (upd H T (.tup [.int (i : Nat), x])) h'' T (.tup [.int (i : Nat), x]) :=
      ⟨by show 2 ≤ sizeLine; decide, [.int (0 + (i : Int)) t, x'], .cons ⟨t, by rw [Int.zero_add]⟩ (.cons ru .nil), ⟨oT, hT2, cT, nT, dT⟩⟩
    have I1 : Inv X pins σ (upd H T (.tup [.int (i : Nat), x])) { s with heap := h'', toks := tk } :=
      I.turnedNew (ch := [e, it]) (fun b ob hb q => hk2 b ob hb (hk b ob hb q)) hf hnew new
    obtain ⟨⟨old2, he2⟩, hit2, _⟩ := st''
    refine ⟨.ref T, _, I1, rfl, ⟨_, x, rfl, I.hok.fresh hnew, rfl, fun ys hy => by rw [sqA_inj I hy hq]; exact hx⟩, ⟨⟨old2, by rw [Int.zero_add] at he2; exact he2⟩, hit2, hne, hai, hae⟩, fun b hb => ?_⟩
    have hb' : b < s.heap.objs.size := by
      have e' : b = e ∨ b = it := by simpa using hb
      rcases e' with z | z
      · rw [z]; exact hel
      · rw [z]; exact hil
    rw [upd_ne (Nat.ne_of_lt (Nat.lt_of_lt_of_le hb' hnew))]
    exact (hf b hb).1
  done := by
    intro X hP hw hK hc i pins s σ H E I hf st hg
    subst hP hw hK
    obtain ⟨⟨old, he⟩, hit, hne, hai, hae⟩ := st
    obtain ⟨xs, hq, hx⟩ := hg
    obtain ⟨its, rv, p, hz⟩ := inv_seqA I hq
    obtain ⟨f0, f1, f2, f3, f4, f5⟩ := hf it (by simp)
    have hl := rv.length
    subst hx
    have D := drawsA (prog := X.prog) (w := X.w) (A := X.A.in1) k (I.ok.hd hc) it a hai its.toArray
    have es : its.toArray.size = xs.length := by simp only [List.size_toArray]; omega
    exact wpAny_pyNext_enum_endD D he (by rw [es]; exact ⟨hit, p⟩) fun h' eb => ⟨rfl, I.turned (t' := s.toks) (fun b o hb q => eb b o hb q) f0 f1 f3 f4 f5⟩
  self := fun A i s Q E st h => let ⟨⟨_, he⟩, _⟩ := st; wpAny_pyIter_enum he h
def iEnumA (K : PySem.W.Frag) (ta : TA) : TI := fun σ H R => ta σ H fun vs H1 => ∃ k a xs, vs = [.ref a] ∧ SqA K k H1 a xs ∧ R (IteA K k a) H1
theorem pi_enumA {X : Cx} {e : Expr} {ta : TA} {p pos tpos : Pos} {elts : List Expr} {kk : Nat} (hg : Gl X "enumerate") (hm : X.mg "enumerate" = none) (ha : PA X [e] ta) (hs : starEach [e] X.env = [(false, eval e X.env)] := by rfl) :
    PI X (.Tuple elts kk tpos) (.Call (.Name "enumerate" p) [e] [] pos) (iEnumA X.K ta) := by
  refine ⟨fun pins s σ H R I h => ?_⟩
  refine Call_ (ld_blt I hg hm boot_enumerate (PyProof.Rows.callWith_type1 (thn (ha.run pos pins s σ H _ I h) fun us s1 ⟨vs, H1, I1, r1, q1⟩ => ?_) hs rfl))
  obtain ⟨k, a, xs, ex, hq, q⟩ := q1
  subst ex
  cases r1 with
  | cons r rr =>
    cases rr
    cases r
    obtain ⟨its, rv, p', hlt, hz⟩ := inv_seqA I1 hq
    refine enum_begins1 (beginsA k a its.toArray) p' fun h' he hit hsz hk => wpAny_pyIter_enum he ?_
    have I2 : Inv X pins σ H1 { s1 with heap := h' } := I1.kept (t' := s1.toks) hk
    refine ⟨s1.heap.objs.size + 1, [s1.heap.objs.size + 1, s1.heap.objs.size], _, _, H1, rfl, I2, turn_enumA k a (s1.heap.objs.size + 1) s1.heap.objs.size, ⟨⟨.none, he⟩, itA_0 hit, Nat.succ_ne_self _, Nat.ne_of_lt hlt, Nat.ne_of_lt (Nat.lt_succ_of_lt hlt)⟩, fun b hb => ?_, q⟩
    have e' : b = s1.heap.objs.size + 1 ∨ b = s1.heap.objs.size := by simpa using hb
    have hle : s1.heap.objs.size ≤ b := by
      rcases e' with z | z
      · rw [z]; exact Nat.le_add_right _ _
      · rw [z]; exact Nat.le_refl _
    exact I1.fpOk hle (I1.hok.fresh hle)
end
section
variable {K : PySem.W.Frag} {σ : L2.St} {H H1 : Hp} {Q : VK} {a : Addr} {xs : List V} {g : TG} {tt : TT} {te : TE} {vn : List Nat} {k : Bool} {ta : TA}
def LcE (K : PySem.W.Frag) (ws : List V) (g : TG) (tt : TT) (te : TE) (vs : List Nat) (σ : L2.St) (H1 : Hp) (Q : VK) : Prop :=
  ∃ k a xs, ws = [.ref a] ∧ SqA K k H1 a xs ∧ ∀ D, H1 D = none →
    ∃ W : Nat → Nat → Hp → Prop, (∃ m, W 0 m (upd H1 D (.lst []))) ∧ ∀ i m H, W i m H →
      ((IteA K k a).stop i H ∧ Q (.ref D) H) ∨ ((IteA K k a).go i H ∧ ∃ Nx : Hp → Prop,
        (∀ H', Nx H' → ∃ m', m' < m ∧ W (i + 1) m' H') ∧
        ∀ x H', (IteA K k a).yld i H x H' → g x (wipe σ vs) H' fun σ2 H2 => wipe σ2 vs = wipe σ vs ∧ tt σ2 H2 fun b H3 =>
          if b = true then te σ2 H3 fun y H4 => ∃ acc, H4 D = some (.lst acc) ∧ acc.length < sizeLine ∧
            Nx (upd H4 D (.lst (acc ++ [y]))) else Nx H3)
theorem i_lcE (h : ta σ H fun ws H1 => LcE K ws g tt te vn σ H1 Q) : tLc (iEnumA K ta) g tt te vn σ H Q := h
theorem i_eltsE (hs : SqA K k H a xs) (Pv : Addr → Nat → Hp → Prop)
    (h0 : ∀ D, Fr H D → Pv D 0 (upd H D (.lst [])))
    (hl : ∀ D i H', Fr H D → i ≤ xs.length → Pv D i H' → SqA K k H' a xs)
    (st : ∀ (D : Addr) (i : Nat) (x : V) (T : Addr) (H' : Hp), Fr H D → xs[i]? = some x → Pv D i H' → Fr H' T → g (.ref T) (wipe σ vn) (upd H' T (.tup [.int (i : Nat), x])) fun σ2 H2 =>
      wipe σ2 vn = wipe σ vn ∧ tt σ2 H2 fun b H3 => if b = true then te σ2 H3 fun y H4 =>
        ∃ acc, H4 D = some (.lst acc) ∧ acc.length < sizeLine ∧ Pv D (i + 1) (upd H4 D (.lst (acc ++ [y])))
        else Pv D (i + 1) H3)
    (hd : ∀ D H', Fr H D → Pv D xs.length H' → Q (.ref D) H') : LcE K [.ref a] g tt te vn σ H Q := by
  refine ⟨k, a, xs, rfl, hs, fun D hD => ⟨fun i m H' => m = xs.length - i ∧ i ≤ xs.length ∧ Pv D i H', ⟨_, rfl, Nat.zero_le _, h0 D ⟨hD⟩⟩, ?_⟩⟩
  rintro i m H' ⟨rfl, hi, z⟩
  have q := hl D i H' ⟨hD⟩ hi z
  by_cases c : i < xs.length
  · refine .inr ⟨⟨xs, xs[i], q, List.getElem?_eq_getElem c⟩, Pv D (i + 1), fun H2 w => ⟨_, by omega, rfl, c, w⟩, ?_⟩
    rintro x H2 ⟨T, y, rfl, hT, rfl, hy⟩
    exact st D i y T _ ⟨hD⟩ (hy xs q) z ⟨hT⟩
  · have e : i = xs.length := by omega
    exact .inl ⟨⟨xs, q, e⟩, hd D H' ⟨hD⟩ (by rw [← e]; exact z)⟩
end

/-! ### mixed -/
theorem erase_map {f : Int → V} : ∀ (l : List Int) (k : Nat), (l.map f).eraseIdx k = (l.eraseIdx k).map f
  | [], _ => rfl
  | _ :: _, 0 => rfl
  | a :: l, k + 1 => by
    rw [List.map_cons, List.eraseIdx_cons_succ, List.eraseIdx_cons_succ, List.map_cons, erase_map l k]
theorem erase_perm : ∀ (l : List Int) (k : Nat) (h : k < l.length), (l[k] :: l.eraseIdx k).Perm l
  | [], _, h => absurd h (by simp)
  | _ :: _, 0, _ => .refl _
  | a :: l, k + 1, h => by
    rw [List.eraseIdx_cons_succ, List.getElem_cons_succ]
    exact (List.Perm.swap _ _ _).trans ((erase_perm l k (by simpa using h)).cons a)
theorem i_popAt {H : Hp} {Q : VK} {l : Addr} {ns : List Int} {k : Nat} (hl : H l = some (.lst (ns.map V.int))) (hk : k < ns.length) (hz : ns.length ≤ 1000000) (q : Q (.int ns[k]) (upd H l (.lst ((ns.eraseIdx k).map V.int)))) : rPopAt (.ref l) [.int (k : Nat)] H Q := by
  refine ⟨l, _, (k : Nat), k, .int ns[k], rfl, rfl, hl, by omega, by omega, ?_, ?_, ?_⟩
  · have h0 : ¬ ((k : Nat) : Int) < 0 := by omega
    simp only [seqIndex?, List.length_map, if_neg h0]
    rw [if_pos (by simp; omega), Int.toNat_natCast]
  · rw [List.getElem?_map, List.getElem?_eq_getElem hk]
    rfl
  · rw [erase_map]
    exact q
theorem k_bm {X : Cx} {K : PySem.W.Frag} {T id : String} {name : Str} {r : V → List V → Hp → VK → Prop} {o e : Expr} {es : List Expr} {to : TE} {t : TA} {apos cpos : Pos} (h : X.K = K) (pa : PlainAttrs T) (slot : Slot T name id) (hty : typeOf (.builtin id) = pure (.type "method_descriptor")) (hm : MtR X id r) (ho : PE X o to) (ha : PA X (e :: es) t)
    (hbase : attributeBase o name X.env (eval o X.env) = eval o X.env := by rfl)
    (hfew : ((backTo cpos (starEach (e :: es) X.env)).all (fun x => !x.1) && (backToKw cpos (keywordEach [] X.env)).all (fun x => x.1.isSome)
      && decide ((e :: es).length + ([] : List Keyword).length + (if ([] : List Keyword).isEmpty then 0 else 1) < 30)) = true := by rfl)
    (hline : (apos.endLine == cpos.line) = true := by rfl) (hs : starEach (e :: es) X.env = (false, eval e X.env) :: starEach es X.env := by rfl) (hplain : (backTo cpos (starEach es X.env)).any (·.1) = false := by rfl) :
    PE X (.Call (.Attribute o name apos) (e :: es) [] cpos) (tBM K T r to t) := h ▸ pe_bm pa slot hty hm ho ha hbase hfew hline hs hplain

/-! ### range with two and three numbers -/
section
variable {K : PySem.W.Frag} {σ : L2.St} {H H1 : Hp} {Q : VK} {g : TG} {tb : TS} {D : Ends} {tt : TT} {te : TE} {vs : List Nat}
def ForR2 (ws : List V) (g : TG) (tb : TS) (D : Ends) (σ : L2.St) (H : Hp) : Prop :=
  ∃ a b : Int, ws = [.int a, .int b] ∧ (-(2 ^ 62) ≤ a ∧ a < 2 ^ 62 ∧ -(2 ^ 62) ≤ b ∧ b < 2 ^ 62) ∧
    ∃ W : Nat → Nat → L2.St → Hp → Prop, (∃ m, W 0 m σ H) ∧ ∀ i m σ H, W i m σ H →
      ((Itr a (b - a).toNat).stop i H ∧ D.nx σ H) ∨ ((Itr a (b - a).toNat).go i H ∧ ∃ Nx : L2.St → Hp → Prop,
        (∀ σ' H', Nx σ' H' → ∃ m', m' < m ∧ W (i + 1) m' σ' H') ∧
        ∀ x H', (Itr a (b - a).toNat).yld i H x H' → g x σ H' fun σ2 H2 =>
          tb { D with nx := Nx, ct := Nx, bk := D.nx } σ2 H2)
theorem i_forR2 {ta : TA} (h : ta σ H fun ws H1 => ForR2 ws g tb D σ H1) : tFor (iRng2 ta) g tb D σ H := h
instance red_i_forR2 {ta : TA} : Red (tFor (iRng2 ta) g tb D σ H) (ta σ H fun ws H1 => ForR2 ws g tb D σ H1) := ⟨i_forR2⟩
theorem i_turns2 {a b : Int} (a1 : -(2 ^ 62) ≤ a) (a2 : a < 2 ^ 62) (b1 : -(2 ^ 62) ≤ b) (b2 : b < 2 ^ 62) (Pv : Nat → L2.St → Hp → Prop) (h0 : Pv 0 σ H)
    (st : ∀ (i : Nat) σ H, i < (b - a).toNat → Pv i σ H → g (.int (a + i)) σ H fun σ2 H2 =>
      tb { D with nx := Pv (i + 1), ct := Pv (i + 1), bk := D.nx } σ2 H2)
    (hd : ∀ σ H, Pv (b - a).toNat σ H → D.nx σ H) : ForR2 [.int a, .int b] g tb D σ H :=
  ⟨a, b, rfl, ⟨a1, a2, b1, b2⟩, for_range Pv h0 (fun i σ H hi q => st i σ H hi q) hd⟩
def LcR2 (ws : List V) (g : TG) (tt : TT) (te : TE) (vs : List Nat) (σ : L2.St) (H1 : Hp) (Q : VK) : Prop :=
  ∃ a b : Int, ws = [.int a, .int b] ∧ (-(2 ^ 62) ≤ a ∧ a < 2 ^ 62 ∧ -(2 ^ 62) ≤ b ∧ b < 2 ^ 62) ∧ ∀ D, H1 D = none →
    ∃ W : Nat → Nat → Hp → Prop, (∃ m, W 0 m (upd H1 D (.lst []))) ∧ ∀ i m H, W i m H →
      ((Itr a (b - a).toNat).stop i H ∧ Q (.ref D) H) ∨ ((Itr a (b - a).toNat).go i H ∧ ∃ Nx : Hp → Prop,
        (∀ H', Nx H' → ∃ m', m' < m ∧ W (i + 1) m' H') ∧
        ∀ x H', (Itr a (b - a).toNat).yld i H x H' → g x (wipe σ vs) H' fun σ2 H2 => wipe σ2 vs = wipe σ vs ∧ tt σ2 H2 fun b H3 =>
          if b = true then te σ2 H3 fun y H4 => ∃ acc, H4 D = some (.lst acc) ∧ acc.length < sizeLine ∧
            Nx (upd H4 D (.lst (acc ++ [y]))) else Nx H3)
theorem i_lcR2 {ta : TA} (h : ta σ H fun ws H1 => LcR2 ws g tt te vs σ H1 Q) : tLc (iRng2 ta) g tt te vs σ H Q := h
instance red_i_lcR2 {ta : TA} : Red (tLc (iRng2 ta) g tt te vs σ H Q) (ta σ H fun ws H1 => LcR2 ws g tt te vs σ H1 Q) := ⟨i_lcR2⟩
theorem i_reps2 {a b : Int} (a1 : -(2 ^ 62) ≤ a) (a2 : a < 2 ^ 62) (b1 : -(2 ^ 62) ≤ b) (b2 : b < 2 ^ 62) (Pv : Addr → Nat → Hp → Prop)
    (h0 : ∀ D, Fr H D → Pv D 0 (upd H D (.lst [])))
    (st : ∀ D (i : Nat) H', Fr H D → i < (b - a).toNat → Pv D i H' → g (.int (a + i)) (wipe σ vs) H' fun σ2 H2 =>
      wipe σ2 vs = wipe σ vs ∧ tt σ2 H2 fun b H3 => if b = true then te σ2 H3 fun y H4 =>
        ∃ acc, H4 D = some (.lst acc) ∧ acc.length < sizeLine ∧ Pv D (i + 1) (upd H4 D (.lst (acc ++ [y])))
        else Pv D (i + 1) H3)
    (hd : ∀ D H', Fr H D → Pv D (b - a).toNat H' → Q (.ref D) H') : LcR2 [.int a, .int b] g tt te vs σ H Q := by
  refine ⟨a, b, rfl, ⟨a1, a2, b1, b2⟩, fun D hD => ?_⟩
  exact lc_range (lo := a) (n := (b - a).toNat) (Pv D) (h0 D ⟨hD⟩) (fun i H' hi q => st D i H' ⟨hD⟩ hi q) (fun H' => hd D H' ⟨hD⟩)
/-- range(a, b, -1) -/
def ForD (ws : List V) (g : TG) (tb : TS) (D : Ends) (σ : L2.St) (H : Hp) : Prop :=
  ∃ (a b c : Int) (n : Nat), ws = [.int a, .int b, .int c] ∧ RgC a b c n ∧
    ∃ W : Nat → Nat → L2.St → Hp → Prop, (∃ m, W 0 m σ H) ∧ ∀ i m σ H, W i m σ H →
      ((Itc a c n).stop i H ∧ D.nx σ H) ∨ ((Itc a c n).go i H ∧ ∃ Nx : L2.St → Hp → Prop,
        (∀ σ' H', Nx σ' H' → ∃ m', m' < m ∧ W (i + 1) m' σ' H') ∧
        ∀ x H', (Itc a c n).yld i H x H' → g x σ H' fun σ2 H2 =>
          tb { D with nx := Nx, ct := Nx, bk := D.nx } σ2 H2)
theorem i_forD {ta : TA} (h : ta σ H fun ws H1 => ForD ws g tb D σ H1) : tFor (iRng3 ta) g tb D σ H := h
instance red_i_forD {ta : TA} : Red (tFor (iRng3 ta) g tb D σ H) (ta σ H fun ws H1 => ForD ws g tb D σ H1) := ⟨i_forD⟩
theorem i_turnsD {a b : Int} (a1 : -(2 ^ 62) ≤ a) (a2 : a < 2 ^ 62) (b1 : -(2 ^ 62) ≤ b) (b2 : b < 2 ^ 62) (Pv : Nat → L2.St → Hp → Prop) (h0 : Pv 0 σ H)
    (st : ∀ (i : Nat) σ H, i < (a - b).toNat → Pv i σ H → g (.int (a - i)) σ H fun σ2 H2 =>
      tb { D with nx := Pv (i + 1), ct := Pv (i + 1), bk := D.nx } σ2 H2)
    (hd : ∀ σ H, Pv (a - b).toNat σ H → D.nx σ H) : ForD [.int a, .int b, .int (-1)] g tb D σ H := by
  refine ⟨a, b, -1, (a - b).toNat, rfl, RgC.neg a1 a2 b1 b2, fun i m σ H => m = (a - b).toNat - i ∧ i ≤ (a - b).toNat ∧ Pv i σ H, ⟨_, rfl, Nat.zero_le _, h0⟩, ?_⟩
  rintro i m σ H ⟨rfl, hi, z⟩
  by_cases c : i < (a - b).toNat
  · refine .inr ⟨c, Pv (i + 1), fun σ' H' w => ⟨_, by omega, rfl, c, w⟩, ?_⟩
    rintro x H' ⟨rfl, rfl⟩
    have e : a + (i : Int) * -1 = a - i := by omega
    rw [e]
    exact st i σ _ c z
  · have e : i = (a - b).toNat := by omega
    exact .inl ⟨by show (a - b).toNat ≤ i; omega, hd σ H (by rw [← e]; exact z)⟩
end

/-! ### pairs in a list, numbered names (split off) -/
theorem snoc_int' {l : List Int} {n : Int} : l.map V.int ++ [V.int n] = (l ++ [n]).map V.int := by
  rw [List.map_append]
  rfl
theorem i_inT {K : PySem.W.Frag} {H : Hp} {Q : VK} {l : Addr} {ns : List Int} {k : Int} (hl : SqT K H l (ns.map V.int)) (q : Q (.bl (decide (k ∈ ns))) H) : rIn K false (.int k) (.ref l) H Q := by
  refine ⟨l, _, rfl, .inr hl, rfl, flat_ints ns, ?_⟩
  rw [inV_ints]
  exact q
theorem prs_get {H : Hp} : ∀ {xs : List V} {ps : List (Int × Int)} {i : Nat} {v : V}, PrsAt H xs ps → xs[i]? = some v → ∃ t q, ps[i]? = some q ∧ v = .ref t ∧ H t = some (.tup [.int q.1, .int q.2])
  | [], _, _, _, _, e => by simp at e
  | _ :: _, [], _, _, h, _ => h.elim
  | _ :: _, q :: _, 0, v, ⟨⟨t, e, h⟩, _⟩, ev => by
    rw [List.getElem?_cons_zero] at ev
    cases ev
    exact ⟨t, q, rfl, e, h⟩
  | _ :: xs, _ :: ps, i + 1, v, ⟨_, r⟩, ev => by
    rw [List.getElem?_cons_succ] at ev ⊢
    exact prs_get r ev
theorem filter_step {α : Type} {f : α → Bool} {l : List α} {i : Nat} {x : α} (h : l[i]? = some x) : (l.take (i + 1)).filter f = (l.take i).filter f ++ (if f x = true then [x] else []) := by
  rw [List.take_add_one, h, List.filter_append]
  congr 1
  show [x].filter f = _
  rw [List.filter_cons]
  rfl
theorem rg_upto (n : Int) (h : 0 ≤ n) : rgV 0 n = (upto n.toNat).map V.int := by
  unfold rgV upto
  rw [List.map_map, Int.sub_zero]
  refine List.map_congr_left fun i _ => ?_
  show V.int (0 + (i : Int)) = V.int (i : Int)
  rw [Int.zero_add]
theorem i_listRg {te : L2.St → Hp → (Int → Int → Hp → Prop) → Prop} {σ : L2.St} {H : Hp} {Q : VK} (h : te σ H fun a b H1 => RgOk a b ∧ New H1 fun q => Q (.ref q) (upd H1 q (.lst (rgV a b)))) : tLstRg te σ H Q := h
theorem i_rg1 {ta : TE} {σ : L2.St} {H : Hp} {Q : Int → Int → Hp → Prop} (h : ta σ H fun x H1 => ∃ n, x = .int n ∧ Q 0 n H1) : tRg1 ta σ H Q := h
theorem Tre.nd_named {n : Nat} {es : List (Int × Int)} {f : Int → Int} (t : Tre n es) (inj : ∀ x y : Int, (0 ≤ x ∧ x < n) → (0 ≤ y ∧ y < n) → f x = f y → x = y) : (es.map (edN f)).Nodup := by
  refine List.pairwise_map.mpr (t.nd.imp_of_mem fun {p q} hp hq n e => n ?_)
  obtain ⟨a, b, c⟩ := t.lt p hp
  obtain ⟨a', b', c'⟩ := t.lt q hq
  have e1 := congrArg Prod.fst e
  have e2 := congrArg Prod.snd e
  unfold edN at e1 e2
  simp only at e1 e2
  have k : (f p.1 = f q.1 ∧ f p.2 = f q.2) ∨ (f p.1 = f q.2 ∧ f p.2 = f q.1) := by omega
  rcases k with ⟨k1, k2⟩ | ⟨k1, k2⟩
  · exact Prod.ext (inj _ _ (by omega) (by omega) k1) (inj _ _ (by omega) (by omega) k2)
  · have := inj _ _ (by omega) (by omega) k1
    have := inj _ _ (by omega) (by omega) k2
    omega
/-- a drawn tree, as ties_of takes it -/
structure Drawn (ever : Int) (liv fs : List Int) (rs : List (Int × Int)) : Prop where
  ex : ∃ D, Tr3 D ever liv (liv ++ fs) (nbR rs)
  sl : liv.Pairwise (· < ·)
  sf : fs.Pairwise (· < ·)
  ro : RowsOf (liv ++ fs) (nbR rs) rs
  ne : liv ≠ []
theorem Drawn.fo {ever : Int} {liv fs : List Int} {rs : List (Int × Int)} (d : Drawn ever liv fs rs) : FreeOf liv (liv ++ fs) fs := by
  obtain ⟨D, z⟩ := d.ex
  refine ⟨d.sf, fun x => ?_⟩
  have nd := List.nodup_append.mp z.nk
  rw [List.mem_append]
  exact ⟨fun h => ⟨.inr h, fun h2 => nd.2.2 x h2 x h rfl⟩, fun h => h.1.resolve_left h.2⟩

/-! ### sorted(a tuple of ints) -/
section
open PySem.Calls PyProof.Rows PySem.Spec PyProof
def rSortTu (K : PySem.W.Frag) : List V → Hp → VK → Prop := fun vs H Q => ∃ (a : Addr) (ns : List Int), vs = [.ref a] ∧ SqT K H a (ns.map V.int) ∧ ∀ (ms : List Int) (p : Addr), ms.Perm ns → ms.Pairwise (· ≤ ·) → Fr H p → Q (.ref p) (upd H p (.lst (ms.map V.int)))
theorem k_sortTu {X : Cx} {K : PySem.W.Frag} (h : X.K = K) : CallR X (.builtin "sorted") (rSortTu K) := by
  subst h
  intro pins s σ H vs us Q I r z
  obtain ⟨a, ns, e, hs, q⟩ := z
  subst e
  rw [Vals.ref1 r]
  obtain ⟨items, rv0, ⟨o, ho, hc, n, hd⟩, hz0⟩ := I.tuple hs
  rw [List.length_map] at hz0
  have hl0 : items.length = ns.length := by rw [← rv0.length, List.length_map]
  refine call_function_entry kind_sorted plain_sorted entry_sorted (args_sorted1 _) ?_
  unfold Builtin.«sorted»
  refine wpAny_bind (m := checkCount "sorted" 1 1 _) (wpAny_pure ?_)
  refine wpAny_bind (wpAny_collect_seq a (.inr rfl) ho hc hd (fun h' hk => ?_) (by rw [List.size_toArray]; omega))
  have I0 : Inv X pins σ H { s with heap := h' } := I.kept (t' := s.toks) hk
  have ei : items.toArray.toList = items := rfl
  rw [ei]
  refine wpAny_bind (wpAny_newList ?_ (by omega))
  obtain ⟨D, hD⟩ : ∃ D, D = h'.objs.size := ⟨_, rfl⟩
  have I3 : Inv X pins σ (upd H h'.objs.size (.lst (ns.map V.int))) { s with heap := h'.push { cls := .type "list", data := .seq items.toArray } } :=
    I0.lnew (its := items) (t' := s.toks) rv0 (by rw [List.length_map]; exact hz0)
  have fD : H h'.objs.size = none := I0.fresh
  rw [← hD] at I3 fD ⊢
  obtain ⟨zl, its, n2, rv, hob⟩ := I3.hok D _ upd_same
  have hi2 := rv.ints
  refine wpAny_bind (wpAny_holding (wpAny_call_entry PyProof.Rows.slot_list_sort ⟨_, hob, rfl⟩ PyProof.Rows.entry_list_sort
    (SrtO.list_sort_ord SrtO.swo_int hob (by rw [← rv.length]; exact zl) (fun h2 => SrtO.ints_sortable hi2 h2) fun out h1 h2 => ⟨.none, rfl, ?_⟩) (PyProof.Rows.args_list_sort _)))
  obtain ⟨k1, k2, k3⟩ := SrtO.ints_out hi2 h1 h2
  obtain ⟨ep2, he'⟩ := PyProof.Rows.sortedHeap_at (vs := its) (out := out.toArray) hob
  have hlen : ((out.map SrtO.iv).map V.int).length ≤ sizeLine := by
    rw [List.length_map, k2.length_eq]
    exact hz0
  have I4 := I3.write (x := D) (e := D) (o := .lst ((out.map SrtO.iv).map V.int)) (t' := s.toks) (by rw [upd_same]; trivial) (.inl rfl) (fun b u hb hu => by
    rw [PyProof.Rows.sortedHeap_old hb (Heap.lt_size hu)]; exact hu) ⟨_, he'⟩ ⟨hlen, out, ep2, vals_of_ints k1, he'⟩
  rw [upd_upd] at I4
  exact wpAny_pure ⟨_, rfl, .ref D, _, I4, rfl, q _ _ k2 k3 ⟨fD⟩⟩
end

/-! ### cuts of a list -/
theorem cutV_upto {xs : List V} {n : Nat} : cutV xs none (some (n : Int)) = xs.take n := by
  unfold cutV
  rw [HT.sIx_none, HT.sIx_nat, List.drop_zero, Nat.sub_zero, List.take_eq_take_iff]
  omega
theorem cutV_on {xs : List V} {k : Nat} : cutV xs (some (k : Int)) none = xs.drop k := by
  unfold cutV
  rw [HT.sIx_none, HT.sIx_nat]
  by_cases c : k ≤ xs.length
  · rw [Nat.min_eq_left c]
    exact List.take_of_length_le (by rw [List.length_drop]; omega)
  · rw [Nat.min_eq_right (by omega), List.drop_length, List.drop_of_length_le (by omega)]
    simp
theorem cutV_but {xs : List V} {x : V} : cutV (xs ++ [x]) none (some (-1)) = xs := by
  unfold cutV
  rw [HT.sIx_none]
  have e : HT.sIx (xs ++ [x]).length (xs ++ [x]).length (some (-1)) = xs.length := by
    show (if (-1 : Int) < 0 then ((-1 : Int) + ((xs ++ [x]).length : Int)).toNat else min (-1 : Int).toNat (xs ++ [x]).length) = xs.length
    rw [if_pos (by decide), List.length_append, List.length_singleton]
    omega
  rw [e, List.drop_zero, Nat.sub_zero, List.take_left']
  rfl

theorem k_tupOf {X : Cx} {K : PySem.W.Frag} (h : X.K = K) : CallR X (.type "tuple") (fun xs H Q => ∃ p ys, xs = [.ref p] ∧ ((SqL K H p ys ∧ ∀ l, H l = none → Q (.ref l) (upd H l (.tup ys))) ∨ (SqT K H p ys ∧ Q (.ref p) H))) := h ▸ call_tuple_of
theorem srt2 {ms : List Int} {a b : Int} (p : ms.Perm [a, b]) (s : ms.Pairwise (· ≤ ·)) : ms = [min a b, max a b] := by
  have l := p.length_eq
  match ms, l with
  | [x, y], _ =>
    have xy : x ≤ y := (List.pairwise_cons.mp s).1 y (List.mem_singleton.mpr rfl)
    have hx : x = a ∨ x = b := by simpa using p.subset (List.mem_cons_self)
    rcases hx with rfl | rfl
    · have e : y = b := by simpa using (List.perm_cons x).mp p
      subst e
      rw [Int.min_eq_left xy, Int.max_eq_right xy]
    · have e : y = a := by simpa using (List.perm_cons x).mp (p.trans (List.Perm.swap x a []))
      subst e
      rw [Int.min_eq_right xy, Int.max_eq_left xy]
/-- the edges of a drawn tree: k to the one behind it -/
def esB (bs : List Int) : Nat → List (Int × Int)
  | 0 => []
  | m + 1 => esB bs m ++ [(bs.getD (m + 1) 0, ((m + 1 : Nat) : Int))]
theorem esB_len (bs : List Int) : ∀ m, (esB bs m).length = m
  | 0 => rfl
  | m + 1 => by
    show (esB bs m ++ [_]).length = _
    rw [List.length_append, List.length_singleton, esB_len bs m]
theorem esB_tre {bs : List Int} {n : Nat} (h : ∀ k : Nat, 1 ≤ k → k < n → 0 ≤ bs.getD k 0 ∧ bs.getD k 0 < k) : ∀ m : Nat, m < n → Tre (m + 1) (esB bs m)
  | 0, _ => Tre.one
  | m + 1, hm => by
    have ih := esB_tre h m (by omega)
    have hk := h (m + 1) (by omega) hm
    exact ih.more hk
def sp_tree51 (K : PySem.W.Frag) : Sp := fun vs H Q _ => ∃ (p : Addr) (most : Int), vs = [.ref p, .int most] ∧ PotAt H p ∧ (1 ≤ most ∧ most ≤ 30) ∧
  ∀ R L F W ever liv fs rs H', PotAt H' p → Kp [p] H H' → H' R = some (.tup [.int ever, .ref L, .ref F, .ref W]) → H' L = some (.lst (liv.map V.int)) → H' F = some (.lst (fs.map V.int)) → LD K H' W (rs.map d2) → Fr H R → Fr H L → Fr H F → Fr H W →
    Drawn ever liv fs rs → liv.length ≤ 12 → (liv.length + fs.length : Int) ≤ most → ever ≤ most + 2 → Q (.ref R) H'
theorem sc_law_tree : FnScope ["_law_pot_here", "_law_most", "_law_many", "_law_back", "_law_bare", "_law_k", "_law_way", "_law_pool", "_law_labels", "_law_ever", "_law_size", "_law_rows", "_law_free", "_law_living", "_law_row", "_law_label"] ["_law_pot_here", "_law_most"] (defScope s_law_tree) :=
  ⟨rfl, rfl, rfl, by decide +kernel, rfl, by decide +kernel, by decide +kernel⟩
theorem ok_law_tree {P : Program} {w : World} {K : PySem.W.Frag} {mg : Str → Option Value} {base : Heap} (T : Txt K mg) :
    FnG P w K mg base 2 T.a_law_tree T.d_law_tree ["_law_pot_here", "_law_most"] (sp_tree51 K) := by
  refine okD T.F_law_tree sc_law_tree (fun vs H Q E h => ?_) (fun cdv A outer s H vs Q E hr h => ?_)
  · first
      | (obtain ⟨_, rfl, _⟩ := h; rfl)
      | (obtain ⟨_, _, rfl, _⟩ := h; rfl)
      | (obtain ⟨_, _, _, rfl, _⟩ := h; rfl)
      | (obtain ⟨_, _, _, _, rfl, _⟩ := h; rfl)
      | (obtain ⟨_, _, _, _, _, rfl, _⟩ := h; rfl)
      | (obtain ⟨_, _, _, _, _, _, rfl, _⟩ := h; rfl)
      | (obtain ⟨_, _, _, _, _, _, _, rfl, _⟩ := h; rfl)
      | (obtain ⟨_, _, _, _, _, _, _, _, rfl, _⟩ := h; rfl)
      | (obtain ⟨_, _, _, _, _, _, _, _, _, rfl, _⟩ := h; rfl)
      | (obtain ⟨_, _, _, _, _, _, _, _, _, _, rfl, _⟩ := h; rfl)
      | (obtain ⟨_, _, _, _, _, _, _, _, _, _, _, rfl, _⟩ := h; rfl)
      | (obtain ⟨_, _, _, _, _, _, _, _, _, _, _, _, rfl, _⟩ := h; rfl)
      | (obtain ⟨_, _, _, _, _, _, _, _, _, _, _, _, _, rfl, _⟩ := h; rfl)
      | (obtain ⟨_, _, _, _, _, _, _, _, _, _, _, _, _, _, rfl, _⟩ := h; rfl)
      | (obtain ⟨_, _, _, _, _, _, _, _, _, _, _, _, _, _, _, rfl, _⟩ := h; rfl)
      | (obtain ⟨_, _, _, _, _, _, _, _, _, _, _, _, _, _, _, _, rfl, _⟩ := h; rfl)
      | (obtain ⟨_, _, _, _, _, _, _, _, _, _, _, _, _, _, _, _, _, rfl, _⟩ := h; rfl)
      | (obtain ⟨_, _, _, _, _, _, _, _, _, _, _, _, _, _, _, _, _, _, rfl, _⟩ := h; rfl)
      | (obtain ⟨_, _, _, _, _, _, _, _, _, _, _, _, _, _, _, _, _, _, _, rfl, _⟩ := h; rfl)
  · obtain ⟨p, most, rfl, hp, ⟨m1, m2⟩, k⟩ := h
    have cl_Ties := T.cl_Ties
    have na_Ties_near := T.na_Ties_near
    have na_Ties_own_ever := T.na_Ties_own_ever
    have na_Ties_own_living := T.na_Ties_own_living
    refine ⟨_, (pss_cons (ps_set (i := 2) sc_law_tree.nd rfl (Or.inl rfl) (pe_op (k_add (K := K) rfl) pe_int (d1 (ok_law_draw T) (hr.mono (by decide)) (by rfl) T.m_law_draw T.F_law_draw.kp T.b_law_draw passL (pa_cons (pv 0) (pa_cons (pv 1) pa_nil)))))
      (pss_cons (ps_asg (pe_tup (pa_cons (pe_lst (pa_cons pe_int pa_nil)) (pa_cons (pe_lst pa_nil) pa_nil))) (k_gtup (K := K) 2 rfl rfl (pgs_cons (pg_name (i := 3) sc_law_tree.nd rfl (Or.inr rfl)) (pgs_cons (pg_name (i := 4) sc_law_tree.nd rfl (Or.inr rfl)) pgs_nil))))
      (pss_cons (ps_for (passes_of rfl) rfl (pi_range2 (by rfl) T.n_range (pa_cons pe_int (pa_cons (pv 2) pa_nil))) (pg_name (i := 5) sc_law_tree.nd rfl (Or.inl rfl))
      (pss_cons (ps_set (i := 6) sc_law_tree.nd rfl (Or.inl rfl) (d1 (ok_law_draw T) (hr.mono (by decide)) (by rfl) T.m_law_draw T.F_law_draw.kp T.b_law_draw passL (pa_cons (pv 0) (pa_cons pe_int pa_nil))))
      (pss_one (ps_expr (pe_bm PySem.F.plainAttrs_list PySem.F.slot_list_append PySem.F.type_list_append mt_append (pv 3) (pa_cons (pe_ix (k_ix (K := K) rfl) (pe_lst (pa_cons (pe_op op_sub (pv 5) pe_int) (pa_cons pe_int (pa_cons (d1 (ok_law_draw T) (hr.mono (by decide)) (by rfl) T.m_law_draw T.F_law_draw.kp T.b_law_draw passL (pa_cons (pv 0) (pa_cons (pv 5) pa_nil))) (pa_cons (pe_op o_div (pv 5) pe_int) pa_nil))))) (pv 6) (fun _ _ => rfl)) pa_nil))))))
      (pss_cons (ps_asg (pe_tup (pa_cons (pe_listRg rfl (by rfl) T.n_list (prg_1 (by rfl) T.n_range (pe_op (k_add (K := K) rfl) (pv 2) (d1 (ok_law_draw T) (hr.mono (by decide)) (by rfl) T.m_law_draw T.F_law_draw.kp T.b_law_draw passL (pa_cons (pv 0) (pa_cons pe_int pa_nil)))))) (pa_cons (pe_lst pa_nil) pa_nil))) (k_gtup (K := K) 2 rfl rfl (pgs_cons (pg_name (i := 7) sc_law_tree.nd rfl (Or.inl rfl)) (pgs_cons (pg_name (i := 8) sc_law_tree.nd rfl (Or.inr rfl)) pgs_nil))))
      (pss_cons (ps_set (i := 9) sc_law_tree.nd rfl (Or.inl rfl) (pe_callB (k_len (K := K) rfl) (by rfl) T.n_len (by decide +kernel) (pa_cons (pv 7) pa_nil)))
      (pss_cons (ps_for (passes_of rfl) rfl (pi_range1 (by rfl) T.n_range (pa_cons (pv 2) pa_nil)) (pg_name (i := 5) sc_law_tree.nd rfl (Or.inl rfl))
      (pss_cons (ps_expr (pe_bm PySem.F.plainAttrs_list PySem.F.slot_list_append PySem.F.type_list_append mt_append (pv 8) (pa_cons (pe_bm PySem.F.plainAttrs_list PySem.F.slot_list_pop PySem.F.type_list_pop mt_popAt (pv 7) (pa_cons (d1 (ok_law_draw T) (hr.mono (by decide)) (by rfl) T.m_law_draw T.F_law_draw.kp T.b_law_draw passL (pa_cons (pv 0) (pa_cons (pe_callB (k_len (K := K) rfl) (by rfl) T.n_len (by decide +kernel) (pa_cons (pv 7) pa_nil)) pa_nil))) pa_nil)) pa_nil)))
      (pss_one (ps_expr (pe_bm PySem.F.plainAttrs_list PySem.F.slot_list_append PySem.F.type_list_append mt_append (pv 4) (pa_cons (pe_cmpR op_gt (d1 (ok_law_draw T) (hr.mono (by decide)) (by rfl) T.m_law_draw T.F_law_draw.kp T.b_law_draw passL (pa_cons (pv 0) (pa_cons pe_int pa_nil))) pe_int (nomark _)) pa_nil))))))
      (pss_cons (ps_for (passes_of rfl) rfl (pi_range3 (by rfl) T.n_range (pa_cons (pv 2) (pa_cons pe_int (pa_cons (pe_un un_neg pe_int) pa_nil)))) (pg_name (i := 10) sc_law_tree.nd rfl (Or.inl rfl))
      (pss_cons (ps_set (i := 11) sc_law_tree.nd rfl (Or.inr rfl) (pe_callB (k_sortedP (K := K) rfl) (by rfl) T.n_sorted (by decide +kernel) (pa_cons (pe_lc (own := [("_law_k", 5)]) (g := (gName 5)) (tt := tYes) rfl sc_law_tree.nd (pi_range2 (by rfl) T.n_range (pa_cons pe_int (pa_cons (pv 10) pa_nil))) (blkOk_by (own := [("_law_k", 5)]) (N := ["_law_pot_here", "_law_most", "_law_many", "_law_back", "_law_bare", "_law_k", "_law_way", "_law_pool", "_law_labels", "_law_ever", "_law_size", "_law_rows", "_law_free", "_law_living", "_law_row", "_law_label"]) (sc := defScope s_law_tree) (by decide +kernel)) (fun _ _ _ _ _ => (pg_name (i := 5) sc_law_tree.nd rfl (Or.inl rfl))) (fun _ _ _ _ _ => pts_nil) (fun _ _ _ _ _ => (pe_callTy (k_tupOf (K := K) rfl) (by rfl) T.n_tuple (by decide +kernel) (pa_cons (pe_callB (k_sortTu (K := K) rfl) (by rfl) T.n_sorted (by decide +kernel) (pa_cons (pe_tup (pa_cons (pe_ix (k_ix (K := K) rfl) (pv 8) (pv 5) (fun _ _ => rfl)) (pa_cons (pe_ix (k_ix (K := K) rfl) (pv 8) (pe_ix (k_ix (K := K) rfl) (pv 3) (pv 5) (fun _ _ => rfl)) (fun _ _ => rfl)) pa_nil))) pa_nil)) pa_nil)))) pa_nil)))
      (pss_cons (ps_set (i := 12) sc_law_tree.nd rfl (Or.inr rfl) (pe_lc (own := [("_law_k", 5)]) (g := (gName 5)) rfl sc_law_tree.nd (pi_range1 (by rfl) T.n_range (pa_cons (pv 10) pa_nil)) (blkOk_by (own := [("_law_k", 5)]) (N := ["_law_pot_here", "_law_most", "_law_many", "_law_back", "_law_bare", "_law_k", "_law_way", "_law_pool", "_law_labels", "_law_ever", "_law_size", "_law_rows", "_law_free", "_law_living", "_law_row", "_law_label"]) (sc := defScope s_law_tree) (by decide +kernel)) (fun _ _ _ _ _ => (pg_name (i := 5) sc_law_tree.nd rfl (Or.inr rfl))) (fun _ _ _ _ _ => (pts_one (PW.pt (pw_and (pt_val (pe_ix (k_ix (K := K) rfl) (pv 4) (pv 5) (fun _ _ => rfl))) (pw_and1 (pt_cmpR op_gt (pe_callB (k_len (K := K) rfl) (by rfl) T.n_len (by decide +kernel) (pa_cons (pe_lc (own := [("_law_row", 14)]) (g := (gName 14)) rfl sc_law_tree.nd (k_plist (K := K) rfl (pv 11)) (blkOk_by (own := [("_law_row", 14)]) (N := ["_law_pot_here", "_law_most", "_law_many", "_law_back", "_law_bare", "_law_k", "_law_way", "_law_pool", "_law_labels", "_law_ever", "_law_size", "_law_rows", "_law_free", "_law_living", "_law_row", "_law_label"]) (by rfl)) (fun _ _ _ _ _ => (pg_name (i := 14) sc_law_tree.nd rfl (Or.inl rfl))) (fun _ _ _ _ _ => (pts_one (pt_cmpR (k_in (K := K) rfl) (pe_ix (k_ix (K := K) rfl) (pv 8) (pv 5) (fun _ _ => rfl)) (pv 14) (rfl)))) (fun _ _ _ _ _ => (pv 14))) pa_nil)) pe_int (nomark _))))))) (fun _ _ _ _ _ => (pe_ix (k_ix (K := K) rfl) (pv 8) (pv 5) (fun _ _ => rfl)))))
      (pss_cons (ps_set (i := 13) sc_law_tree.nd rfl (Or.inl rfl) (pe_callB (k_sorted (K := K) rfl) (by rfl) T.n_sorted (by decide +kernel) (pa_cons (pe_lc (own := [("_law_label", 15)]) (g := (gName 15)) rfl sc_law_tree.nd (k_plist (K := K) rfl (pe_slice (k_sl (K := K) rfl) (pv 8) po_none (po_some (pv 10)))) (blkOk_by (own := [("_law_label", 15)]) (N := ["_law_pot_here", "_law_most", "_law_many", "_law_back", "_law_bare", "_law_k", "_law_way", "_law_pool", "_law_labels", "_law_ever", "_law_size", "_law_rows", "_law_free", "_law_living", "_law_row", "_law_label"]) (sc := defScope s_law_tree) (by decide +kernel)) (fun _ _ _ _ _ => (pg_name (i := 15) sc_law_tree.nd rfl (Or.inl rfl))) (fun _ _ _ _ _ => (pts_one (pt_cmpR (k_nin (K := K) rfl) (pv 15) (pv 12) (rfl)))) (fun _ _ _ _ _ => (pv 15))) pa_nil)))
      (pss_one (ps_if (pt_cmpR op_lt (pe_callB (k_len (K := K) rfl) (by rfl) T.n_len (by decide +kernel) (pa_cons (pv 13) pa_nil)) pe_int (nomark _)) (pss_one (ps_ret (pe_tup (pa_cons (pv 9) (pa_cons (pv 13) (pa_cons (pe_callB (k_sorted (K := K) rfl) (by rfl) T.n_sorted (by decide +kernel) (pa_cons (pv 12) pa_nil)) (pa_cons (pv 11) pa_nil))))))) pss_nil))))))
      (pss_one (ps_ret (pe_tup (pa_cons (pv 9) (pa_cons (pe_slice (k_sl (K := K) rfl) (pv 8) po_none (po_some pe_int)) (pa_cons (pe_lst pa_nil) (pa_cons (pe_lst pa_nil) pa_nil)))))))))))))), ?_⟩
    dsimp only [cxOf, st_1, st_2, st_3, st_4, st_5, st_6, List.length_cons, List.length_nil, List.replicate_succ, List.replicate_zero, Nat.reduceAdd, Nat.reduceSub]
    walk_at "gs"
    refine use_draw hp (by omega) (by omega) (fun r H1 r0 r1 hp1 k1 => ?_)
    have hp0 := hp1
    obtain ⟨r, rfl⟩ := Int.eq_ofNat_of_zero_le r0
    walk_at "gs"
    refine i_new fun Bk fBk => ?_
    have kA := Kp.new (ws := []) (o := HO.lst [V.int 0]) fBk
    have hBk := fresh_at (o := HO.lst [V.int 0]) fBk
    walk_at "gs"
    refine i_new fun Br fBr => ?_
    have kB := Kp.new (ws := []) (o := HO.lst []) fBr
    have hBr := fresh_at (o := HO.lst []) fBr
    have nBB : Bk ≠ Br := fr_ne hBk fBr
    walk_at "gs"
    refine i_new fun T0 fT0 => ?_
    have kC := Kp.new (ws := []) (o := HO.tup [V.ref Bk, V.ref Br]) fT0
    have hT0 := fresh_at (o := HO.tup [V.ref Bk, V.ref Br]) fT0
    have k0 := Kp.trans kA (Kp.trans kB kC)
    have hBk0 := (Kp.trans kB kC).at_ _ _ hBk not_nil
    have hBr0 := kC.at_ _ _ hBr not_nil
    have npBk : Bk ≠ p := Ne.symm (hp1.ne fBk)
    have npBr : Br ≠ p := Ne.symm ((hp1.kp kA not_nil).ne fBr)
    have fBr1 := kA.free fBr
    have hp2 := hp1.kp k0 not_nil
    obtain ⟨H2, e2⟩ : ∃ H2, H2 = upd (upd (upd H1 Bk (.lst [V.int 0])) Br (.lst [])) T0 (.tup [V.ref Bk, V.ref Br]) := ⟨_, rfl⟩
    rw [← e2] at k0 hT0 hBk0 hBr0 hp2 ⊢
    walk_at "gs"
    refine i_turns2 (by decide) (by decide) (by omega) (by omega) (fun i σ H' => ∃ (o5 o6 : Option V) (bs : List Int), σ = [some (.ref p), some (.int most), some (.int (1 + (r : Nat))), some (.ref Bk), some (.ref Br), o5, o6, none, none, none, none, none, none, none, none, none] ∧
      PotAt H' p ∧ Kp [p, Bk] H2 H' ∧ H' Bk = some (.lst (bs.map V.int)) ∧ bs.length = i + 1 ∧ ∀ k : Nat, 1 ≤ k → k < i + 1 → 0 ≤ bs.getD k 0 ∧ bs.getD k 0 < k) ?_ ?_ ?_
    · exact ⟨_, _, [0], rfl, hp2, Kp.refl, hBk0, rfl, fun k h1 h2 => by omega⟩
    · rintro i σ H3 hi ⟨o5, o6, bs, rfl, hp3, k3, hB3, lb, hb⟩
      walk_at "gs"
      refine use_draw hp3 (by omega) (by omega) (fun wy H4 w0 w1 hp4 k4 => ?_)
      walk_at "gs"
      refine use_draw hp4 (by omega) (by omega) (fun d H5 d0 d1 hp5 k5 => ?_)
      walk_at "gs"
      refine i_new fun Z fZ => ?_
      have kZ := Kp.new (ws := []) (o := HO.lst [V.int (1 + (i : Int) - 1), V.int 0, V.int d, V.int ((1 + (i : Int)) / 2)]) fZ
      have hZ := fresh_at (o := HO.lst [V.int (1 + (i : Int) - 1), V.int 0, V.int d, V.int ((1 + (i : Int)) / 2)]) fZ
      have hsZ := SqL.of (K := K) hZ
      have hB5 := (Kp.trans k4 k5).at_ _ _ hB3 (not_one npBk)
      have hB6 := kZ.at_ _ _ hB5 not_nil
      have hp6 := hp5.kp kZ not_nil
      have k36 := Kp.trans (Kp.trans k4 k5) (kZ.wide (ws := [p]))
      obtain ⟨H6, e6⟩ : ∃ H6, H6 = upd H5 Z (.lst [V.int (1 + (i : Int) - 1), V.int 0, V.int d, V.int ((1 + (i : Int)) / 2)]) := ⟨_, rfl⟩
      rw [← e6] at hsZ hB6 hp6 k36 ⊢
      obtain ⟨v, v0, v1, hat⟩ : ∃ v : Int, 0 ≤ v ∧ v < 1 + (i : Int) ∧ atI [V.int (1 + (i : Int) - 1), V.int 0, V.int d, V.int ((1 + (i : Int)) / 2)] wy = some (.int v) := by
        obtain ⟨b', rfl⟩ := Int.eq_ofNat_of_zero_le w0
        have e : b' = 0 ∨ b' = 1 ∨ b' = 2 ∨ b' = 3 := by omega
        rcases e with rfl | rfl | rfl | rfl
        · exact ⟨_, by omega, by omega, rfl⟩
        · exact ⟨0, by omega, by omega, rfl⟩
        · exact ⟨d, d0, d1, rfl⟩
        · exact ⟨_, by omega, by omega, rfl⟩
      walk_at "gs"
      refine i_app hB6 (small_sz (by rw [List.length_map]; omega)) ?_
      rw [snoc_int']
      have kS : Kp [Bk] H6 (upd H6 Bk (.lst ((bs ++ [v]).map V.int))) := kp_set hB6 (fun z => z)
      refine ⟨_, _, bs ++ [v], rfl, hp6.kp kS (not_one (Ne.symm npBk)), Kp.trans k3 (Kp.trans (k36.mono fun b hb => by rw [List.mem_singleton.mp hb]; simp) (kS.mono fun b hb => by rw [List.mem_singleton.mp hb]; simp)), upd_same, by rw [List.length_append, List.length_singleton]; omega, fun k h1 h2 => ?_⟩
      by_cases c : k < i + 1
      · have h3 := hb k h1 c
        rw [List.getD_eq_getElem?_getD, List.getElem?_append_left (by omega), ← List.getD_eq_getElem?_getD]
        exact h3
      · have ek : k = bs.length := by omega
        rw [List.getD_eq_getElem?_getD, List.getElem?_append_right (by omega), ek, Nat.sub_self]
        show 0 ≤ v ∧ v < (bs.length : Int)
        omega
    rintro σ H3 ⟨o5, o6, bs, rfl, hp3, k3, hB3, lb, hb⟩
    rw [show (1 + (r : Int) - 1).toNat = r by omega] at lb hb
    obtain ⟨n, en⟩ : ∃ n : Nat, n = r + 1 := ⟨_, rfl⟩
    rw [← en] at lb hb
    have en2 : (1 + (r : Nat) : Int) = (n : Nat) := by omega
    rw [en2]
    have n1 : 1 ≤ n := by omega
    have nm : (n : Int) ≤ most := by omega
    have hBr3 := k3.at_ _ _ hBr0 (not_two npBr (Ne.symm nBB))
    walk_at "gs"
    refine i_listRg ?_
    refine i_rg1 ?_
    walk_at "gs"
    refine use_draw hp3 (by decide) (by decide) (fun x H4 x0 x1 hp4 k4 => ?_)
    obtain ⟨x, rfl⟩ := Int.eq_ofNat_of_zero_le x0
    walk_at "gs"
    refine ⟨RgOk.of_le (by omega) (by omega) (by omega) (by omega), i_new fun N fN => ?_⟩
    rw [rg_upto _ (by omega), show ((n : Int) + (x : Nat)).toNat = n + x by omega]
    have kN := Kp.new (ws := []) (o := HO.lst ((upto (n + x)).map V.int)) fN
    have hN := fresh_at (o := HO.lst ((upto (n + x)).map V.int)) fN
    obtain ⟨H5, e5⟩ : ∃ H5, H5 = upd H4 N (.lst ((upto (n + x)).map V.int)) := ⟨_, rfl⟩
    rw [← e5] at hN kN ⊢
    walk_at "gs"
    refine i_new fun Lb fLb => ?_
    have kL := Kp.new (ws := []) (o := HO.lst []) fLb
    have hLb := fresh_at (o := HO.lst []) fLb
    walk_at "gs"
    refine i_new fun T1 fT1 => ?_
    have kT := Kp.new (ws := []) (o := HO.tup [V.ref N, V.ref Lb]) fT1
    have hT1 := fresh_at (o := HO.tup [V.ref N, V.ref Lb]) fT1
    have hLb6 := kT.at_ _ _ hLb not_nil
    have k46 := Kp.trans kN (Kp.trans kL kT)
    have hN6 := (Kp.trans kL kT).at_ _ _ hN not_nil
    have nNL : N ≠ Lb := fr_ne hN fLb
    have npN : N ≠ p := Ne.symm (hp4.ne fN)
    have npL : Lb ≠ p := Ne.symm ((hp4.kp kN not_nil).ne fLb)
    have hBr4 := k4.at_ _ _ hBr3 (not_one npBr)
    have hB4 := k4.at_ _ _ hB3 (not_one npBk)
    have nBrN : Br ≠ N := fr_ne hBr4 fN
    have nBrL : Br ≠ Lb := fr_ne (kN.at_ _ _ hBr4 not_nil) fLb
    have nBkN : Bk ≠ N := fr_ne hB4 fN
    have nBkL : Bk ≠ Lb := fr_ne (kN.at_ _ _ hB4 not_nil) fLb
    have hBr6 := k46.at_ _ _ hBr4 not_nil
    have hB6 := k46.at_ _ _ hB4 not_nil
    have hp6 := hp4.kp k46 not_nil
    have fN4 := fN
    have fL4 : Fr H4 Lb := kN.free fLb
    obtain ⟨H6, e6⟩ : ∃ H6, H6 = upd (upd H5 Lb (.lst [])) T1 (.tup [V.ref N, V.ref Lb]) := ⟨_, rfl⟩
    rw [← e6] at hT1 hLb6 k46 hN6 hBr6 hB6 hp6 ⊢
    walk_at "gs"
    rw [List.length_map, upto_len]
    have ni4 : ∀ {c}, c ≠ p → c ≠ Lb → c ≠ N → c ≠ Br → c ∉ [p, Lb, N, Br] := fun {c} a b d f z => by
      simp only [List.mem_cons, List.not_mem_nil, or_false] at z
      rcases z with z | z | z | z
      · exact a z
      · exact b z
      · exact d z
      · exact f z
    refine i_turns (by omega) (by omega) (fun i σ H' => ∃ (o5 : Option V) (ls nms : List Int) (bo : List Bool), σ = [some (.ref p), some (.int most), some (.int (n : Nat)), some (.ref Bk), some (.ref Br), o5, o6, some (.ref N), some (.ref Lb), some (.int (n + x : Nat)), none, none, none, none, none, none] ∧
      PotAt H' p ∧ Kp [p, Lb, N, Br] H6 H' ∧ H' Lb = some (.lst (ls.map V.int)) ∧ H' N = some (.lst (nms.map V.int)) ∧ H' Br = some (.lst (bo.map V.bl)) ∧ (ls ++ nms).Perm (upto (n + x)) ∧ ls.length = i ∧ bo.length = i) ?_ ?_ ?_
    · exact ⟨_, [], upto (n + x), [], rfl, hp6, Kp.refl, hLb6, hN6, hBr6, .refl _, rfl, rfl⟩
    · rintro i σ H7 hi ⟨o5, ls, nms, bo, rfl, hp7, k7, hL7, hN7, hR7, pm, ll, lbo⟩
      have lpm := pm.length_eq
      rw [List.length_append, upto_len] at lpm
      have hsN7 : SqL K H7 N (nms.map V.int) := SqL.of hN7
      walk_at "gs"
      refine use_draw hp7 (by rw [List.length_map]; omega) (by rw [List.length_map]; omega) (fun j H8 j0 j1 hp8 k8 => ?_)
      rw [List.length_map] at j1
      obtain ⟨j, rfl⟩ := Int.eq_ofNat_of_zero_le j0
      have hN8 := k8.at_ _ _ hN7 (not_one npN)
      have hL8 := k8.at_ _ _ hL7 (not_one npL)
      have hR8 := k8.at_ _ _ hR7 (not_one npBr)
      have hj : j < nms.length := by omega
      walk_at "gs"
      refine i_popAt hN8 hj (by omega) ?_
      have kP : Kp [N] H8 (upd H8 N (.lst ((nms.eraseIdx j).map V.int))) := kp_set hN8 (fun z => z)
      have hL9 := kP.at_ _ _ hL8 (not_one (Ne.symm nNL))
      have hR9 := kP.at_ _ _ hR8 (not_one nBrN)
      have hN9 : (upd H8 N (.lst ((nms.eraseIdx j).map V.int))) N = some (.lst ((nms.eraseIdx j).map V.int)) := upd_same
      have hp9 := hp8.kp kP (not_one (Ne.symm npN))
      obtain ⟨H9, e9⟩ : ∃ H9, H9 = upd H8 N (.lst ((nms.eraseIdx j).map V.int)) := ⟨_, rfl⟩
      rw [← e9] at kP hL9 hR9 hN9 hp9 ⊢
      walk_at "gs"
      refine i_app hL9 (small_sz (by rw [List.length_map]; omega)) ?_
      rw [snoc_int']
      have kQ : Kp [Lb] H9 (upd H9 Lb (.lst ((ls ++ [nms[j]]).map V.int))) := kp_set hL9 (fun z => z)
      have hR10 := kQ.at_ _ _ hR9 (not_one nBrL)
      have hN10 := kQ.at_ _ _ hN9 (not_one nNL)
      have hL10 : (upd H9 Lb (.lst ((ls ++ [nms[j]]).map V.int))) Lb = some (.lst ((ls ++ [nms[j]]).map V.int)) := upd_same
      have hp10 := hp9.kp kQ (not_one (Ne.symm npL))
      obtain ⟨H10, e10⟩ : ∃ H10, H10 = upd H9 Lb (.lst ((ls ++ [nms[j]]).map V.int)) := ⟨_, rfl⟩
      rw [← e10] at kQ hR10 hN10 hL10 hp10 ⊢
      walk_at "gs"
      refine use_draw hp10 (by decide) (by decide) (fun y H11 y0 y1 hp11 k11 => ?_)
      have hN11 := k11.at_ _ _ hN10 (not_one npN)
      have hL11 := k11.at_ _ _ hL10 (not_one npL)
      have hR11 := k11.at_ _ _ hR10 (not_one npBr)
      walk_at "gs"
      refine i_app hR11 (small_sz (by rw [List.length_map]; omega)) ?_
      have kR : Kp [Br] H11 (upd H11 Br (.lst ((bo ++ [decide (0 < y)]).map V.bl))) := kp_set hR11 (fun z => z)
      rw [show bo.map V.bl ++ [V.bl (decide (0 < y))] = (bo ++ [decide (0 < y)]).map V.bl by rw [List.map_append]; rfl]
      have m1 : ∀ b ∈ [p], b ∈ [p, Lb, N, Br] := fun b hb => by rw [List.mem_singleton.mp hb]; simp
      have m2 : ∀ b ∈ [Lb], b ∈ [p, Lb, N, Br] := fun b hb => by rw [List.mem_singleton.mp hb]; simp
      have m3 : ∀ b ∈ [N], b ∈ [p, Lb, N, Br] := fun b hb => by rw [List.mem_singleton.mp hb]; simp
      have m4 : ∀ b ∈ [Br], b ∈ [p, Lb, N, Br] := fun b hb => by rw [List.mem_singleton.mp hb]; simp
      refine ⟨_, ls ++ [nms[j]], nms.eraseIdx j, bo ++ [decide (0 < y)], rfl, hp11.kp kR (not_one (Ne.symm npBr)), Kp.trans k7 (Kp.trans (k8.mono m1) (Kp.trans (kP.mono m3) (Kp.trans (kQ.mono m2) (Kp.trans (k11.mono m1) (kR.mono m4))))), kR.at_ _ _ hL11 (not_one (Ne.symm nBrL)), kR.at_ _ _ hN11 (not_one (Ne.symm nBrN)), upd_same, ?_, by rw [List.length_append, List.length_singleton]; omega, by rw [List.length_append, List.length_singleton]; omega⟩
      rw [List.append_assoc]
      exact ((erase_perm nms j hj).append_left ls).trans pm
    rintro σ H7 ⟨o5, ls, nms, bo, rfl, hp7, k7, hL7, hN7, hR7, pm, ll, lbo⟩
    rw [Int.toNat_natCast] at ll lbo
    have hB7 := k7.at_ _ _ hB6 (ni4 npBk nBkL nBkN nBB)
    obtain ⟨f, hf⟩ : ∃ f : Int → Int, ∀ x : Int, 0 ≤ x → x < n → ls[x.toNat]? = some (f x) :=
      ⟨fun x => ls[x.toNat]?.getD 0, fun x a b => by show ls[x.toNat]? = some (ls[x.toNat]?.getD 0); rw [List.getElem?_eq_getElem (show x.toNat < ls.length by omega)]; rfl⟩
    have ndO : ls.Nodup := (List.nodup_append.mp (pm.nodup_iff.mpr (upto_nd _))).1
    have inj : ∀ x y : Int, (0 ≤ x ∧ x < n) → (0 ≤ y ∧ y < n) → f x = f y → x = y := fun x y hx hy e => by
      have h1 := hf x hx.1 hx.2
      have h2 := hf y hy.1 hy.2
      rw [e, ← h2] at h1
      have := (List.getElem?_inj (show x.toNat < ls.length by omega) ndO).mp h1
      omega
    have fU : ∀ y : Int, 0 ≤ y → y < n → Un (n + x : Nat) (f y) := fun y a b => by
      have m1 := List.mem_of_getElem? (hf y a b)
      exact mem_upto.mp (pm.mem_iff.mp (List.mem_append.mpr (.inl m1)))
    have at_ : ∀ x : Int, 0 ≤ x → x < n → atI (ls.map V.int) x = some (.int (f x)) := fun x a b => by
      obtain ⟨x, rfl⟩ := Int.eq_ofNat_of_zero_le a
      exact atI_nat (by rw [List.getElem?_map]; have := hf x a b; rw [Int.toNat_natCast] at this; rw [this]; rfl)
    have atB : ∀ j : Nat, j < n → atI (bs.map V.int) (j : Int) = some (.int (bs.getD j 0)) := fun j h => atI_nat (by
      rw [List.getElem?_map, List.getD_eq_getElem?_getD, List.getElem?_eq_getElem (show j < bs.length by omega)]
      rfl)
    have atO : ∀ j : Nat, j < n → atI (bo.map V.bl) (j : Int) = some (.bl (bo.getD j false)) := fun j h => atI_nat (by
      rw [List.getElem?_map, List.getD_eq_getElem?_getD, List.getElem?_eq_getElem (show j < bo.length by omega)]
      rfl)
    walk_at "gs"
    refine i_turnsD (by omega) (by omega) (by decide) (by decide) (fun i σ H' => ∃ o5 o10 o11 o12 o13 o14 o15 : Option V, σ = [some (.ref p), some (.int most), some (.int (n : Nat)), some (.ref Bk), some (.ref Br), o5, o6, some (.ref N), some (.ref Lb), some (.int (n + x : Nat)), o10, o11, o12, o13, o14, o15] ∧ Kp [] H7 H' ∧ i < n) ?_ ?_ ?_
    · exact ⟨_, _, _, _, _, _, _, rfl, Kp.refl, n1⟩
    rotate_left
    · rintro σ H8 ⟨_, _, _, _, _, _, _, _, _, h⟩
      omega
    rintro i σ H8 hi ⟨o5, o10, o11, o12, o13, o14, o15, rfl, k8, hin⟩
    obtain ⟨m, em⟩ : ∃ m : Nat, m + 1 = n - i := ⟨n - i - 1, by omega⟩
    have es : (n : Int) - (i : Nat) = ((m + 1 : Nat) : Int) := by omega
    rw [es]
    have hB8 := k8.at_ _ _ hB7 not_nil
    have hL8 := k8.at_ _ _ hL7 not_nil
    have hR8 := k8.at_ _ _ hR7 not_nil
    have tre := esB_tre hb m (by omega)
    have elen := esB_len bs m
    walk_at "gs"
    refine i_reps2 (by decide) (by decide) (by omega) (by omega) (fun D j H' => Kp [] H8 H' ∧ ∃ ys, H' D = some (.lst ys) ∧ ys.length = j ∧ PrsAt H' ys ((esB bs j).map (edN f))) ?_ ?_ ?_
    · intro D fD
      exact ⟨Kp.new fD, [], upd_same, rfl, trivial⟩
    · rintro D j H' fD hj ⟨kk, ys, hD, ly, py⟩
      have e1 : (1 : Int) + (j : Nat) = ((j + 1 : Nat) : Int) := by omega
      rw [e1]
      have aB := atB (j + 1) (by omega)
      have bb := hb (j + 1) (by omega) (by omega)
      have aL := at_ ((j + 1 : Nat) : Int) (by omega) (by omega)
      have aL2 := at_ (bs.getD (j + 1) 0) bb.1 (by omega)
      have hsB : SqL K H' Bk (bs.map V.int) := SqL.of (kk.at_ _ _ hB8 not_nil)
      have hsL : SqL K H' Lb (ls.map V.int) := SqL.of (kk.at_ _ _ hL8 not_nil)
      walk_at "gs"
      refine i_new fun TT fT => ?_
      obtain ⟨u, eu⟩ : ∃ u, u = f ((j + 1 : Nat) : Int) := ⟨_, rfl⟩
      obtain ⟨v, ev⟩ : ∃ v, v = f (bs.getD (j + 1) 0) := ⟨_, rfl⟩
      rw [← eu, ← ev]
      have kT := Kp.new (ws := []) (o := HO.tup [V.int u, V.int v]) fT
      have hTT := fresh_at (o := HO.tup [V.int u, V.int v]) fT
      obtain ⟨H5, e5⟩ : ∃ H5, H5 = upd H' TT (.tup [V.int u, V.int v]) := ⟨_, rfl⟩
      rw [← e5] at kT hTT ⊢
      walk_at "gs"
      refine ⟨TT, [u, v], rfl, SqT.of hTT, fun ms q pm pw fq => ?_⟩
      rw [srt2 pm pw]
      have kq := Kp.new (ws := []) (o := HO.lst ([min u v, max u v].map V.int)) fq
      have hq := fresh_at (o := HO.lst ([min u v, max u v].map V.int)) fq
      obtain ⟨H6, e6⟩ : ∃ H6, H6 = upd H5 q (.lst ([min u v, max u v].map V.int)) := ⟨_, rfl⟩
      rw [← e6] at kq hq ⊢
      walk_at "gs"
      refine ⟨q, _, rfl, .inl ⟨SqL.of hq, fun t ft => ?_⟩⟩
      have ft : Fr H6 t := ⟨ft⟩
      have kt := Kp.new (ws := []) (o := HO.tup ([min u v, max u v].map V.int)) ft
      have ht := fresh_at (o := HO.tup ([min u v, max u v].map V.int)) ft
      have k57 := Kp.trans kT (Kp.trans kq kt)
      obtain ⟨H7, e7⟩ : ∃ H7, H7 = upd H6 t (.tup ([min u v, max u v].map V.int)) := ⟨_, rfl⟩
      rw [← e7] at kt ht k57 ⊢
      have hD7 := k57.at_ _ _ hD not_nil
      have kD : Kp [D] H7 (upd H7 D (.lst (ys ++ [V.ref t]))) := kp_set hD7 (fun z => z)
      walk_at "gs"
      refine ⟨ys, hD7, small_sz (by omega), Kp.upd (Kp.trans kk k57) fD, ys ++ [.ref t], upd_same, by rw [List.length_append, List.length_singleton]; omega, ?_⟩
      have ee : (esB bs (j + 1)).map (edN f) = (esB bs j).map (edN f) ++ [edN f (bs.getD (j + 1) 0, ((j + 1 : Nat) : Int))] := by
        show (esB bs j ++ [_]).map (edN f) = _
        rw [List.map_append]
        rfl
      rw [ee]
      have hU : (upd H7 D (.lst (ys ++ [V.ref t]))) t = some (.tup [.int (edN f (bs.getD (j + 1) 0, ((j + 1 : Nat) : Int))).1, .int (edN f (bs.getD (j + 1) 0, ((j + 1 : Nat) : Int))).2]) := by
        have h1 := kD.fix _ _ ht trivial
        rw [h1]
        unfold edN
        rw [← eu, ← ev, Int.min_comm v u, Int.max_comm v u]
        rfl
      exact PrsAt.snoc hU ((py.kp k57).kp kD)
    rintro Y H9 fY ⟨k9, ys, hY, ly, py⟩
    rw [show (((m + 1 : Nat) : Int) - 1).toNat = m by omega] at ly py
    walk_at "gs"
    refine i_sortedP hY py (tre.nd_named fun x y hx hy => inj x y (by omega) (by omega)) fun rs W H10 fW k10 ld10 prs srt => ?_
    have k810 := Kp.trans k9 k10
    obtain ⟨vsW, hvW, avW⟩ := id ld10
    have lW := dpa_len avW
    rw [List.length_map] at lW
    have lrs := prs.length_eq
    rw [List.length_map, elen] at lrs
    have hR10 := k810.at_ _ _ hR8 not_nil
    have hL10 := k810.at_ _ _ hL8 not_nil
    walk_at "gs"
    refine i_reps (by omega) (by omega) (fun D j H' => Kp [] H10 H' ∧ H' D = some (.lst ((((upto j).filter fun k => bo.getD k.toNat false && decide (3 ≤ (nbR (esB bs m) k).length)).map f).map V.int))) ?_ ?_ ?_
    · intro D fD
      exact ⟨Kp.new fD, upd_same⟩
    · rintro D j H' fD hj ⟨kk, hD⟩
      have aO := atO j (by omega)
      have aL := at_ (j : Int) (by omega) (by omega)
      have hsO : SqL K H' Br (bo.map V.bl) := SqL.of (kk.at_ _ _ hR10 not_nil)
      have hsL : SqL K H' Lb (ls.map V.int) := SqL.of (kk.at_ _ _ hL10 not_nil)
      have hsW : SqL K H' W vsW := SqL.of (kk.at_ _ _ hvW not_nil)
      have fstep : ∀ b : Bool, (bo.getD j false && decide (3 ≤ (nbR (esB bs m) (j : Int)).length)) = b → (((upto (j + 1)).filter fun k => bo.getD k.toNat false && decide (3 ≤ (nbR (esB bs m) k).length)).map f).map V.int = (((upto j).filter fun k => bo.getD k.toNat false && decide (3 ≤ (nbR (esB bs m) k).length)).map f).map V.int ++ (if b = true then [V.int (f (j : Int))] else []) := fun b e => by
        rw [upto_succ, List.filter_append, List.map_append, List.map_append]
        congr 1
        rw [List.filter_cons, Int.toNat_natCast, e, List.filter_nil]
        cases b with
        | true => rfl
        | false => rfl
      have lfil : ((upto j).filter fun k => bo.getD k.toNat false && decide (3 ≤ (nbR (esB bs m) k).length)).length ≤ j := by
        have h := List.length_filter_le (fun k => bo.getD k.toNat false && decide (3 ≤ (nbR (esB bs m) k).length)) (upto j)
        rw [upto_len] at h
        exact h
      have cnt : (rs.filter fun q => decide (f (j : Int) = q.1 ∨ f (j : Int) = q.2)).length = (nbR (esB bs m) (j : Int)).length := by
        rw [(prs.filter _).length_eq, ← nbR_count (u := f (j : Int)) (es := (esB bs m).map (edN f)) fun q hq => ?_, nbR_named (n := m + 1) (u := (j : Int)) ⟨by omega, by omega⟩ (fun x y hx hy => inj x y (by omega) (by omega)) tre.lt, List.length_map]
        obtain ⟨q0, hq0, rfl⟩ := List.mem_map.mp hq
        obtain ⟨q1, q2, q3⟩ := tre.lt q0 hq0
        unfold edN
        intro e
        have e : min (f q0.1) (f q0.2) = max (f q0.1) (f q0.2) := e
        have := inj q0.1 q0.2 (by omega) (by omega) (by omega)
        omega
      walk_at "gs"
      by_cases hbo : bo.getD j false = true
      · rw [if_pos hbo]
        walk_at "gs"
        refine i_elts hsW (fun R i2 H'' => Kp [] H' H'' ∧ ∃ zs, H'' R = some (.lst zs) ∧ zs.length = ((rs.take i2).filter fun q => decide (f (j : Int) = q.1 ∨ f (j : Int) = q.2)).length) ?_ ?_ ?_ ?_
        · intro R fR
          exact ⟨Kp.new fR, [], upd_same, rfl⟩
        · rintro R i2 H'' fR _ ⟨k2, _⟩
          exact k2.seqL not_nil hsW
        · rintro R i2 y H'' fR hy ⟨k2, zs, hR, lz⟩
          obtain ⟨dd, hdd, hdp⟩ := dpa_getV avW hy
          obtain ⟨q, hq, rfl⟩ := map_get hdd
          obtain ⟨T0, rfl, hT⟩ := dp_pair (dp_imm (Kp.trans kk k2) _ _ rfl hdp)
          have hst : SqT K H'' T0 ([q.1, q.2].map V.int) := hT
          have hsL2 : SqL K H'' Lb (ls.map V.int) := k2.seqL not_nil hsL
          have step := filter_step (f := fun q : Int × Int => decide (f (j : Int) = q.1 ∨ f (j : Int) = q.2)) hq
          have hil := (List.getElem?_eq_some_iff.mp hq).1
          have l1 := List.length_filter_le (fun q : Int × Int => decide (f (j : Int) = q.1 ∨ f (j : Int) = q.2)) (rs.take i2)
          have l2 : (rs.take i2).length ≤ rs.length := by rw [List.length_take]; omega
          walk_at "gs"
          refine i_inT hst ?_
          walk_at "gs"
          refine i_dec (fun c => ?_) (fun c => ?_)
          · have c2 : f (j : Int) = q.1 ∨ f (j : Int) = q.2 := by simpa using c
            walk_at "gs"
            refine ⟨_, hR, small_sz (by omega), Kp.upd k2 fR, _, upd_same, ?_⟩
            rw [step, if_pos (decide_eq_true c2), List.length_append, List.length_append, lz]
            rfl
          · have c2 : ¬ (f (j : Int) = q.1 ∨ f (j : Int) = q.2) := by simpa using c
            refine ⟨k2, zs, hR, ?_⟩
            rw [step, if_neg (by simpa using c2), List.append_nil]
            exact lz
        rintro R H'' fR ⟨k2, zs, hR, lz⟩
        rw [lW, List.take_length, cnt] at lz
        have hsR : SqL K H'' R zs := SqL.of hR
        have hsL2 : SqL K H'' Lb (ls.map V.int) := k2.seqL not_nil hsL
        have hD2 := k2.at_ _ _ hD not_nil
        walk_at "gs"
        rw [lz]
        refine i_dec (fun c => ?_) (fun c => ?_)
        · walk_at "gs"
          refine ⟨_, hD2, small_sz (by rw [List.length_map, List.length_map]; omega), Kp.upd (Kp.trans kk k2) fD, ?_⟩
          rw [fstep true (by rw [hbo, decide_eq_true (by omega)]; rfl), if_pos rfl]
          exact upd_same
        · refine ⟨Kp.trans kk k2, ?_⟩
          rw [fstep false (by rw [hbo, decide_eq_false (by omega)]; rfl), if_neg Bool.false_ne_true, List.append_nil]
          exact hD2
      · rw [if_neg hbo]
        have hb2 : bo.getD j false = false := by
          cases h : bo.getD j false with
          | true => exact absurd h hbo
          | false => rfl
        refine ⟨kk, ?_⟩
        rw [fstep false (by rw [hb2]; rfl), if_neg Bool.false_ne_true, List.append_nil]
        exact hD
    rintro D H11 fD ⟨k11, hD⟩
    rw [Int.toNat_natCast] at hD
    obtain ⟨fr, efr⟩ : ∃ fr, fr = ((upto (m + 1)).filter fun k => bo.getD k.toNat false && decide (3 ≤ (nbR (esB bs m) k).length)).map f := ⟨_, rfl⟩
    rw [← efr] at hD
    have hL11 := k11.at_ _ _ hL10 not_nil
    have elst : ls.take (m + 1) = (upto (m + 1)).map f := by
      apply List.ext_getElem?
      intro j
      by_cases c : j < m + 1
      · rw [List.getElem?_take_of_lt c, List.getElem?_map]
        have h := hf (j : Int) (by omega) (by omega)
        rw [Int.toNat_natCast] at h
        rw [h]
        unfold upto
        rw [List.getElem?_map, List.getElem?_range c]
        rfl
      · rw [List.getElem?_eq_none (by rw [List.length_take]; omega), List.getElem?_eq_none (by rw [List.length_map, upto_len]; omega)]
    walk_at "gs"
    refine i_new fun Sl fSl => ?_
    rw [cutV_upto, ← List.map_take, elst]
    have kS := Kp.new (ws := []) (o := HO.lst (((upto (m + 1)).map f).map V.int)) fSl
    have hS := fresh_at (o := HO.lst (((upto (m + 1)).map f).map V.int)) fSl
    have hD12 := kS.at_ _ _ hD not_nil
    obtain ⟨H12, e12⟩ : ∃ H12, H12 = upd H11 Sl (.lst (((upto (m + 1)).map f).map V.int)) := ⟨_, rfl⟩
    rw [← e12] at kS hS hD12 ⊢
    refine i_elts (SqL.of hS) (fun R j H' => Kp [] H12 H' ∧ H' R = some (.lst (((((upto (m + 1)).map f).take j).filter fun u => decide (u ∉ fr)).map V.int))) ?_ ?_ ?_ ?_
    · intro R fR
      exact ⟨Kp.new fR, upd_same⟩
    · rintro R j H' fR _ ⟨kk, _⟩
      exact SqL.of (kk.at_ _ _ hS not_nil)
    · rintro R j y H' fR hy ⟨kk, hR⟩
      obtain ⟨u, hu, rfl⟩ := map_get hy
      have hsD : SqL K H' D (fr.map V.int) := SqL.of (kk.at_ _ _ hD12 not_nil)
      have step := filter_step (f := fun u => decide (u ∉ fr)) hu
      have hil := (List.getElem?_eq_some_iff.mp hu).1
      rw [List.length_map, upto_len] at hil
      have l1 := List.length_filter_le (fun u => decide (u ∉ fr)) (((upto (m + 1)).map f).take j)
      have l2 : (((upto (m + 1)).map f).take j).length ≤ m + 1 := by rw [List.length_take, List.length_map, upto_len]; omega
      walk_at "gs"
      refine i_decN (fun c => ?_) (fun c => ?_)
      · walk_at "gs"
        refine ⟨_, hR, small_sz (by rw [List.length_map]; omega), Kp.upd kk fR, ?_⟩
        rw [step, if_pos (decide_eq_true c), ← snoc_int']
        exact upd_same
      · refine ⟨kk, ?_⟩
        rw [step, if_neg (by rw [decide_eq_true_eq]; exact fun h => h c), List.append_nil]
        exact hR
    rintro R H13 fR ⟨k13, hR⟩
    rw [List.length_map, List.take_length] at hR
    have hsR : SqL K H13 R ((((upto (m + 1)).map f).filter fun u => decide (u ∉ fr)).map V.int) := SqL.of hR
    walk_at "gs"
    refine i_sorted hsR fun us S1 pu su fS1 => ?_
    have kS1 := Kp.new (ws := []) (o := HO.lst (us.map V.int)) fS1
    have hS1 := fresh_at (o := HO.lst (us.map V.int)) fS1
    obtain ⟨H14, e14⟩ : ∃ H14, H14 = upd H13 S1 (.lst (us.map V.int)) := ⟨_, rfl⟩
    rw [← e14] at kS1 hS1 ⊢
    have hsS1 : SqL K H14 S1 (us.map V.int) := SqL.of hS1
    have lus := pu.length_eq
    have lfl := List.length_filter_le (fun u => decide (u ∉ fr)) ((upto (m + 1)).map f)
    rw [List.length_map, upto_len] at lfl
    walk_at "gs"
    rw [List.length_map]
    refine i_dec (fun c => ?_) (fun c => ?_)
    rotate_left
    · walk_at "gs"
      exact ⟨_, _, _, _, _, _, _, rfl, Kp.trans k8 (Kp.trans k810 (Kp.trans k11 (Kp.trans kS (Kp.trans k13 kS1)))), by omega⟩
    have hD14 := (Kp.trans k13 kS1).at_ _ _ hD12 not_nil
    have hsD14 : SqL K H14 D (fr.map V.int) := SqL.of hD14
    walk_at "gs"
    refine i_sorted hsD14 fun vs S2 pv sv fS2 => ?_
    have kS2 := Kp.new (ws := []) (o := HO.lst (vs.map V.int)) fS2
    have hS2 := fresh_at (o := HO.lst (vs.map V.int)) fS2
    obtain ⟨H15, e15⟩ : ∃ H15, H15 = upd H14 S2 (.lst (vs.map V.int)) := ⟨_, rfl⟩
    rw [← e15] at kS2 hS2 ⊢
    walk_at "gs"
    refine i_new fun Z fZ => ?_
    have kZ := Kp.new (ws := []) (o := HO.tup [.int (n + x : Nat), .ref S1, .ref S2, .ref W]) fZ
    walk_at "gs"
    have ndI : ((upto (m + 1)).map f).Nodup := List.pairwise_map.mpr ((upto_nd (m + 1)).imp_of_mem fun {a b} ha hb nn q => by
      have h1 := mem_upto.mp ha
      have h2 := mem_upto.mp hb
      exact nn (inj a b (by omega) (by omega) q))
    have frm : ∀ y, y ∈ fr ↔ ∃ k ∈ upto (m + 1), 3 ≤ (nbR (esB bs m) k).length ∧ bo.getD k.toNat false = true ∧ f k = y := fun y => by
      rw [efr, List.mem_map]
      constructor
      · rintro ⟨k, hk, e⟩
        obtain ⟨a, b⟩ := List.mem_filter.mp hk
        rw [Bool.and_eq_true, decide_eq_true_eq] at b
        exact ⟨k, a, b.2, b.1, e⟩
      · rintro ⟨k, a, b, c, e⟩
        exact ⟨k, List.mem_filter.mpr ⟨a, by rw [Bool.and_eq_true, decide_eq_true_eq]; exact ⟨c, b⟩⟩, e⟩
    have ndF : fr.Nodup := by
      rw [efr]
      exact List.pairwise_map.mpr (((upto_nd (m + 1)).filter _).imp_of_mem fun {a b} ha hb nn q => by
        have h1 := mem_upto.mp (List.mem_filter.mp ha).1
        have h2 := mem_upto.mp (List.mem_filter.mp hb).1
        exact nn (inj a b (by omega) (by omega) q))
    have pF : fr.Perm (((upto (m + 1)).map f).filter fun u => !decide (u ∉ fr)) := nd_perm ndF (ndI.filter _) fun y => by
      rw [List.mem_filter]
      constructor
      · intro h
        obtain ⟨k, a, _, _, e⟩ := (frm y).mp h
        exact ⟨List.mem_map.mpr ⟨k, a, e⟩, by rw [decide_eq_false (fun z => z h)]; rfl⟩
      · rintro ⟨_, h⟩
        by_cases c : y ∈ fr
        · exact c
        · rw [decide_eq_true c] at h
          cases h
    have p1 : (us ++ vs).Perm ((upto (m + 1)).map f) := (pu.append (pv.trans pF)).trans (List.filter_append_perm _ _)
    have lp := p1.length_eq
    rw [List.length_append, List.length_map, upto_len] at lp
    have ndUV := p1.nodup_iff.mpr ndI
    obtain ⟨DD, z, _, rm⟩ := tre.tr3 (ever := (n + x : Nat)) (f := f) (liv := us) (fs := vs) (rs := rs) (fun y a b => fU y a (by omega)) (fun a b ha hb => inj a b (by omega) (by omega)) p1 prs fun y hy u a b e => by
      obtain ⟨k, hk, h3, _, e2⟩ := (frm y).mp (pv.mem_iff.mp hy)
      have hk2 := mem_upto.mp hk
      have e3 := inj k u (by omega) (by omega) (by rw [e2, e])
      rw [← e3]
      exact h3
    have mB : ∀ b ∈ [p], b ∈ [p, Bk, Lb, N, Br] := fun b hb => by rw [List.mem_singleton.mp hb]; simp
    have k14 : Kp [p, Bk] H H4 := Kp.trans (k1.mono fun b hb => by rw [List.mem_singleton.mp hb]; simp) (Kp.trans k0.wide (Kp.trans k3 (k4.mono fun b hb => by rw [List.mem_singleton.mp hb]; simp)))
    have k1h : Kp [p, Bk, Lb, N, Br] H H7 := Kp.trans (k14.mono fun b hb => by
      simp only [List.mem_cons, List.not_mem_nil, or_false] at hb ⊢
      rcases hb with h | h
      · exact .inl h
      · exact .inr (.inl h)) (Kp.trans k46.wide (k7.mono fun b hb => by
      simp only [List.mem_cons, List.not_mem_nil, or_false] at hb ⊢
      rcases hb with h | h | h | h
      · exact .inl h
      · exact .inr (.inr (.inl h))
      · exact .inr (.inr (.inr (.inl h)))
      · exact .inr (.inr (.inr (.inr h)))))
    have k07 : Kp [p] H H7 := k1h.dropAll fun b hb => by
      simp only [List.mem_cons, List.not_mem_nil, or_false] at hb
      rcases hb with rfl | rfl | rfl | rfl | rfl
      · exact .inl List.mem_cons_self
      · exact .inr (k1.free fBk)
      · exact .inr (k14.free fL4)
      · exact .inr (k14.free fN4)
      · exact .inr (k1.free fBr1)
    have kEnd := Kp.trans k8 (Kp.trans k810 (Kp.trans k11 (Kp.trans kS (Kp.trans k13 (Kp.trans kS1 (Kp.trans kS2 kZ))))))
    have k0Z : Kp [p] H _ := Kp.trans k07 kEnd.wide
    have k713 := Kp.trans k8 (Kp.trans k810 (Kp.trans k11 (Kp.trans kS k13)))
    have f0W : Fr H W := (Kp.trans k07 (Kp.trans k8 k9).wide).free fW
    have f0S1 : Fr H S1 := (Kp.trans k07 k713.wide).free fS1
    have f0S2 : Fr H S2 := (Kp.trans k07 (Kp.trans k713 kS1).wide).free fS2
    have f0Z : Fr H Z := (Kp.trans k07 (Kp.trans k713 (Kp.trans kS1 kS2)).wide).free fZ
    refine k Z S1 S2 W (n + x : Nat) us vs rs _ (hp7.kp kEnd not_nil) k0Z upd_same ((Kp.trans kS2 kZ).at_ _ _ hS1 not_nil) (kZ.at_ _ _ hS2 not_nil) (ld10.kp (Kp.trans k11 (Kp.trans kS (Kp.trans k13 (Kp.trans kS1 (Kp.trans kS2 kZ))))) (imms_d2 _) not_nil) f0Z f0S1 f0S2 f0W
      ⟨⟨DD, z⟩, strict_of (.refl _) (List.nodup_append.mp ndUV).1 su, strict_of (.refl _) (List.nodup_append.mp ndUV).2.1 sv, ⟨srt, rm⟩, fun e => ?_⟩ (by omega) (by omega) (by omega)
    have hl := tre.last
    have hin : f (m : Int) ∈ us ++ vs := p1.mem_iff.mpr (List.mem_map.mpr ⟨(m : Int), mem_upto.mpr ⟨by omega, by omega⟩, rfl⟩)
    rw [e, List.nil_append] at hin
    obtain ⟨q, hq, h3, _, e2⟩ := (frm _).mp (pv.mem_iff.mp hin)
    have hq2 := mem_upto.mp hq
    have e3 := inj q (m : Int) (by omega) (by omega) e2
    rw [e3] at h3
    rw [show ((m + 1 : Nat) : Int) - 1 = (m : Int) by omega] at hl
    omega

/-! ### t[::-1], t a tuple -/
section
open PySem.Calls PyProof.Rows PySem.Spec PyProof PySem.W L2
theorem adjust_rev (n : Nat) : Builtin.Slice.sliceAdjust none none (-1) (n : Int) = ((n : Int) - 1, -1) := by
  unfold Builtin.Slice.sliceAdjust
  have h1 : ((-1 : Int) < 0) := by decide
  simp only [h1, if_true]
theorem places_rev (n : Nat) : Builtin.Slice.slicePlaces ((n : Int) - 1) (-1) (-1) = n := by
  unfold Builtin.Slice.slicePlaces
  have h1 : ¬ ((-1 : Int) > 0) := by decide
  simp only [h1, if_false]
  have e : ((n : Int) - 1 - -1 - 1) / - -1 = (n : Int) - 1 := by
    rw [show (- -1 : Int) = 1 by decide, Int.ediv_one]
    omega
  rw [e]
  split <;> omega
theorem pick_rev (xs : Array Value) : ((List.range xs.size).filterMap fun (m : Nat) => xs[(((xs.size : Int) - 1) + (m : Int) * -1).toNat]?).toArray = xs.toList.reverse.toArray := by
  congr 1
  have h : ∀ m ∈ List.range xs.size, xs[(((xs.size : Int) - 1) + (m : Int) * -1).toNat]? = some (xs.toList.reverse.getD m .none) := fun m hm => by
    have lt := List.mem_range.mp hm
    have e : (((xs.size : Int) - 1) + (m : Int) * -1).toNat = xs.size - 1 - m := by omega
    rw [e, List.getD_eq_getElem?_getD, List.getElem?_reverse (by simpa using lt), Array.length_toList, Array.getElem?_toList, Array.getElem?_eq_getElem (show xs.size - 1 - m < xs.size by omega)]
    rfl
  have key : ∀ (l : List Nat) (f : Nat → Option Value) (g : Nat → Value), (∀ m ∈ l, f m = some (g m)) → l.filterMap f = l.map g := by
    intro l f g
    induction l with
    | nil => exact fun _ => rfl
    | cons a l ih =>
      intro hh
      rw [List.filterMap_cons, hh a List.mem_cons_self, List.map_cons]
      show g a :: _ = _
      rw [ih fun m hm => hh m (List.mem_cons_of_mem _ hm)]
  rw [key _ _ (fun m => xs.toList.reverse.getD m .none) h]
  apply List.ext_getElem?
  intro i
  by_cases c : i < xs.size
  · rw [List.getElem?_map, List.getElem?_range c, List.getElem?_eq_getElem (show i < xs.toList.reverse.length by simpa using c)]
    show some (xs.toList.reverse.getD i .none) = _
    rw [List.getD_eq_getElem?_getD, List.getElem?_eq_getElem (show i < xs.toList.reverse.length by simpa using c)]
    rfl
  · rw [List.getElem?_eq_none (by simpa using c), List.getElem?_eq_none (by simpa using c)]
theorem sliceApplied_rev {prog : Program} {w : World} {A : Around} {E : Value → Shared → Prop} {s : Shared} {sl : Addr} {vl vu vs : Value} {n : Nat} {Q : Int × Int × Nat → Shared → Prop} (hs : s.heap.IsSliceOf sl vl vu vs) (pl : IsPart vl none) (pu : IsPart vu none) (ps : IsPart vs (some (-1)))
    (h : Q ((n : Int) - 1, -1, n) s) : wpAny (model prog w) A (Builtin.Slice.sliceApplied (.ref sl) (pure (n : Int))) Q E s := by
  obtain ⟨os, hos, hcs, hds⟩ := id hs
  unfold Builtin.Slice.sliceApplied Builtin.Slice.sliceFields
  refine wpAny_bind (wpAny_bind (wpAny_field hos hds (x := vl) rfl (wpAny_bind (wpAny_field hos hds (x := vu) rfl (wpAny_bind (wpAny_field hos hds (x := vs) rfl (wpAny_pure ?_)))))))
  refine wpAny_bind (HT.slicePart_ ps ?_)
  show wpAny _ _ (if ((-1 : Int) == 0) = true then _ else _) _ _ s
  rw [if_neg (by decide)]
  refine wpAny_bind (HT.slicePart_ pl (wpAny_bind (HT.slicePart_ pu (wpAny_bind (wpAny_pure ?_)))))
  show wpAny _ _ (match Builtin.Slice.sliceAdjust none none (-1) (n : Int) with | (lo, hi) => pure (lo, (-1 : Int), Builtin.Slice.slicePlaces lo hi (-1))) _ _ s
  rw [adjust_rev n]
  show wpAny _ _ (pure ((n : Int) - 1, (-1 : Int), Builtin.Slice.slicePlaces ((n : Int) - 1) (-1) (-1))) _ _ s
  rw [places_rev]
  exact wpAny_pure h
theorem getItem_tuple_rev {prog : Program} {w : World} {A : Around} {E : Value → Shared → Prop} {s : Shared} {t sl : Addr} {items : Array Value} {vl vu vs : Value} {Q : Value → Shared → Prop} (ht : IsTup s.heap t items) (hs : s.heap.IsSliceOf sl vl vu vs) (pl : IsPart vl none) (pu : IsPart vu none) (ps : IsPart vs (some (-1)))
    (h : Q (.ref s.heap.objs.size) { s with heap := s.heap.push { cls := .type "tuple", data := .seq items.toList.reverse.toArray } })
    (hsz : items.size ≤ sizeLine) : wpAny (model prog w) A (getItem (.ref t) (.ref sl)) Q E s := by
  have htake : sizeOk (.seq items.toList.reverse.toArray) := by
    show items.toList.reverse.toArray.size ≤ sizeLine
    rw [List.size_toArray, List.length_reverse, Array.length_toList]
    exact hsz
  obtain ⟨os, hos, hcs, hds⟩ := id hs
  have hTs : s.TypeIs (.ref sl) "slice" := ⟨os, hos, hcs⟩
  unfold getItem
  try with_reducible refine wpAny_holding ?_
  first | refine wpAny_bind (wpAny_pure ?_) | skip
  refine wpAny_bind (wpAny_sequenceKey ht.typeIs (by decide) ?_)
  refine wpAny_bind (wpAny_callSpecial?_slot (name := Str.ofString "__getitem__") ht.typeIs PyProof.Rows.slot_tuple_getitem
    (wpAny_call_entry PyProof.Rows.slot_tuple_getitem ht.typeIs PyProof.Rows.entry_tuple_getitem ?_ (PyProof.Rows.args_tuple_getitem _ _)))
  show wpAny _ _ (Builtin.Tuple.tupleItemsOf (.ref t) >>= _) _ _ s
  refine wpAny_bind (PyProof.Rows.tupleItemsOf_ ht ?_)
  refine wpAny_bind (wpAny_typeOf hTs ?_)
  rw [if_pos (by decide)]
  refine wpAny_bind (sliceApplied_rev hs pl pu ps ?_)
  have hno : ¬ ((((items.size : Int) - 1) == 0 && (-1 : Int) == 1 && items.size == items.size) = true) := by
    intro q
    rw [Bool.and_eq_true, Bool.and_eq_true] at q
    exact absurd (eq_of_beq q.1.2) (by decide)
  show wpAny _ _ (if (((items.size : Int) - 1) == 0 && (-1 : Int) == 1 && items.size == items.size) = true then _ else _) _ _ s
  rw [if_neg hno, pick_rev]
  first
    | exact wpAny_bind (m := Builtin.Tuple.tupleExact _) (wpAny_newObj_type (wpAny_pure ⟨_, rfl, wpAny_pure h⟩) htake)
    | exact wpAny_bind (m := Builtin.Tuple.tupleExact _) (wpAny_newObj_type (wpAny_bind (wpAny_pure (wpAny_pure ⟨_, rfl, wpAny_pure h⟩))) htake)
    | exact wpAny_bind (wpAny_bind (m := Builtin.Tuple.tupleExact _) (wpAny_newObj_type (wpAny_pure (wpAny_pure ⟨_, rfl, wpAny_pure h⟩)) htake))
    | exact wpAny_bind (wpAny_bind (m := Builtin.Tuple.tupleExact _) (wpAny_newObj_type (wpAny_pure ⟨_, rfl, wpAny_pure h⟩) htake))
def tRevT (K : PySem.W.Frag) (te : TE) : TE := fun σ H Q => te σ H fun x H1 => ∃ a xs, x = .ref a ∧ SqT K H1 a xs ∧ ∀ p, H1 p = none → Q (.ref p) (upd H1 p (.tup xs.reverse))
theorem pe_revT {X : Cx} {e : Expr} {te : TE} {k : Nat} {p1 p2 p3 pos : Pos} (he : PE X e te) : PE X (.Subscript e (.Slice none none (some (.UnaryOp .USub (.Constant (.int 1) k p1) p2)) p3) pos) (tRevT X.K te) := by
  refine ⟨fun pins s σ H Q I h => ?_⟩
  refine Subscript_ (thn (he.run pins s σ H _ I h) fun v s1 ⟨x, H1, I1, r1, q1⟩ => ?_)
  obtain ⟨a, xs, ex, hx, q⟩ := q1
  subst ex
  cases r1
  have hst : PO X (some (.UnaryOp .USub (.Constant (.int 1) k p1) p2)) (tPart (tUn (rU fun i => .int (-i)) (tC (.int 1)))) := po_some (pe_un un_neg pe_int)
  refine wpAny_Slice (thn (po_none.run pins s1 σ H1 (fun o H2 => o = none ∧ H2 = H1) I1 ⟨rfl, rfl⟩) fun vl s2 ⟨l, H2, I2, pl, el, e2⟩ => ?_)
  subst el e2
  refine thn (po_none.run pins s2 σ H2 (fun o H3 => o = none ∧ H3 = H2) I2 ⟨rfl, rfl⟩) fun vu s3 ⟨u, H3, I3, pu, eu, e3⟩ => ?_
  subst eu e3
  refine thn (hst.run pins s3 σ H3 (fun o H4 => o = some (-1) ∧ H4 = H3) I3 ⟨1, rfl, -1, rfl, rfl, rfl⟩) fun vs s4 ⟨o, H4, I4, ps, eo, e4⟩ => ?_
  subst eo e4
  have I5 : Inv X pins σ H4 { s4 with heap := s4.heap.push { cls := .type "slice", data := .fields #[vl, vu, vs] } } := I4.kept (t' := s4.toks) fun b ob q => Heap.get?_push_of_some _ q
  obtain ⟨its, r, ht, hz⟩ := I5.tuple hx
  have hlen := r.length
  show wpAny (model X.prog X.w) X.A (subscriptTail e (.Slice none none (some (.UnaryOp .USub (.Constant (.int 1) k p1) p2)) p3) (.ref a) (.ref s4.heap.objs.size)) (EP X pins σ Q) X.xe { s4 with heap := s4.heap.push { cls := .type "slice", data := .fields #[vl, vu, vs] } }
  refine tail_any (ops := [.ref a, .ref s4.heap.objs.size]) ht.typeIs (PyProof.Rows.slot_tuple_getitem.lookup) ?_ (by with_unfolding_all rfl)
  refine getItem_tuple_rev ht (Heap.IsSliceOf.new _ vl vu vs) pl pu ps ?_ (by rw [List.size_toArray]; omega)
  refine ⟨.ref _, _, I5.laid (t' := s4.toks) (o := .tup xs.reverse) (fun b ob q => Heap.get?_push_of_some _ q) (Nat.le_refl _) ?_, rfl, q _ (I5.hok.fresh (Nat.le_refl _))⟩
  exact ⟨by rw [List.length_reverse]; exact hz, _, r.reverse, IsTup.new _ _⟩
theorem k_revT {X : Cx} {K : PySem.W.Frag} {e : Expr} {te : TE} {k : Nat} {p1 p2 p3 pos : Pos} (h : X.K = K) (he : PE X e te) : PE X (.Subscript e (.Slice none none (some (.UnaryOp .USub (.Constant (.int 1) k p1) p2)) p3) pos) (tRevT K te) := h ▸ pe_revT he
theorem i_revT {K : PySem.W.Frag} {te : TE} {σ : L2.St} {H : Hp} {Q : VK} (h : te σ H fun x H1 => ∃ a xs, x = .ref a ∧ SqT K H1 a xs ∧ New H1 fun p => Q (.ref p) (upd H1 p (.tup xs.reverse))) : tRevT K te σ H Q := h
theorem k_slA {X : Cx} {K : PySem.W.Frag} (h : X.K = K) : SlR X (rSlA K) := h ▸ sl_tupA
theorem k_catA {X : Cx} {K : PySem.W.Frag} (h : X.K = K) : OpR X (binaryOp .Add) (rCatA K) := h ▸ op_catA
end

/-! ### dicts from worlds to numbers -/
def okN (n : Int) : Prop := -1000000000000000000000000000000000000000000000000000000000000 ≤ n ∧ n ≤ 1000000000000000000000000000000000000000000000000000000000000
def kN (q : Int × Int) : Key × V := (.inl q.1, .int q.2)
theorem valN_none {w : Int} : ∀ {ps : List (Int × Int)}, w ∉ ps.map (·.1) → valV (ps.map kN) (.inl w) = none
  | [], _ => rfl
  | p :: ps, h => by
    rw [List.map_cons, List.mem_cons, not_or] at h
    rw [List.map_cons, valV_neg (fun z => ?_)]
    · exact valN_none h.2
    · have z : (Sum.inl p.1 : Key) = .inl w := z
      injection z with z
      exact h.1 z.symm
theorem merge_kN : ∀ (ps acc : List (Int × Int)), ((acc ++ ps).map (·.1)).Nodup → mergeK (acc.map kN) (ps.map kN) = (acc ++ ps).map kN
  | [], acc, _ => by rw [List.append_nil]; rfl
  | q :: ps, acc, h => by
    have e : (acc ++ q :: ps) = (acc ++ [q]) ++ ps := by rw [List.append_assoc]; rfl
    have n : q.1 ∉ acc.map (·.1) := fun z => by
      rw [List.map_append, List.map_cons] at h
      exact (List.nodup_append.mp h).2.2 q.1 z q.1 List.mem_cons_self rfl
    have ih := merge_kN ps (acc ++ [q]) (by rw [← e]; exact h)
    have p : putK (acc.map kN) (kN q).1 (kN q).2 = (acc ++ [q]).map kN := by
      show putK (acc.map kN) (.inl q.1) (.int q.2) = _
      rw [putK_new _ (valN_none n), List.map_append]
      rfl
    rw [e, ← ih, ← p]
    rfl
theorem prs_refs {K : PySem.W.Frag} {H : Hp} : ∀ {xs : List V} {ps : List (Int × Int)}, PrsAt H xs ps → ∃ ts : List Addr, xs = ts.map V.ref ∧ Paired (fun p kv => SqT K H p [kV kv.1, kv.2]) ts (ps.map kN)
  | [], [], _ => ⟨[], rfl, .nil⟩
  | _ :: _, q :: _, ⟨⟨t, e, h⟩, r⟩ => by
    obtain ⟨ts, rfl, hp⟩ := prs_refs (K := K) r
    subst e
    exact ⟨t :: ts, rfl, .cons (SqT.of h) hp⟩
  | [], _ :: _, h => h.elim
  | _ :: _, [], h => h.elim
def rDictP (K : PySem.W.Frag) : List V → Hp → VK → Prop := fun xs H Q => ∃ (a : Addr) (ps : List Addr) (kvs : List (Key × V)), xs = [.ref a] ∧ SqL K H a (ps.map V.ref) ∧ Paired (fun p kv => SqT K H p [kV kv.1, kv.2]) ps kvs ∧
    ∀ p, H p = none → Q (.ref p) (upd H p (.dK (mergeK [] kvs)))
theorem k_dictP {X : Cx} {K : PySem.W.Frag} (h : X.K = K) (hcalm : X.calm = true) : CallR X (.type "dict") (rDictP K) := h ▸ call_dictP hcalm
theorem i_dictPrs {K : PySem.W.Frag} {H : Hp} {Q : VK} {a : Addr} {xs : List V} {ps : List (Int × Int)} (h : H a = some (.lst xs)) (px : PrsAt H xs ps) (nd : (ps.map (·.1)).Nodup) (q : New H fun p => Q (.ref p) (upd H p (.dK (ps.map kN)))) : rDictP K [.ref a] H Q := by
  obtain ⟨ts, rfl, hp⟩ := prs_refs (K := K) px
  refine ⟨a, ts, ps.map kN, rfl, SqL.of h, hp, fun p hp => ?_⟩
  have e := merge_kN ps [] nd
  rw [List.map_nil] at e
  rw [e]
  exact q p hp
def look (ps : List (Int × Int)) (w : Int) : Int := ((ps.find? fun q => decide (q.1 = w)).map (·.2)).getD 0
theorem look_mem {w : Int} : ∀ {ps : List (Int × Int)}, w ∈ ps.map (·.1) → (w, look ps w) ∈ ps ∧ valV (ps.map kN) (.inl w) = some (.int (look ps w))
  | [], h => nomatch h
  | p :: ps, h => by
    by_cases c : p.1 = w
    · have e : look (p :: ps) w = p.2 := by
        unfold look
        rw [List.find?_cons, decide_eq_true c]
        rfl
      rw [e, List.map_cons, valV_pos (show (kN p).1 = .inl w by rw [← c]; rfl)]
      exact ⟨by rw [← c]; exact List.mem_cons_self, rfl⟩
    · have e : look (p :: ps) w = look ps w := by
        unfold look
        rw [List.find?_cons, decide_eq_false c]
      rw [List.map_cons, List.mem_cons] at h
      obtain ⟨h1, h2⟩ := look_mem (h.resolve_left fun z => c z.symm)
      rw [e, List.map_cons, valV_neg (fun z => ?_)]
      · exact ⟨List.mem_cons_of_mem _ h1, h2⟩
      · have z : (Sum.inl p.1 : Key) = .inl w := z
        injection z with z
        exact c z
theorem look_eq {w n : Int} {ps : List (Int × Int)} (nd : (ps.map (·.1)).Nodup) (h : (w, n) ∈ ps) : look ps w = n := by
  have m : w ∈ ps.map (·.1) := List.mem_map.mpr ⟨_, h, rfl⟩
  obtain ⟨h1, _⟩ := look_mem m
  have inj : ∀ {ps : List (Int × Int)}, (ps.map (·.1)).Nodup → ∀ {w a b : Int}, (w, a) ∈ ps → (w, b) ∈ ps → a = b := by
    intro ps
    induction ps with
    | nil => intro _ w a b h; cases h
    | cons p ps ih =>
      intro nd w a b ha hb
      rw [List.map_cons, List.nodup_cons] at nd
      rcases List.mem_cons.mp ha with e1 | h1 <;> rcases List.mem_cons.mp hb with e2 | h2
      · rw [← e1] at e2
        exact (congrArg Prod.snd e2).symm
      · exact absurd (List.mem_map.mpr ⟨_, h2, by rw [← e1]⟩) nd.1
      · exact absurd (List.mem_map.mpr ⟨_, h1, by rw [← e2]⟩) nd.1
      · exact ih nd.2 h1 h2
  exact inj nd h1 h
theorem k_max1 {X : Cx} {K : PySem.W.Frag} (h : X.K = K) (hc : X.calm = true) : CallR X (.builtin "max") (rMax K) := h ▸ cr_max hc
theorem i_pw9 {H : Hp} {Q : VK} (h : Q (.int 1000000000) H) : rPow (.int 10) (.int 9) H Q := pow_go rfl (by decide) h
theorem i_pw40 {H : Hp} {Q : VK} (h : Q (.int 10000000000000000000000000000000000000000) H) : rPow (.int 10) (.int 40) H Q := pow_go rfl (by decide) h
theorem i_pw50 {H : Hp} {Q : VK} (h : Q (.int 100000000000000000000000000000000000000000000000000) H) : rPow (.int 10) (.int 50) H Q := pow_go rfl (by decide) h
theorem prs_split {H : Hp} {q : Int × Int} : ∀ {xs : List V} {ps : List (Int × Int)}, PrsAt H xs (ps ++ [q]) → ∃ ys t, xs = ys ++ [.ref t] ∧ PrsAt H ys ps ∧ H t = some (.tup [.int q.1, .int q.2])
  | [], [], h => h.elim
  | [], _ :: _, h => h.elim
  | x :: xs, [], h => by
    obtain ⟨⟨t, e, h1⟩, h2⟩ := h
    cases xs with
    | nil => exact ⟨[], t, by rw [e]; rfl, trivial, h1⟩
    | cons y ys => exact h2.elim
  | x :: xs, p :: ps, ⟨h1, h2⟩ => by
    obtain ⟨ys, t, e, a, b⟩ := prs_split h2
    exact ⟨x :: ys, t, by rw [e]; rfl, ⟨h1, a⟩, b⟩
theorem map_one {l : List V} {ns : List Int} (h : l = ns.map V.int) : ∀ v ∈ l, ∃ n ∈ ns, v = .int n := fun v hv => by
  rw [h] at hv
  obtain ⟨n, hn, e⟩ := List.mem_map.mp hv
  exact ⟨n, hn, e.symm⟩
theorem pair_mem {H : Hp} {U : Addr} {n m : Int} (h : H U = some (.tup [.int n, .int m])) : H U = some (.tup [.int (n, m).1, .int (n, m).2]) := h

/-! ### repr of longer things, whose numbers are of 160 bits at the most -/
def rReprW (K : PySem.W.Frag) : List V → Hp → VK → Prop := fun xs H Q =>
  ∃ x d, xs = [x] ∧ Dp K H x d ∧ shw d = true ∧ d.depth ≤ 60 ∧ d.shown.length ≤ PySem.sizeLine ∧ Q (.str d.shown) H
section
open PySem.Spec PyProof.Rows
theorem k_reprW {X : Cx} {K : PySem.W.Frag} (hK : X.K = K) (hg : X.A.guards = some []) (hu : X.A.units + 64 < cLine) : CallR X (.builtin "repr") (rReprW K) := by
  subst hK
  intro pins s σ H vs us Q I rv h
  obtain ⟨x, d, rfl, hd, hs, hdp, hz2, q⟩ := h
  obtain ⟨hs1, hs2⟩ := shw_showable d hs
  cases rv with
  | cons r rn =>
    cases rn
    obtain ⟨as, hr⟩ := Dp.reads I d _ _ hd r
    cases hr with
    | none => exact PySem.P.repr_of_none ⟨.str _, H, I.tok _, ⟨_, rfl⟩, q⟩
    | bool b => exact PySem.P.repr_of_bool ⟨.str _, H, I.tok _, ⟨_, rfl⟩, q⟩
    | int i t =>
      refine PySem.P.repr_of_int ?_ ⟨.str _, H, I.tok _, ⟨_, rfl⟩, q⟩
      first | exact hs | simpa only [shw, decide_eq_true_eq] using hs
    | str y t => exact PySem.P.repr_of_str ⟨.str _, H, I.tok _, ⟨_, rfl⟩, q⟩ hz2
    | list h1 h2 h3 h4 =>
      refine repr_of_reads' (Reads.list h1 h2 h3 h4) hs1 (fun y => by rw [hs2] at y; cases y) hg
        (by omega) (fun _ _ e => e) (fun h' u tk hk => ?_) hz2
      exact ⟨.str _, H, I.kept hk, ⟨_, rfl⟩, q⟩
    | tuple h1 h2 h3 h4 =>
      refine repr_of_reads' (Reads.tuple h1 h2 h3 h4) hs1 (fun y => by rw [hs2] at y; cases y) hg
        (by omega) (fun _ _ e => e) (fun h' u tk hk => ?_) hz2
      exact ⟨.str _, H, I.kept hk, ⟨_, rfl⟩, q⟩
    | dict h1 h2 h3 h4 h5 => simp only [PyData.hasDict] at hs2; cases hs2
mutual
def cw1 : PyData → Nat
  | .none => 4
  | .bool _ => 5
  | .int _ => 168
  | .str x => 10 * x.length + 4
  | .list xs => cws1 xs + 2
  | .tuple xs => cws1 xs + 2
  | .dict _ => 0
def cws1 : List PyData → Nat
  | [] => 0
  | x :: xs => cw1 x + 2 + cws1 xs
end
mutual
def sh1 : PyData → Bool
  | .none => true
  | .bool _ => true
  | .int i => decide (i.natAbs.log2 < 160)
  | .str x => x.cps.toList.all fun c => decide (c < 16 ^ 8)
  | .list xs => shs1 xs
  | .tuple xs => shs1 xs
  | .dict _ => false
def shs1 : List PyData → Bool
  | [] => true
  | x :: xs => sh1 x && shs1 xs
end
mutual
theorem sh1_shw : ∀ d : PyData, sh1 d = true → shw d = true
  | .none, _ => rfl
  | .bool _, _ => rfl
  | .int i, h => by
    simp only [sh1, decide_eq_true_eq] at h
    simp only [shw, decide_eq_true_eq]
    omega
  | .str x, h => by
    simp only [sh1] at h
    simp only [shw]
    exact h
  | .list xs, h => by
    simp only [sh1] at h
    simp only [shw]
    exact shs1_shws xs h
  | .tuple xs, h => by
    simp only [sh1] at h
    simp only [shw]
    exact shs1_shws xs h
  | .dict _, h => by simp only [sh1] at h; cases h
theorem shs1_shws : ∀ ds : List PyData, shs1 ds = true → shws ds = true
  | [], _ => rfl
  | d :: ds, h => by
    simp only [shs1, Bool.and_eq_true] at h
    simp only [shws, Bool.and_eq_true]
    exact ⟨sh1_shw d h.1, shs1_shws ds h.2⟩
end
mutual
theorem shown_len1 : ∀ d : PyData, sh1 d = true → d.shown.length ≤ cw1 d
  | .none, _ => by simp only [PyData.shown, cw1]; decide +kernel
  | .bool b, _ => by cases b <;> (simp only [PyData.shown, cw1]; decide +kernel)
  | .int i, h => by
    simp only [sh1, decide_eq_true_eq] at h
    simp only [PyData.shown, cw1]
    have q := int_text_length_le (a := i) (k := 160) (by decide) h
    rw [PySem.ofString_length]
    omega
  | .str x, h => by
    simp only [sh1, List.all_eq_true, decide_eq_true_eq] at h
    simp only [PyData.shown, cw1]
    have q := StrLaws.reprText_len x h
    omega
  | .list xs, h => by
    simp only [sh1] at h
    simp only [PyData.shown, cw1]
    exact Nat.le_trans (list_text _) (Nat.add_le_add_right (shown_lens1 xs h) 2)
  | .tuple xs, h => by
    simp only [sh1] at h
    simp only [PyData.shown, cw1]
    exact Nat.le_trans (fmt_text _) (Nat.add_le_add_right (shown_lens1 xs h) 2)
  | .dict _, h => by simp only [sh1] at h; cases h
theorem shown_lens1 : ∀ ds : List PyData, shs1 ds = true → piled (PyData.shownAll ds) ≤ cws1 ds
  | [], _ => Nat.zero_le _
  | d :: ds, h => by
    simp only [shs1, Bool.and_eq_true] at h
    simp only [PyData.shownAll, cws1, piled_cons]
    have q1 := shown_len1 d h.1
    have q2 := shown_lens1 ds h.2
    omega
end
theorem i_reprW {K : PySem.W.Frag} {H : Hp} {Q : VK} {x : V} {d : PyData} (hd : Dp K H x d) (hs : sh1 d = true) (hdp : d.depth ≤ 60) (hz : cw1 d ≤ 16777216) (h : Q (.str d.shown) H) : rReprW K [x] H Q :=
  ⟨x, d, rfl, hd, sh1_shw d hs, hdp, Nat.le_trans (shown_len1 d hs) (Nat.le_trans hz (by decide)), h⟩
end
theorem okM_160 {v : Int} (h : -100000000000000000000000000000000000000000 ≤ v ∧ v ≤ 100000000000000000000000000000000000000000) : v.natAbs.log2 < 160 := by
  by_cases c : v.natAbs = 0
  · rw [c]
    decide
  · exact (Nat.log2_lt c).mpr (Nat.lt_of_le_of_lt (show v.natAbs ≤ 100000000000000000000000000000000000000000 by omega) (by decide))

/-! ### repr of a dict of numbers -/
section
open PyProof.Rows PySem.Spec
abbrev dN (ps : List (Int × Int)) : PyData := .dict (ps.map fun q => (.int q.1, .int q.2))
def rReprN (K : PySem.W.Frag) : List V → Hp → VK → Prop := fun xs H Q => ∃ a ps, xs = [.ref a] ∧ H a = some (.dK (ps.map kN)) ∧ (∀ q ∈ ps, okI q.1 ∧ okI q.2) ∧ ps.length ≤ 500 ∧ Q (.str (dN ps).shown) H
theorem kvN_len : ∀ ps : List (Int × Int), (∀ q ∈ ps, okI q.1 ∧ okI q.2) → PyData.showableKv (ps.map fun q => (PyData.int q.1, PyData.int q.2)) = true ∧ piled (PyData.shownKv (ps.map fun q => (PyData.int q.1, PyData.int q.2))) ≤ 3864 * ps.length ∧ (PyData.shownKv (ps.map fun q => (PyData.int q.1, PyData.int q.2))).length = ps.length
  | [], _ => ⟨rfl, Nat.le_refl _, rfl⟩
  | q :: ps, h => by
    obtain ⟨a, b⟩ := h q List.mem_cons_self
    obtain ⟨i1, i2, i3⟩ := kvN_len ps fun r hr => h r (List.mem_cons_of_mem _ hr)
    have l1 := shown_len (.int q.1) (decide_eq_true a)
    have l2 := shown_len (.int q.2) (decide_eq_true b)
    simp only [cw] at l1 l2
    refine ⟨?_, ?_, ?_⟩
    · simp only [List.map_cons, PyData.showableKv, PyData.showable, i1, Bool.and_true, Bool.and_eq_true, decide_eq_true_eq]
      exact ⟨a, b⟩
    · simp only [List.map_cons, PyData.shownKv, piled_cons, List.length_cons]
      rw [strLen_append, strLen_append]
      have e2 : ((": " : Str)).length = 2 := rfl
      omega
    · simp only [List.map_cons, PyData.shownKv, List.length_cons, i3]
theorem k_reprN {X : Cx} {K : PySem.W.Frag} (h : X.K = K) (hg : X.A.guards = some []) (hu : X.A.units + 64 < cLine) : CallR X (.builtin "repr") (rReprN K) := by
  intro pins s σ H xs us Q I r q
  obtain ⟨a, ps, rfl, ha, hb, hl, q⟩ := q
  subst h
  obtain ⟨u, rfl, rx⟩ := vals1 r
  cases rx
  obtain ⟨_, lo, vs, rel, o, es, ep, ho, hc, hd, _, hp, _⟩ := dk_of I.hok ha
  have keys : ∀ (ps : List (Int × Int)) (vs : List (Key × Value)) (es : List DictEntry), KV (ps.map kN) vs → Pairs (mixKind X.prog X.w) es vs → ReadsAll s.heap (es.map (·.key)) (ps.map fun q => PyData.int q.1) [] ∧ ReadsAll s.heap (es.map (·.val)) (ps.map fun q => PyData.int q.2) [] := by
    intro ps
    induction ps with
    | nil =>
      intro vs es h1 h2
      cases h1
      cases es with
      | nil => exact ⟨.nil, .nil⟩
      | cons x y => cases h2
    | cons q ps ih =>
      intro vs es h1 h2
      cases h1 with
      | cons r1 h1 =>
        cases es with
        | nil => cases h2
        | cons x y =>
          cases h2 with
          | cons k1 k2 h2 =>
            obtain ⟨i1, i2⟩ := ih _ _ h1 h2
            obtain ⟨e1, e2⟩ := r1
            rw [← e1] at k1
            have k1 : Value.isInt q.1 x.key = true := k1
            rw [← k2] at e2
            obtain ⟨t1, e2⟩ := e2
            have e3 : ∃ t, x.key = .int q.1 t := by
              rcases keyIs_shape (k := .inl q.1) k1 with ⟨i, t, e4, e5⟩ | ⟨i, t, e4, _⟩
              · injection e4 with e4
                rw [← e4] at e5
                exact ⟨t, e5⟩
              · cases e4
            obtain ⟨t, e3⟩ := e3
            rw [List.map_cons, List.map_cons, List.map_cons, List.map_cons, e3, e2]
            exact ⟨.cons (as := []) (bs := []) (.int _ _) i1, .cons (as := []) (bs := []) (.int _ _) i2⟩
  obtain ⟨r1, r2⟩ := keys ps vs es.toList rel hp
  obtain ⟨i1, i2, i3⟩ := kvN_len ps hb
  have rd : Reads s.heap (.ref a) (dN ps) (a :: [] ++ []) := .dict ho hc.1 hd (by rw [List.map_map]; exact r1) (by rw [List.map_map]; exact r2)
  have hz : (dN ps).shown.length ≤ sizeLine := by
    simp only [PyData.shown]
    unfold dictText
    rw [strLen_append, strLen_append]
    have big : (2000000 : Nat) ≤ sizeLine := by decide
    have e1 : ((("{" : Str)).length) = 1 := rfl
    have e2 : ((("}" : Str)).length) = 1 := rfl
    by_cases c : PyData.shownKv (ps.map fun q => (PyData.int q.1, PyData.int q.2)) = []
    · rw [c]
      have e3 : (Str.join ", " ([] : List Str)).length = 0 := rfl
      omega
    · have := join_length_add _ c
      omega
  refine repr_of_reads' rd (by simp only [PyData.showable]; exact i1) (fun _ hm => ?_) hg (by
    have dk : ∀ ps : List (Int × Int), PyData.depthKv (ps.map fun q => (PyData.int q.1, PyData.int q.2)) ≤ 1 := fun ps => by
      induction ps with
      | nil => exact Nat.zero_le _
      | cons q ps ih =>
        simp only [List.map_cons, PyData.depthKv, PyData.depth]
        omega
    have := dk ps
    simp only [PyData.depth]
    omega) (fun _ _ e => e) (fun h' u tk hk => ?_) hz
  · have e : sysModules = a := by simpa using hm
    rw [← e] at lo
    simp at lo
  · exact ⟨.str _, H, I.kept hk, ⟨_, rfl⟩, q⟩
end

/-! ### ways -/
def LedI (ks : List Int) (nb : Int → List Int) (xs : List Int) : Prop := 2 ≤ xs.length ∧ (∀ x ∈ xs, x ∈ ks) ∧ xs.Nodup ∧ ∀ (i : Nat) (a b : Int), xs[i]? = some a → xs[i + 1]? = some b → b ∈ nb a
def WayI (liv ks : List Int) (nb : Int → List Int) (num : Int → Int) (xs : List Int) : Prop := LedI ks nb xs ∧ (∀ a, xs[0]? = some a → a ∈ liv) ∧ (∀ a, xs[xs.length - 1]? = some a → a ∈ liv) ∧ (∀ (i : Nat) (a : Int), 0 < i → i + 1 < xs.length → xs[i]? = some a → a ∉ liv) ∧
  ∀ a b, xs[0]? = some a → xs[xs.length - 1]? = some b → num a ≠ num b
def TupI (d : PyData) (P : List Int → Prop) : Prop := ∃ xs : List Int, d = .tuple (xs.map PyData.int) ∧ P xs
theorem ints_inj : ∀ {xs ys : List Int}, xs.map PyData.int = ys.map PyData.int → xs = ys
  | [], [], _ => rfl
  | x :: xs, y :: ys, h => by
    rw [List.map_cons, List.map_cons] at h
    injection h with h1 h2
    injection h1 with h1
    rw [h1, ints_inj h2]
  | [], _ :: _, h => by cases h
  | _ :: _, [], h => by cases h
theorem TupI.of {xs : List Int} {P : List Int → Prop} : TupI (.tuple (xs.map PyData.int)) P ↔ P xs := by
  constructor
  · rintro ⟨ys, e, p⟩
    injection e with e
    rw [ints_inj e]
    exact p
  · exact fun p => ⟨xs, rfl, p⟩
theorem nd_take {xs : List Int} : xs.Nodup ↔ ∀ (i : Nat) (a : Int), xs[i]? = some a → a ∉ xs.take i := by
  constructor
  · intro nd i a ha hm
    obtain ⟨j, hj⟩ := List.getElem?_of_mem hm
    have lj := (List.getElem?_eq_some_iff.mp hj).1
    rw [List.length_take] at lj
    rw [List.getElem?_take_of_lt (by omega)] at hj
    have li := (List.getElem?_eq_some_iff.mp ha).1
    have := (List.getElem?_inj (show j < xs.length by omega) nd).mp (hj.trans ha.symm)
    omega
  · intro h
    refine List.pairwise_iff_getElem.mpr fun i j hi hj lt e => ?_
    refine h j xs[j] (List.getElem?_eq_getElem hj) ?_
    rw [← e]
    exact List.mem_of_getElem? (i := i) (by rw [List.getElem?_take_of_lt lt]; exact List.getElem?_eq_getElem hi)
theorem zip_step {xs : List Int} {i : Nat} {a b : Int} : (xs.zip (xs.drop 1))[i]? = some (a, b) ↔ xs[i]? = some a ∧ xs[i + 1]? = some b := by
  rw [List.getElem?_zip_eq_some, List.getElem?_drop, Nat.add_comm 1 i]
theorem zip_len {xs : List Int} : (xs.zip (xs.drop 1)).length = xs.length - 1 := by
  rw [List.length_zip, List.length_drop]
  omega
/-! ### tuples cut and put together -/
section
variable {K : PySem.W.Frag} {H : Hp} {Q : VK} {s t : Addr} {xs ys : List V} {lo hi : Option Int}
theorem i_slA (h : SqT K H t xs) (q : ∀ p H', Kp [] H H' → SqT K H' p (cutV xs lo hi) → Q (.ref p) H') : rSlA K (.ref t) lo hi H Q := by
  refine ⟨t, xs, rfl, h, fun w => q t H Kp.refl ?_, fun _ p fp => q p _ (Kp.new ⟨fp⟩) (SqT.of upd_same)⟩
  have e : cutV xs lo hi = xs := by
    unfold cutV
    rw [w.1, w.2, List.drop_zero, Nat.sub_zero, List.take_length]
  rw [e]
  exact h
theorem i_catA (hs : SqT K H s xs) (ht : SqT K H t ys) (hz : xs.length + ys.length ≤ 1000000) (q : ∀ p H', Kp [] H H' → SqT K H' p (xs ++ ys) → Q (.ref p) H') : rCatA K (.ref s) (.ref t) H Q := by
  have big : (1000000 : Nat) ≤ sizeLine := by decide
  refine ⟨s, t, xs, ys, rfl, rfl, hs, ht, by omega, fun e => q t H Kp.refl ?_, fun _ e => q s H Kp.refl ?_, fun _ _ p fp => q p _ (Kp.new ⟨fp⟩) (SqT.of upd_same)⟩
  · rw [e, List.nil_append]
    exact ht
  · rw [e, List.append_nil]
    exact hs
theorem dpa_of_get : ∀ {vs : List V} {ds : List PyData}, vs.length = ds.length → (∀ (i : Nat) v d, vs[i]? = some v → ds[i]? = some d → Dp K H v d) → DpAll K H vs ds
  | [], [], _, _ => .nil
  | v :: vs, d :: ds, l, h => .cons (h 0 v d rfl rfl) (dpa_of_get (by simpa using l) fun i x y hx hy => h (i + 1) x y (by rw [List.getElem?_cons_succ]; exact hx) (by rw [List.getElem?_cons_succ]; exact hy))
  | [], _ :: _, l, _ => by cases l
  | _ :: _, [], l, _ => by cases l
theorem ZdA.kp {H' : Hp} {S : Addr} {i : Nat} {ps : List Addr} (z : ZdA H H' S xs ys i ps) (f : Fr H S) : Kp [] H H' := by
  have ne : ∀ {c u}, H c = some u → c ≠ S := fun {c u} e => fr_ne e f
  exact ⟨fun c u e _ => z.kept c u (ne e) e, fun c u e _ => z.kept c u (ne e) e, fun c u e => ⟨u, z.kept c u (ne e) e⟩⟩
theorem ZdA.ld {H' : Hp} {S : Addr} {ps : List Addr} {us ws : List Int} (z : ZdA H H' S (us.map V.int) (ws.map V.int) 0 ps) (hS : H' S = some (.lst (ps.map V.ref))) : LD K H' S ((us.zip ws).map d2) := by
  have l := z.len
  rw [List.length_map, List.length_map] at l
  refine ⟨_, hS, dpa_of_get (by rw [List.length_map, List.length_map, List.length_zip]; omega) fun i v d hv hd => ?_⟩
  rw [List.getElem?_map] at hv hd
  cases hp : ps[i]? with
  | none =>
    rw [hp] at hv
    cases hv
  | some p =>
    rw [hp] at hv
    cases hv
    cases hz : (us.zip ws)[i]? with
    | none =>
      rw [hz] at hd
      cases hd
    | some q =>
      rw [hz] at hd
      cases hd
      obtain ⟨a, b⟩ := q
      obtain ⟨ha, hb⟩ := List.getElem?_zip_eq_some.mp hz
      obtain ⟨x, y, ex, ey, e, _⟩ := z.at' i p hp
      rw [Nat.zero_add, List.getElem?_map, ha] at ex
      rw [Nat.zero_add, List.getElem?_map, hb] at ey
      cases ex
      cases ey
      exact .tup (SqT.of e) (.cons (.int _) (.cons (.int _) .nil))
end
theorem atI_end {ns : List Int} {f1 : Int} (g1 : ns[ns.length - 1]? = some f1) : atI (ns.map V.int) (-1) = some (.int f1) := by
  have l0 : 0 < ns.length := by
    have := (List.getElem?_eq_some_iff.mp g1).1
    omega
  have e : ns = ns.take (ns.length - 1) ++ [f1] := by
    apply List.ext_getElem?
    intro i
    by_cases c : i < ns.length - 1
    · rw [List.getElem?_append_left (by rw [List.length_take]; omega), List.getElem?_take_of_lt c]
    · by_cases c2 : i = ns.length - 1
      · have l1 : (ns.take (ns.length - 1)).length = ns.length - 1 := by rw [List.length_take]; omega
        rw [c2, g1, List.getElem?_append_right (by omega), l1, Nat.sub_self]
        rfl
      · rw [List.getElem?_eq_none (by omega), List.getElem?_eq_none (by rw [List.length_append, List.length_take, List.length_singleton]; omega)]
  rw [e, List.map_append]
  exact atI_last _ _
theorem prs_of_get {H : Hp} : ∀ {vs : List V} {ds : List (Int × Int)}, vs.length = ds.length → (∀ (i : Nat) v q, vs[i]? = some v → ds[i]? = some q → ∃ t, v = .ref t ∧ H t = some (.tup [.int q.1, .int q.2])) → PrsAt H vs ds
  | [], [], _, _ => trivial
  | v :: vs, d :: ds, l, h => ⟨h 0 v d rfl rfl, prs_of_get (by simpa using l) fun i x y hx hy => h (i + 1) x y (by rw [List.getElem?_cons_succ]; exact hx) (by rw [List.getElem?_cons_succ]; exact hy)⟩
  | [], _ :: _, l, _ => by cases l
  | _ :: _, [], l, _ => by cases l
theorem ZdA.prs {H H' : Hp} {S : Addr} {ps : List Addr} {us ws : List Int} (z : ZdA H H' S (us.map V.int) (ws.map V.int) 0 ps) : PrsAt H' (ps.map V.ref) (us.zip ws) := by
  have l := z.len
  rw [List.length_map, List.length_map] at l
  refine prs_of_get (by rw [List.length_map, List.length_zip]; omega) fun i v q hv hq => ?_
  rw [List.getElem?_map] at hv
  cases hp : ps[i]? with
  | none =>
    rw [hp] at hv
    cases hv
  | some p =>
    rw [hp] at hv
    cases hv
    obtain ⟨a, b⟩ := q
    obtain ⟨ha, hb⟩ := List.getElem?_zip_eq_some.mp hq
    obtain ⟨x, y, ex, ey, e, _⟩ := z.at' i p hp
    rw [Nat.zero_add, List.getElem?_map, ha] at ex
    rw [Nat.zero_add, List.getElem?_map, hb] at ey
    cases ex
    cases ey
    exact ⟨p, rfl, e⟩
theorem tg_tup {K : PySem.W.Frag} {H : Hp} {ws : List Addr} {v : V} {d : PyData} (t : Tg K H ws v d) (h : kTup d = true) : ∃ a xs ds, v = .ref a ∧ d = .tuple ds ∧ SqT K H a xs ∧ DxAll K H ws xs ds := by
  rcases t with t | ⟨rfl, _⟩
  · cases t with
    | tup hs ha => exact ⟨_, _, _, rfl, rfl, hs, ha⟩
    | non => cases h
    | bl => cases h
    | int => cases h
    | str => cases h
    | lst => cases h
  · cases h
/-- all are numbers of the list -/
theorem dxa_ints {K : PySem.W.Frag} {H : Hp} {ws : List Addr} {ks : List Int} : ∀ {xs : List V} {ds : List PyData}, DxAll K H ws xs ds → (∀ d ∈ ds, inL ks d = true) → ∃ ns : List Int, ds = ns.map PyData.int ∧ xs = ns.map V.int ∧ ∀ n ∈ ns, n ∈ ks
  | _, _, .nil, _ => ⟨[], rfl, rfl, fun n h => nomatch h⟩
  | _, _, .cons h1 h2, h => by
    obtain ⟨ns, e1, e2, e3⟩ := dxa_ints h2 fun d hd => h d (List.mem_cons_of_mem _ hd)
    obtain ⟨n, e, hn⟩ := inL_int (h _ List.mem_cons_self)
    subst e
    cases h1
    refine ⟨n :: ns, by rw [e1]; rfl, by rw [e2]; rfl, fun m hm => ?_⟩
    rcases List.mem_cons.mp hm with rfl | hm
    · exact hn
    · exact e3 m hm
def sp_steps (K : PySem.W.Frag) : Sp := fun vs H Q _ => ∃ (a : Addr) (xs : List Int), vs = [.ref a] ∧ SqT K H a (xs.map V.int) ∧ xs.length ≤ 1000 ∧ ∀ S H', Fr H S → Kp [] H H' → LD K H' S ((xs.zip (xs.drop 1)).map d2) → (∃ ys, H' S = some (.lst ys) ∧ PrsAt H' ys (xs.zip (xs.drop 1))) → Q (.ref S) H'
theorem sc_steps_of : FnScope ["way"] ["way"] (defScope s_steps_of) :=
  ⟨rfl, rfl, rfl, by decide +kernel, rfl, by decide +kernel, by decide +kernel⟩
theorem ok_steps_of {P : Program} {w : World} {K : PySem.W.Frag} {mg : Str → Option Value} {base : Heap} (T : Txt K mg) :
    FnG P w K mg base 1 T.a_steps_of T.d_steps_of ["way"] (sp_steps K) := by
  refine okD T.F_steps_of sc_steps_of (fun vs H Q E h => ?_) (fun cdv A outer s H vs Q E hr h => ?_)
  · first
      | (obtain ⟨_, rfl, _⟩ := h; rfl)
      | (obtain ⟨_, _, rfl, _⟩ := h; rfl)
      | (obtain ⟨_, _, _, rfl, _⟩ := h; rfl)
      | (obtain ⟨_, _, _, _, rfl, _⟩ := h; rfl)
      | (obtain ⟨_, _, _, _, _, rfl, _⟩ := h; rfl)
      | (obtain ⟨_, _, _, _, _, _, rfl, _⟩ := h; rfl)
      | (obtain ⟨_, _, _, _, _, _, _, rfl, _⟩ := h; rfl)
      | (obtain ⟨_, _, _, _, _, _, _, _, rfl, _⟩ := h; rfl)
      | (obtain ⟨_, _, _, _, _, _, _, _, _, rfl, _⟩ := h; rfl)
      | (obtain ⟨_, _, _, _, _, _, _, _, _, _, rfl, _⟩ := h; rfl)
      | (obtain ⟨_, _, _, _, _, _, _, _, _, _, _, rfl, _⟩ := h; rfl)
      | (obtain ⟨_, _, _, _, _, _, _, _, _, _, _, _, rfl, _⟩ := h; rfl)
      | (obtain ⟨_, _, _, _, _, _, _, _, _, _, _, _, _, rfl, _⟩ := h; rfl)
      | (obtain ⟨_, _, _, _, _, _, _, _, _, _, _, _, _, _, rfl, _⟩ := h; rfl)
      | (obtain ⟨_, _, _, _, _, _, _, _, _, _, _, _, _, _, _, rfl, _⟩ := h; rfl)
      | (obtain ⟨_, _, _, _, _, _, _, _, _, _, _, _, _, _, _, _, rfl, _⟩ := h; rfl)
      | (obtain ⟨_, _, _, _, _, _, _, _, _, _, _, _, _, _, _, _, _, rfl, _⟩ := h; rfl)
      | (obtain ⟨_, _, _, _, _, _, _, _, _, _, _, _, _, _, _, _, _, _, rfl, _⟩ := h; rfl)
      | (obtain ⟨_, _, _, _, _, _, _, _, _, _, _, _, _, _, _, _, _, _, _, rfl, _⟩ := h; rfl)
  · obtain ⟨a, xs, rfl, hs, l2, k⟩ := h
    refine ⟨_, (pss_one (ps_ret (pe_listZipA rfl (by rfl) T.n_list (by rfl) T.n_zip (pa_cons (pv 0) (pa_cons (pe_slice (k_slA (K := K) rfl) (pv 0) (po_some pe_int) po_none) pa_nil))))), ?_⟩
    dsimp only [cxOf, st_1, st_2, st_3, st_4, st_5, st_6, List.length_cons, List.length_nil, List.replicate_succ, List.replicate_zero, Nat.reduceAdd, Nat.reduceSub]
    walk_at "gs"
    refine i_listZipA ?_
    walk_at "gs"
    refine i_slA hs fun p H1 k1 hp => ?_
    rw [show cutV (xs.map V.int) (some 1) none = (xs.drop 1).map V.int from by show cutV (xs.map V.int) (some ((1 : Nat) : Int)) none = _; rw [cutV_on, List.map_drop]] at hp
    walk_at "gs"
    refine ⟨true, true, a, p, _, _, rfl, k1.seqT hs, hp, fun H2 S ps fS hS zd => ?_⟩
    walk_at "gs"
    exact k S H2 (k1.free fS) (Kp.trans k1 (zd.kp fS)) (zd.ld hS) ⟨_, hS, zd.prs⟩

def sp_isled (K : PySem.W.Frag) (C : Addr) : Sp := fun vs H Q _ => ∃ (D : Int → Int → Int) (t : Addr) (ps : List Addr) (ever : Int) (liv ks : List Int) (nb : Int → List Int) (v : V) (d : PyData) (ws : List Addr), vs = [.ref t, v] ∧ TiesAt C H t ps ever liv ks nb ∧ Tr3 D ever liv ks nb ∧ ever ≤ 200 ∧ Tg K H ws v d ∧ (∀ ds, d = .tuple ds → ds.length ≤ 1000) ∧
  ∀ b H', Kp [] H H' → (b = true ↔ TupI d (LedI ks nb)) → Q (.bl b) H'
theorem sc_is_led : FnScope ["ties", "thing", "world", "at", "one", "other"] ["ties", "thing"] (defScope s_is_led) :=
  ⟨rfl, rfl, rfl, by decide +kernel, rfl, by decide +kernel, by decide +kernel⟩
theorem ok_is_led {P : Program} {w : World} {K : PySem.W.Frag} {mg : Str → Option Value} {base : Heap} (T : Txt K mg) :
    FnG P w K mg base 4 T.a_is_led T.d_is_led ["ties", "thing"] (sp_isled K T.c_Ties) := by
  refine okD T.F_is_led sc_is_led (fun vs H Q E h => ?_) (fun cdv A outer s H vs Q E hr h => ?_)
  · first
      | (obtain ⟨_, rfl, _⟩ := h; rfl)
      | (obtain ⟨_, _, rfl, _⟩ := h; rfl)
      | (obtain ⟨_, _, _, rfl, _⟩ := h; rfl)
      | (obtain ⟨_, _, _, _, rfl, _⟩ := h; rfl)
      | (obtain ⟨_, _, _, _, _, rfl, _⟩ := h; rfl)
      | (obtain ⟨_, _, _, _, _, _, rfl, _⟩ := h; rfl)
      | (obtain ⟨_, _, _, _, _, _, _, rfl, _⟩ := h; rfl)
      | (obtain ⟨_, _, _, _, _, _, _, _, rfl, _⟩ := h; rfl)
      | (obtain ⟨_, _, _, _, _, _, _, _, _, rfl, _⟩ := h; rfl)
      | (obtain ⟨_, _, _, _, _, _, _, _, _, _, rfl, _⟩ := h; rfl)
      | (obtain ⟨_, _, _, _, _, _, _, _, _, _, _, rfl, _⟩ := h; rfl)
      | (obtain ⟨_, _, _, _, _, _, _, _, _, _, _, _, rfl, _⟩ := h; rfl)
      | (obtain ⟨_, _, _, _, _, _, _, _, _, _, _, _, _, rfl, _⟩ := h; rfl)
      | (obtain ⟨_, _, _, _, _, _, _, _, _, _, _, _, _, _, rfl, _⟩ := h; rfl)
      | (obtain ⟨_, _, _, _, _, _, _, _, _, _, _, _, _, _, _, rfl, _⟩ := h; rfl)
      | (obtain ⟨_, _, _, _, _, _, _, _, _, _, _, _, _, _, _, _, rfl, _⟩ := h; rfl)
      | (obtain ⟨_, _, _, _, _, _, _, _, _, _, _, _, _, _, _, _, _, rfl, _⟩ := h; rfl)
      | (obtain ⟨_, _, _, _, _, _, _, _, _, _, _, _, _, _, _, _, _, _, rfl, _⟩ := h; rfl)
      | (obtain ⟨_, _, _, _, _, _, _, _, _, _, _, _, _, _, _, _, _, _, _, rfl, _⟩ := h; rfl)
  · obtain ⟨D, t, ps, ever, liv, ks, nb, v, d, ws, rfl, x, z, he, tg, small, k⟩ := h
    have no : ∀ {P : Prop}, ¬ P → (false = true ↔ P) := fun {P} n => ⟨fun z => (nomatch z), fun p => absurd p n⟩
    have cl_Ties := T.cl_Ties
    have na_Ties_near := T.na_Ties_near
    have na_Ties_own_ever := T.na_Ties_own_ever
    have na_Ties_own_living := T.na_Ties_own_living
    refine ⟨_, (pss_cons (ps_if (PW.pt (pw_or (pt_not (pt_val (pe_callB (k_isi (K := K) rfl) (by rfl) T.n_isinstance (by decide +kernel) (pa_cons (pv 1) (pa_cons (pe_bltn (v := .ty "tuple") (by rfl) T.n_tuple (by decide +kernel) rfl) pa_nil))))) (pw_or (pt_cmpR op_lt (pe_callB (k_len (K := K) rfl) (by rfl) T.n_len (by decide +kernel) (pa_cons (pv 1) pa_nil)) (pe_glob (v := V.int 2) rfl T.g_FEWEST_WORLDS ⟨_, rfl⟩) (nomark _)) (pw_or1 (pt_not (pt_val (pe_callB (k_all (K := K) rfl rfl) (by rfl) T.n_all (by decide +kernel) (pa_cons (pe_lc (own := [("world", 2)]) (g := (gName 2)) (tt := tYes) rfl sc_is_led.nd (k_ptup (K := K) rfl (pv 1)) (blkOk_by (own := [("world", 2)]) (N := ["ties", "thing", "world", "at", "one", "other"]) (sc := defScope s_is_led) (by decide +kernel)) (fun _ _ _ _ _ => (pg_name (i := 2) sc_is_led.nd rfl (Or.inl rfl))) (fun _ _ _ _ _ => pts_nil) (fun _ _ _ _ _ => (dm T.cl_Ties T.me_Ties_has (ok_Ties_has T) (hr.mono (by decide)) T.b_Ties_has passL (pv 0) (pa_cons (pv 2) pa_nil)))) pa_nil)))))))) (pss_one (ps_ret pe_bl)) pss_nil)
      (pss_cons (ps_if (pt_val (pe_callB (k_any (K := K) rfl rfl) (by rfl) T.n_any (by decide +kernel) (pa_cons (pe_lc (own := [("at", 3), ("world", 2)]) (g := (gTup K 2 (gCons (gName 3) (gCons (gName 2) gNil)))) (tt := tYes) rfl sc_is_led.nd (pi_enumA (by rfl) T.n_enumerate (pa_cons (pv 1) pa_nil)) (blkOk_by (own := [("at", 3), ("world", 2)]) (N := ["ties", "thing", "world", "at", "one", "other"]) (sc := defScope s_is_led) (by decide +kernel)) (fun _ _ _ _ _ => (k_gtup (K := K) 2 rfl rfl (pgs_cons (pg_name (i := 3) sc_is_led.nd rfl (Or.inl rfl)) (pgs_cons (pg_name (i := 2) sc_is_led.nd rfl (Or.inl rfl)) pgs_nil)))) (fun _ _ _ _ _ => pts_nil) (fun _ _ _ _ _ => (pe_cmpR (k_in (K := K) rfl) (pv 2) (pe_slice (k_slA (K := K) rfl) (pv 1) po_none (po_some (pv 3))) (rfl)))) pa_nil))) (pss_one (ps_ret pe_bl)) pss_nil)
      (pss_one (ps_ret (pe_callB (k_all (K := K) rfl rfl) (by rfl) T.n_all (by decide +kernel) (pa_cons (pe_lc (own := [("one", 4), ("other", 5)]) (g := (gTup K 2 (gCons (gName 4) (gCons (gName 5) gNil)))) (tt := tYes) rfl sc_is_led.nd (k_plist (K := K) rfl (d1 (ok_steps_of T) (hr.mono (by decide)) (by rfl) T.m_steps_of T.F_steps_of.kp T.b_steps_of passL (pa_cons (pv 1) pa_nil))) (blkOk_by (own := [("one", 4), ("other", 5)]) (N := ["ties", "thing", "world", "at", "one", "other"]) (sc := defScope s_is_led) (by decide +kernel)) (fun _ _ _ _ _ => (k_gtup (K := K) 2 rfl rfl (pgs_cons (pg_name (i := 4) sc_is_led.nd rfl (Or.inl rfl)) (pgs_cons (pg_name (i := 5) sc_is_led.nd rfl (Or.inl rfl)) pgs_nil)))) (fun _ _ _ _ _ => pts_nil) (fun _ _ _ _ _ => (pe_cmpR (k_in (K := K) rfl) (pv 5) (dm T.cl_Ties T.me_Ties_tied (ok_Ties_tied T) (hr.mono (by decide)) T.b_Ties_tied passL (pv 0) (pa_cons (pv 4) pa_nil)) (rfl)))) pa_nil)))))), ?_⟩
    dsimp only [cxOf, st_1, st_2, st_3, st_4, st_5, st_6, List.length_cons, List.length_nil, List.replicate_succ, List.replicate_zero, Nat.reduceAdd, Nat.reduceSub]
    walk_at "gs"
    refine i_isA (Any.tg tg) (kit_tup d) ?_
    walk_at "gs"
    refine i_boN (fun c => ?_) (fun c => ?_)
    · walk_at "gs"
      exact k false H Kp.refl (no fun ⟨xs, e, _⟩ => by rw [e] at c; cases c)
    obtain ⟨a, xs, ds, rfl, rfl, hs, da⟩ := tg_tup tg c
    have lx := dxa_len da
    have sm := small ds rfl
    walk_at "gs"
    refine i_dec (fun c2 => ?_) (fun c2 => ?_)
    · walk_at "gs"
      exact k false H Kp.refl (no fun ⟨ys, e, l, _⟩ => by
        injection e with e
        rw [lx, e, List.length_map] at c2
        omega)
    walk_at "gs"
    refine i_lcT ?_
    walk_at "gs"
    refine i_eltsT hs (fun G i H' => Kp [] H H' ∧ H' G = some (.lst (((ds.take i).map fun e => inL ks e).map V.bl))) ?_ ?_ ?_ ?_
    · intro G fG
      exact ⟨Kp.new fG, upd_same⟩
    · rintro G i H' fG _ ⟨kk, _⟩
      exact kk.seqT hs
    · rintro G i y H' fG hy ⟨kk, hG⟩
      obtain ⟨e, he2, hdx⟩ := dxa_get da hy
      have il := (List.getElem?_eq_some_iff.mp he2).1
      obtain ⟨_, _, _, hti⟩ := (x.kp0 kk).ins
      walk_at "gs"
      refine ⟨t, ps, ever, liv, ks, nb, y, e, rfl, x.kp0 kk, Any.tg (ws := ws) (.inl (hdx.kp kk.wide)), ?_⟩
      walk_at "gs"
      refine ⟨_, hG, small_sz (by rw [List.length_map, List.length_map, List.length_take]; omega), Kp.upd kk fG, ?_⟩
      rw [List.take_add_one, he2, Option.toList_some, List.map_append, List.map_append]
      exact upd_same
    rintro G H1 fG ⟨k1, hG⟩
    rw [lx, List.take_length] at hG
    walk_at "gs"
    refine i_all (SqL.of hG) ?_
    walk_at "gs"
    have alls : (((ds.map fun e => inL ks e).all id) = true) ↔ ∀ e ∈ ds, inL ks e = true := by
      rw [List.all_eq_true]
      constructor
      · intro h e he2
        exact h _ (List.mem_map.mpr ⟨e, he2, rfl⟩)
      · intro h b hb
        obtain ⟨e, he2, rfl⟩ := List.mem_map.mp hb
        exact h e he2
    refine i_boN (fun c3 => ?_) (fun c3 => ?_)
    · walk_at "gs"
      refine k false H1 k1 (no fun ⟨ys, e, _, hk, _⟩ => ?_)
      injection e with e
      have : ((ds.map fun e => inL ks e).all id) = true := alls.mpr fun e' he' => by
        rw [e] at he'
        obtain ⟨y, hy, rfl⟩ := List.mem_map.mp he'
        exact decide_eq_true ⟨(z.hU y (hk y hy)).1, hk y hy⟩
      rw [this] at c3
      cases c3
    obtain ⟨ns, rfl, rfl, hk⟩ := dxa_ints da (alls.mp c3)
    clear alls c3 da
    rw [List.length_map] at lx c2 sm
    rw [TupI.of] at k
    have hs1 := k1.seqT hs
    walk_at "gs"
    refine i_lcE ?_
    walk_at "gs"
    refine i_eltsE (k := true) hs1 (fun G i H' => Kp [] H1 H' ∧ H' G = some (.lst (((List.range i).map fun j => decide (ns.getD j 0 ∈ ns.take j)).map V.bl))) ?_ ?_ ?_ ?_
    · intro G fG
      exact ⟨Kp.new fG, upd_same⟩
    · rintro G i H' fG _ ⟨kk, _⟩
      exact kk.seqT hs1
    · rintro G i y T H' fG hy ⟨kk, hG⟩ fT
      obtain ⟨n, hn, e⟩ := map_get hy
      subst e
      have il := (List.getElem?_eq_some_iff.mp hn).1
      have kT := Kp.new (ws := []) (o := HO.tup [V.int (i : Nat), V.int n]) fT
      have hT := fresh_at (o := HO.tup [V.int (i : Nat), V.int n]) fT
      obtain ⟨H5, e5⟩ : ∃ H5, H5 = upd H' T (.tup [V.int (i : Nat), V.int n]) := ⟨_, rfl⟩
      rw [← e5] at kT hT ⊢
      have hsT : SqT K H5 T [V.int (i : Nat), V.int n] := SqT.of hT
      have hs5 := (Kp.trans kk kT).seqT hs1
      walk_at "gs"
      refine i_slA hs5 fun p H6 k6 hp => ?_
      rw [cutV_upto, ← List.map_take] at hp
      walk_at "gs"
      refine i_inT hp ?_
      have hG6 := (Kp.trans kT k6).at_ _ _ hG not_nil
      walk_at "gs"
      refine ⟨_, hG6, small_sz (by rw [List.length_map, List.length_map, List.length_range]; omega), Kp.upd (Kp.trans kk (Kp.trans kT k6)) fG, ?_⟩
      have en : ns.getD i 0 = n := by rw [List.getD_eq_getElem?_getD, hn]; rfl
      rw [List.range_succ, List.map_append, List.map_append, List.map_cons, List.map_nil, List.map_cons, List.map_nil, en]
      exact upd_same
    rintro G2 H2 fG2 ⟨k2, hG2⟩
    rw [List.length_map] at hG2
    walk_at "gs"
    refine i_any (SqL.of hG2) ?_
    have anys : (((List.range ns.length).map fun j => decide (ns.getD j 0 ∈ ns.take j)).any id = true) ↔ ¬ ns.Nodup := by
      rw [List.any_eq_true, nd_take]
      constructor
      · rintro ⟨b, hb, e⟩ h
        obtain ⟨j, hj, rfl⟩ := List.mem_map.mp hb
        have lj := List.mem_range.mp hj
        have e2 := of_decide_eq_true e
        exact h j ns[j] (List.getElem?_eq_getElem lj) (by rw [List.getD_eq_getElem?_getD, List.getElem?_eq_getElem lj] at e2; exact e2)
      · intro h
        refine Classical.byContradiction fun no2 => h fun i a ha hm => no2 ?_
        have li := (List.getElem?_eq_some_iff.mp ha).1
        exact ⟨true, List.mem_map.mpr ⟨i, List.mem_range.mpr li, decide_eq_true (by rw [List.getD_eq_getElem?_getD, ha]; exact hm)⟩, rfl⟩
    walk_at "gs"
    refine i_bool2 (fun c4 => ?_) (fun c4 => ?_)
    · walk_at "gs"
      exact k false H2 (Kp.trans k1 k2) (no fun h => anys.mp c4 h.2.2.1)
    have nd : ns.Nodup := Classical.byContradiction fun h => by
      rw [anys.mpr h] at c4
      cases c4
    clear anys c4
    have hs2 := k2.seqT hs1
    have k02 := Kp.trans k1 k2
    walk_at "gs"
    refine ⟨a, ns, rfl, hs2, by omega, fun S H3 fS k3 ldS _ => ?_⟩
    obtain ⟨vsS, hS, avS⟩ := id ldS
    have lS := dpa_len avS
    rw [List.length_map, zip_len] at lS
    have k03 := Kp.trans k02 k3
    walk_at "gs"
    refine i_elts (SqL.of hS) (fun G i H' => Kp [] H3 H' ∧ H' G = some (.lst ((((ns.zip (ns.drop 1)).take i).map fun q => decide (q.2 ∈ nb q.1)).map V.bl))) ?_ ?_ ?_ ?_
    · intro G fG
      exact ⟨Kp.new fG, upd_same⟩
    · rintro G i H' fG _ ⟨kk, _⟩
      exact SqL.of (kk.at_ _ _ hS not_nil)
    · rintro G i y H' fG hy ⟨kk, hG⟩
      obtain ⟨dd, hdd, hdp⟩ := dpa_getV avS hy
      obtain ⟨q, hq, rfl⟩ := map_get hdd
      obtain ⟨T0, rfl, hT⟩ := dp_pair (dp_imm kk _ _ rfl hdp)
      obtain ⟨qa, qb⟩ := zip_step (i := i) (a := q.1) (b := q.2) |>.mp hq
      have ha := hk _ (List.mem_of_getElem? qa)
      have il := (List.getElem?_eq_some_iff.mp qa).1
      obtain ⟨_, _, _, hti⟩ := (x.kp0 (Kp.trans k03 kk)).ins
      walk_at "gs"
      refine ⟨D, t, ps, ever, liv, ks, nb, q.1, rfl, x.kp0 (Kp.trans k03 kk), z, he, ha, fun R fs H6 fR k6 hR _ hm => ?_⟩
      have hG6 := k6.at_ _ _ hG not_nil
      have hsR : SqL K H6 R (fs.map V.int) := SqL.of hR
      walk_at "gs"
      refine ⟨_, hG6, small_sz (by rw [List.length_map, List.length_map, List.length_take]; omega), Kp.upd (Kp.trans kk k6) fG, ?_⟩
      have ed : decide (q.2 ∈ fs) = decide (q.2 ∈ nb q.1) := decide_eq_decide.mpr (hm q.2)
      rw [List.take_add_one, hq, Option.toList_some, List.map_append, List.map_append, List.map_cons, List.map_nil, List.map_cons, List.map_nil, ed]
      exact upd_same
    rintro G3 H4 fG3 ⟨k4, hG3⟩
    rw [lS, show ns.length - 1 = (ns.zip (ns.drop 1)).length from zip_len.symm, List.take_length] at hG3
    walk_at "gs"
    refine i_all (SqL.of hG3) ?_
    refine k _ H4 (Kp.trans k03 k4) ?_
    rw [List.all_eq_true]
    constructor
    · intro h
      refine ⟨by omega, hk, nd, fun i p q hp hq => ?_⟩
      have := h _ (List.mem_map.mpr ⟨(p, q), List.mem_of_getElem? (zip_step.mpr ⟨hp, hq⟩), rfl⟩)
      exact of_decide_eq_true this
    · rintro ⟨_, _, _, st⟩ b hb
      obtain ⟨q, hq, rfl⟩ := List.mem_map.mp hb
      obtain ⟨i, hi⟩ := List.getElem?_of_mem hq
      obtain ⟨h1, h2⟩ := zip_step (a := q.1) (b := q.2) |>.mp hi
      exact decide_eq_true (st i _ _ h1 h2)

theorem cutV_mid {xs : List V} (h : 1 ≤ xs.length) : cutV xs (some 1) (some (-1)) = (xs.drop 1).take (xs.length - 2) := by
  unfold cutV
  have e1 : HT.sIx xs.length 0 (some 1) = 1 := by
    show HT.sIx xs.length 0 (some ((1 : Nat) : Int)) = 1
    rw [HT.sIx_nat]
    omega
  have e2 : HT.sIx xs.length xs.length (some (-1)) = xs.length - 1 := by
    show (if (-1 : Int) < 0 then ((-1 : Int) + (xs.length : Int)).toNat else min (-1 : Int).toNat xs.length) = xs.length - 1
    rw [if_pos (by decide)]
    omega
  rw [e1, e2]
  rfl
theorem inL_nn {l : List Int} {n : Int} (h : 0 ≤ n) : inL l (.int n) = decide (n ∈ l) := decide_eq_decide.mpr ⟨fun z => z.2, fun z => ⟨h, z⟩⟩
def sp_isway (K : PySem.W.Frag) (C : Addr) : Sp := fun vs H Q _ => ∃ (D : Int → Int → Int) (t : Addr) (ps : List Addr) (ever : Int) (liv ks : List Int) (nb : Int → List Int) (v : V) (d : PyData) (ws : List Addr) (dn : Addr) (prs : List (Int × Int)), vs = [.ref t, .ref dn, v] ∧ TiesAt C H t ps ever liv ks nb ∧ Tr3 D ever liv ks nb ∧ ever ≤ 200 ∧ Tg K H ws v d ∧ (∀ ds, d = .tuple ds → ds.length ≤ 1000) ∧
  H dn = some (.dK (prs.map kN)) ∧ prs.map (·.1) = liv ∧ ∀ b H', Kp [] H H' → (b = true ↔ TupI d (WayI liv ks nb (look prs))) → Q (.bl b) H'
theorem sc_is_way : FnScope ["ties", "numbers", "thing", "world"] ["ties", "numbers", "thing"] (defScope s_is_way) :=
  ⟨rfl, rfl, rfl, by decide +kernel, rfl, by decide +kernel, by decide +kernel⟩
theorem ok_is_way {P : Program} {w : World} {K : PySem.W.Frag} {mg : Str → Option Value} {base : Heap} (T : Txt K mg) :
    FnG P w K mg base 5 T.a_is_way T.d_is_way ["ties", "numbers", "thing"] (sp_isway K T.c_Ties) := by
  refine okD T.F_is_way sc_is_way (fun vs H Q E h => ?_) (fun cdv A outer s H vs Q E hr h => ?_)
  · first
      | (obtain ⟨_, rfl, _⟩ := h; rfl)
      | (obtain ⟨_, _, rfl, _⟩ := h; rfl)
      | (obtain ⟨_, _, _, rfl, _⟩ := h; rfl)
      | (obtain ⟨_, _, _, _, rfl, _⟩ := h; rfl)
      | (obtain ⟨_, _, _, _, _, rfl, _⟩ := h; rfl)
      | (obtain ⟨_, _, _, _, _, _, rfl, _⟩ := h; rfl)
      | (obtain ⟨_, _, _, _, _, _, _, rfl, _⟩ := h; rfl)
      | (obtain ⟨_, _, _, _, _, _, _, _, rfl, _⟩ := h; rfl)
      | (obtain ⟨_, _, _, _, _, _, _, _, _, rfl, _⟩ := h; rfl)
      | (obtain ⟨_, _, _, _, _, _, _, _, _, _, rfl, _⟩ := h; rfl)
      | (obtain ⟨_, _, _, _, _, _, _, _, _, _, _, rfl, _⟩ := h; rfl)
      | (obtain ⟨_, _, _, _, _, _, _, _, _, _, _, _, rfl, _⟩ := h; rfl)
      | (obtain ⟨_, _, _, _, _, _, _, _, _, _, _, _, _, rfl, _⟩ := h; rfl)
      | (obtain ⟨_, _, _, _, _, _, _, _, _, _, _, _, _, _, rfl, _⟩ := h; rfl)
      | (obtain ⟨_, _, _, _, _, _, _, _, _, _, _, _, _, _, _, rfl, _⟩ := h; rfl)
      | (obtain ⟨_, _, _, _, _, _, _, _, _, _, _, _, _, _, _, _, rfl, _⟩ := h; rfl)
      | (obtain ⟨_, _, _, _, _, _, _, _, _, _, _, _, _, _, _, _, _, rfl, _⟩ := h; rfl)
      | (obtain ⟨_, _, _, _, _, _, _, _, _, _, _, _, _, _, _, _, _, _, rfl, _⟩ := h; rfl)
      | (obtain ⟨_, _, _, _, _, _, _, _, _, _, _, _, _, _, _, _, _, _, _, rfl, _⟩ := h; rfl)
  · obtain ⟨D, t, ps, ever, liv, ks, nb, v, d, ws, dn, prs, rfl, x, z, he, tg, small, hdn, kp, k⟩ := h
    have no : ∀ {P : Prop}, ¬ P → (false = true ↔ P) := fun {P} n => ⟨fun z => (nomatch z), fun p => absurd p n⟩
    have cl_Ties := T.cl_Ties
    have na_Ties_near := T.na_Ties_near
    have na_Ties_own_ever := T.na_Ties_own_ever
    have na_Ties_own_living := T.na_Ties_own_living
    refine ⟨_, (pss_cons (ps_if (PW.pt (pw_or (pt_not (pt_val (d1 (ok_is_led T) (hr.mono (by decide)) (by rfl) T.m_is_led T.F_is_led.kp T.b_is_led passL (pa_cons (pv 0) (pa_cons (pv 2) pa_nil))))) (pw_or (pt_not (pt_val (dm T.cl_Ties T.me_Ties_lives (ok_Ties_lives T) (hr.mono (by decide)) T.b_Ties_lives passL (pv 0) (pa_cons (pe_ix (k_ix (K := K) rfl) (pv 2) pe_int (fun _ _ => rfl)) pa_nil)))) (pw_or1 (pt_not (pt_val (dm T.cl_Ties T.me_Ties_lives (ok_Ties_lives T) (hr.mono (by decide)) T.b_Ties_lives passL (pv 0) (pa_cons (pe_ix (k_ix (K := K) rfl) (pv 2) (pe_un un_neg pe_int) (fun _ _ => rfl)) pa_nil)))))))) (pss_one (ps_ret pe_bl)) pss_nil)
      (pss_cons (ps_if (pt_val (pe_callB (k_any (K := K) rfl rfl) (by rfl) T.n_any (by decide +kernel) (pa_cons (pe_lc (own := [("world", 3)]) (g := (gName 3)) (tt := tYes) rfl sc_is_way.nd (k_ptup (K := K) rfl (pe_slice (k_slA (K := K) rfl) (pv 2) (po_some pe_int) (po_some (pe_un un_neg pe_int)))) (blkOk_by (own := [("world", 3)]) (N := ["ties", "numbers", "thing", "world"]) (sc := defScope s_is_way) (by decide +kernel)) (fun _ _ _ _ _ => (pg_name (i := 3) sc_is_way.nd rfl (Or.inl rfl))) (fun _ _ _ _ _ => pts_nil) (fun _ _ _ _ _ => (dm T.cl_Ties T.me_Ties_lives (ok_Ties_lives T) (hr.mono (by decide)) T.b_Ties_lives passL (pv 0) (pa_cons (pv 3) pa_nil)))) pa_nil))) (pss_one (ps_ret pe_bl)) pss_nil)
      (pss_one (ps_ret (pe_cmpR (k_ne (K := K) rfl hr.r.units) (pe_dget (u1 hr.r.units) (pv 1) (pe_ix (k_ix (K := K) rfl) (pv 2) pe_int (fun _ _ => rfl)) (fun _ _ => rfl)) (pe_dget (u1 hr.r.units) (pv 1) (pe_ix (k_ix (K := K) rfl) (pv 2) (pe_un un_neg pe_int) (fun _ _ => rfl)) (fun _ _ => rfl)) (nomark _)))))), ?_⟩
    dsimp only [cxOf, st_1, st_2, st_3, st_4, st_5, st_6, List.length_cons, List.length_nil, List.replicate_succ, List.replicate_zero, Nat.reduceAdd, Nat.reduceSub]
    walk_at "gs"
    refine ⟨D, t, ps, ever, liv, ks, nb, v, d, ws, rfl, x, z, he, tg, small, fun b H1 k1 hb => ?_⟩
    walk_at "gs"
    refine i_boN (fun c => ?_) (fun c => ?_)
    · walk_at "gs"
      exact k false H1 k1 (no fun ⟨ys, e, w⟩ => by
        rw [hb.mpr ⟨ys, e, w.1⟩] at c
        cases c)
    obtain ⟨ns, rfl, led⟩ := hb.mp c
    obtain ⟨a, xs, ds, rfl, ed, hs, da⟩ := tg_tup tg rfl
    injection ed with ed
    subst ed
    obtain ⟨ns2, e1, rfl, _⟩ := dxa_ints (ks := ks) da fun e he' => by
      obtain ⟨y, hy, rfl⟩ := List.mem_map.mp he'
      exact decide_eq_true ⟨(z.hU y (led.2.1 y hy)).1, led.2.1 y hy⟩
    have e2 := ints_inj e1
    subst e2
    clear hb c e1 da
    have sm := small _ rfl
    rw [List.length_map] at sm
    rw [TupI.of] at k
    obtain ⟨l2, hk, nd, st⟩ := led
    have hs1 := k1.seqT hs
    obtain ⟨f0, g0⟩ : ∃ f0, ns[0]? = some f0 := ⟨_, List.getElem?_eq_getElem (by omega)⟩
    obtain ⟨f1, g1⟩ : ∃ f1, ns[ns.length - 1]? = some f1 := ⟨_, List.getElem?_eq_getElem (by omega)⟩
    have at0 : atI (ns.map V.int) 0 = some (.int f0) := atI_nat (by rw [List.getElem?_map, g0]; rfl)
    have at1 : atI (ns.map V.int) (-1) = some (.int f1) := by
      have e : ns = ns.take (ns.length - 1) ++ [f1] := by
        apply List.ext_getElem?
        intro i
        by_cases c : i < ns.length - 1
        · rw [List.getElem?_append_left (by rw [List.length_take]; omega), List.getElem?_take_of_lt c]
        · by_cases c2 : i = ns.length - 1
          · have l1 : (ns.take (ns.length - 1)).length = ns.length - 1 := by rw [List.length_take]; omega
            rw [c2, g1, List.getElem?_append_right (by omega), l1, Nat.sub_self]
            rfl
          · rw [List.getElem?_eq_none (by omega), List.getElem?_eq_none (by rw [List.length_append, List.length_take, List.length_singleton]; omega)]
      rw [e, List.map_append]
      exact atI_last _ _
    have k0 := hk _ (List.mem_of_getElem? g0)
    have k9 := hk _ (List.mem_of_getElem? g1)
    obtain ⟨_, _, _, hti⟩ := (x.kp0 k1).ins
    walk_at "gs"
    refine ⟨t, ps, ever, liv, ks, nb, _, _, rfl, x.kp0 k1, Any.int f0, ?_⟩
    rw [inL_nn (z.hU f0 k0).1]
    walk_at "gs"
    refine i_decN (fun c => ?_) (fun c => ?_)
    · walk_at "gs"
      exact k false H1 k1 (no fun w => c (w.2.1 _ g0))
    walk_at "gs"
    refine ⟨t, ps, ever, liv, ks, nb, _, _, rfl, x.kp0 k1, Any.int f1, ?_⟩
    rw [inL_nn (z.hU f1 k9).1]
    walk_at "gs"
    refine i_decN (fun c2 => ?_) (fun c2 => ?_)
    · walk_at "gs"
      exact k false H1 k1 (no fun w => c2 (w.2.2.1 _ g1))
    walk_at "gs"
    refine i_lcT ?_
    walk_at "gs"
    refine i_slA hs1 fun p H2 k2 hp => ?_
    rw [cutV_mid (by rw [List.length_map]; omega), List.length_map, ← List.map_drop, ← List.map_take] at hp
    have k02 := Kp.trans k1 k2
    obtain ⟨ms, ems⟩ : ∃ ms, ms = (ns.drop 1).take (ns.length - 2) := ⟨_, rfl⟩
    rw [← ems] at hp
    have mget : ∀ (i : Nat) (a : Int), ms[i]? = some a ↔ i + 2 < ns.length ∧ ns[i + 1]? = some a := fun i a => by
      rw [ems, List.getElem?_take]
      by_cases c : i < ns.length - 2
      · rw [if_pos c, List.getElem?_drop, Nat.add_comm 1 i]
        exact ⟨fun h => ⟨by omega, h⟩, fun h => h.2⟩
      · rw [if_neg c]
        exact ⟨fun h => (nomatch h), fun h => absurd h.1 (by omega)⟩
    have lms : ms.length ≤ 1000 := by
      rw [ems, List.length_take]
      omega
    walk_at "gs"
    refine i_eltsT hp (fun G i H' => Kp [] H2 H' ∧ H' G = some (.lst (((ms.take i).map fun e => decide (e ∈ liv)).map V.bl))) ?_ ?_ ?_ ?_
    · intro G fG
      exact ⟨Kp.new fG, upd_same⟩
    · rintro G i H' fG _ ⟨kk, _⟩
      exact kk.seqT hp
    · rintro G i y H' fG hy ⟨kk, hG⟩
      obtain ⟨n, hn, e⟩ := map_get hy
      subst e
      have il := (List.getElem?_eq_some_iff.mp hn).1
      have nk := hk _ (List.mem_of_getElem? ((mget i n).mp hn).2)
      have xk := x.kp0 (Kp.trans k02 kk)
      obtain ⟨_, _, _, hti2⟩ := xk.ins
      walk_at "gs"
      refine ⟨t, ps, ever, liv, ks, nb, _, _, rfl, xk, Any.int n, ?_⟩
      rw [inL_nn (z.hU n nk).1]
      walk_at "gs"
      refine ⟨_, hG, small_sz (by rw [List.length_map, List.length_map, List.length_take]; omega), Kp.upd kk fG, ?_⟩
      rw [List.take_add_one, hn, Option.toList_some, List.map_append, List.map_append]
      exact upd_same
    rintro G H3 fG ⟨k3, hG⟩
    rw [List.length_map, List.take_length] at hG
    have k03 := Kp.trans k02 k3
    walk_at "gs"
    refine i_any (SqL.of hG) ?_
    have anys : ((ms.map fun e => decide (e ∈ liv)).any id = true) ↔ ∃ e ∈ ms, e ∈ liv := by
      rw [List.any_eq_true]
      constructor
      · rintro ⟨b, hb, e⟩
        obtain ⟨y, hy, rfl⟩ := List.mem_map.mp hb
        exact ⟨y, hy, of_decide_eq_true e⟩
      · rintro ⟨y, hy, e⟩
        exact ⟨true, List.mem_map.mpr ⟨y, hy, decide_eq_true e⟩, rfl⟩
    walk_at "gs"
    refine i_bool2 (fun c3 => ?_) (fun c3 => ?_)
    · walk_at "gs"
      obtain ⟨y, hy, hl⟩ := anys.mp c3
      obtain ⟨i, hi⟩ := List.getElem?_of_mem hy
      obtain ⟨h1, h2⟩ := (mget i y).mp hi
      exact k false H3 k03 (no fun w => w.2.2.2.1 (i + 1) y (by omega) (by omega) h2 hl)
    have hdn3 := k03.at_ _ _ hdn not_nil
    have v0 := (look_mem (w := f0) (ps := prs) (by rw [kp]; exact c)).2
    have v1 := (look_mem (w := f1) (ps := prs) (by rw [kp]; exact c2)).2
    have hs3 := k03.seqT hs
    walk_at "gs"
    refine i_dg hdn3 v0 ?_
    walk_at "gs"
    refine i_dg hdn3 v1 ?_
    walk_at "gs"
    refine k _ H3 k03 ?_
    rw [Bool.not_eq_true', decide_eq_false_iff_not]
    constructor
    · intro h
      refine ⟨⟨l2, hk, nd, st⟩, fun a e => ?_, fun a e => ?_, fun i a i0 i1 e hl => ?_, fun a b e1 e2 => ?_⟩
      · rw [g0] at e
        cases e
        exact c
      · rw [g1] at e
        cases e
        exact c2
      · rw [anys.mpr ⟨a, List.mem_of_getElem? ((mget (i - 1) a).mpr ⟨by omega, by rw [show i - 1 + 1 = i by omega]; exact e⟩), hl⟩] at c3
        cases c3
      · rw [g0] at e1
        rw [g1] at e2
        cases e1
        cases e2
        exact h
    · intro w
      exact w.2.2.2.2 _ _ g0 g1

instance red_i_pw50 {H : Hp} {Q : VK} : Red (rPow (.int 10) (.int 50) H Q) (Q (.int 100000000000000000000000000000000000000000000000000) H) := ⟨i_pw50⟩
instance red_i_pw40 {H : Hp} {Q : VK} : Red (rPow (.int 10) (.int 40) H Q) (Q (.int 10000000000000000000000000000000000000000) H) := ⟨i_pw40⟩
def okG (n : Int) : Prop := -2 ≤ n ∧ n ≤ 100000000010000000000000000000000000000000000000000
theorem okG.okI {n : Int} (h : okG n) : okI n := okI_of (by have := h.1; omega) (by have := h.2; omega)
def sp_given (K : PySem.W.Frag) : Sp := fun vs H Q _ => ∃ (p T L F W : Addr) (ever : Int) (liv : List Int), vs = [.ref p, .ref T] ∧ PotAt H p ∧ SqT K H T [.int ever, .ref L, .ref F, .ref W] ∧ H L = some (.lst (liv.map V.int)) ∧ L ≠ p ∧ liv.Nodup ∧ liv.length ≤ 40 ∧
  ∀ G (prs : List (Int × Int)) H', PotAt H' p → Kp [p] H H' → Fr H G → H' G = some (.dK (prs.map kN)) → prs.map (·.1) = liv → (∀ q ∈ prs, okG q.2) → Q (.ref G) H'
theorem sc_law_given : FnScope ["_law_pot_here", "_law_tree_here", "_law_few", "_law_low", "_law_label"] ["_law_pot_here", "_law_tree_here"] (defScope s_law_given) :=
  ⟨rfl, rfl, rfl, by decide +kernel, rfl, by decide +kernel, by decide +kernel⟩
theorem ok_law_given {P : Program} {w : World} {K : PySem.W.Frag} {mg : Str → Option Value} {base : Heap} (T : Txt K mg) :
    FnG P w K mg base 2 T.a_law_given T.d_law_given ["_law_pot_here", "_law_tree_here"] (sp_given K) := by
  refine okD T.F_law_given sc_law_given (fun vs H Q E h => ?_) (fun cdv A outer s H vs Q E hr h => ?_)
  · first
      | (obtain ⟨_, rfl, _⟩ := h; rfl)
      | (obtain ⟨_, _, rfl, _⟩ := h; rfl)
      | (obtain ⟨_, _, _, rfl, _⟩ := h; rfl)
      | (obtain ⟨_, _, _, _, rfl, _⟩ := h; rfl)
      | (obtain ⟨_, _, _, _, _, rfl, _⟩ := h; rfl)
      | (obtain ⟨_, _, _, _, _, _, rfl, _⟩ := h; rfl)
      | (obtain ⟨_, _, _, _, _, _, _, rfl, _⟩ := h; rfl)
      | (obtain ⟨_, _, _, _, _, _, _, _, rfl, _⟩ := h; rfl)
      | (obtain ⟨_, _, _, _, _, _, _, _, _, rfl, _⟩ := h; rfl)
      | (obtain ⟨_, _, _, _, _, _, _, _, _, _, rfl, _⟩ := h; rfl)
      | (obtain ⟨_, _, _, _, _, _, _, _, _, _, _, rfl, _⟩ := h; rfl)
      | (obtain ⟨_, _, _, _, _, _, _, _, _, _, _, _, rfl, _⟩ := h; rfl)
      | (obtain ⟨_, _, _, _, _, _, _, _, _, _, _, _, _, rfl, _⟩ := h; rfl)
      | (obtain ⟨_, _, _, _, _, _, _, _, _, _, _, _, _, _, rfl, _⟩ := h; rfl)
      | (obtain ⟨_, _, _, _, _, _, _, _, _, _, _, _, _, _, _, rfl, _⟩ := h; rfl)
      | (obtain ⟨_, _, _, _, _, _, _, _, _, _, _, _, _, _, _, _, rfl, _⟩ := h; rfl)
      | (obtain ⟨_, _, _, _, _, _, _, _, _, _, _, _, _, _, _, _, _, rfl, _⟩ := h; rfl)
      | (obtain ⟨_, _, _, _, _, _, _, _, _, _, _, _, _, _, _, _, _, _, rfl, _⟩ := h; rfl)
      | (obtain ⟨_, _, _, _, _, _, _, _, _, _, _, _, _, _, _, _, _, _, _, rfl, _⟩ := h; rfl)
  · obtain ⟨p, Te, L, F, W, ever, liv, rfl, hp, hT, hL, npL, nd, ll, k⟩ := h
    refine ⟨_, (pss_cons (ps_set (i := 2) sc_law_given.nd rfl (Or.inr rfl) (pe_ix (k_ix (K := K) rfl) (pe_lst (pa_cons pe_int (pa_cons pe_int (pa_cons pe_int (pa_cons pe_int (pa_cons pe_int (pa_cons (pe_op o_pow pe_int pe_int) pa_nil))))))) (d1 (ok_law_draw T) (hr.mono (by decide)) (by rfl) T.m_law_draw T.F_law_draw.kp T.b_law_draw passL (pa_cons (pv 0) (pa_cons pe_int pa_nil))) (fun _ _ => rfl)))
      (pss_cons (ps_set (i := 3) sc_law_given.nd rfl (Or.inr rfl) (pe_ix (k_ix (K := K) rfl) (pe_lst (pa_cons pe_int (pa_cons (pe_un un_neg pe_int) (pa_cons (pe_op o_pow pe_int pe_int) pa_nil)))) (d1 (ok_law_draw T) (hr.mono (by decide)) (by rfl) T.m_law_draw T.F_law_draw.kp T.b_law_draw passL (pa_cons (pv 0) (pa_cons pe_int pa_nil))) (fun _ _ => rfl)))
      (pss_one (ps_ret (pe_callTy (k_dictP (K := K) rfl rfl) (by rfl) T.n_dict (by decide +kernel) (pa_cons (pe_lc (own := [("_law_label", 4)]) (g := (gName 4)) (tt := tYes) rfl sc_law_given.nd (k_plist (K := K) rfl (pe_ix (k_ix (K := K) rfl) (pv 1) pe_int (fun _ _ => rfl))) (blkOk_by (own := [("_law_label", 4)]) (N := ["_law_pot_here", "_law_tree_here", "_law_few", "_law_low", "_law_label"]) (sc := defScope s_law_given) (by decide +kernel)) (fun _ _ _ _ _ => (pg_name (i := 4) sc_law_given.nd rfl (Or.inl rfl))) (fun _ _ _ _ _ => pts_nil) (fun _ _ _ _ _ => (pe_tup (pa_cons (pv 4) (pa_cons (pe_op (k_add (K := K) rfl) (pv 3) (d1 (ok_law_draw T) (hr.mono (by decide)) (by rfl) T.m_law_draw T.F_law_draw.kp T.b_law_draw passL (pa_cons (pv 0) (pa_cons (pv 2) pa_nil)))) pa_nil))))) pa_nil)))))), ?_⟩
    dsimp only [cxOf, st_1, st_2, st_3, st_4, st_5, st_6, List.length_cons, List.length_nil, List.replicate_succ, List.replicate_zero, Nat.reduceAdd, Nat.reduceSub]
    walk_at "gs"
    refine i_new fun Z fZ => ?_
    have kZ := Kp.new (ws := []) (o := HO.lst [V.int 1, V.int 2, V.int 3, V.int 4, V.int 9, V.int 100000000000000000000000000000000000000000000000000]) fZ
    have hZ := fresh_at (o := HO.lst [V.int 1, V.int 2, V.int 3, V.int 4, V.int 9, V.int 100000000000000000000000000000000000000000000000000]) fZ
    have npZ : Z ≠ p := Ne.symm (hp.ne fZ)
    walk_at "gs"
    refine use_draw (hp.kp kZ not_nil) (by decide) (by decide) (fun r H1 r0 r1 hp1 k1 => ?_)
    have hZ1 := k1.at_ _ _ hZ (not_one npZ)
    have hsZ1 := SqL.of (K := K) hZ1
    have k01 : Kp [p] H H1 := Kp.trans kZ.wide k1
    obtain ⟨few, few0, few1, hat⟩ : ∃ few : Int, 1 ≤ few ∧ few ≤ 100000000000000000000000000000000000000000000000000 ∧ atI [V.int 1, V.int 2, V.int 3, V.int 4, V.int 9, V.int 100000000000000000000000000000000000000000000000000] r = some (.int few) := by
      obtain ⟨b', rfl⟩ := Int.eq_ofNat_of_zero_le r0
      have e : b' = 0 ∨ b' = 1 ∨ b' = 2 ∨ b' = 3 ∨ b' = 4 ∨ b' = 5 := by omega
      rcases e with rfl | rfl | rfl | rfl | rfl | rfl
      all_goals exact ⟨_, by decide, by decide, rfl⟩
    walk_at "gs"
    refine i_new fun Z2 fZ2 => ?_
    have kZ2 := Kp.new (ws := []) (o := HO.lst [V.int 0, V.int (-2), V.int 10000000000000000000000000000000000000000]) fZ2
    have hZ2 := fresh_at (o := HO.lst [V.int 0, V.int (-2), V.int 10000000000000000000000000000000000000000]) fZ2
    have npZ2 : Z2 ≠ p := Ne.symm (hp1.ne fZ2)
    walk_at "gs"
    refine use_draw (hp1.kp kZ2 not_nil) (by decide) (by decide) (fun r2 H2 r20 r21 hp2 k2 => ?_)
    have hZ22 := k2.at_ _ _ hZ2 (not_one npZ2)
    have hsZ2 := SqL.of (K := K) hZ22
    have k02 : Kp [p] H H2 := Kp.trans k01 (Kp.trans kZ2.wide k2)
    obtain ⟨low, low0, low1, hat2⟩ : ∃ low : Int, -2 ≤ low ∧ low ≤ 10000000000000000000000000000000000000000 ∧ atI [V.int 0, V.int (-2), V.int 10000000000000000000000000000000000000000] r2 = some (.int low) := by
      obtain ⟨b', rfl⟩ := Int.eq_ofNat_of_zero_le r20
      have e : b' = 0 ∨ b' = 1 ∨ b' = 2 := by omega
      rcases e with rfl | rfl | rfl
      all_goals exact ⟨_, by decide, by decide, rfl⟩
    have hT2 := k02.seqT hT
    have hL2 := k02.at_ _ _ hL (not_one npL)
    walk_at "gs"
    refine i_elts (SqL.of hL2) (fun G i H' => PotAt H' p ∧ Kp [p] H2 H' ∧ ∃ ys prs, H' G = some (.lst ys) ∧ PrsAt H' ys prs ∧ prs.map (·.1) = liv.take i ∧ ∀ q ∈ prs, okG q.2) ?_ ?_ ?_ ?_
    · intro G fG
      exact ⟨hp2.kp (Kp.new (ws := []) fG) not_nil, Kp.new fG, [], [], upd_same, trivial, rfl, fun q hq => nomatch hq⟩
    · rintro G i H' fG _ ⟨_, kk, _⟩
      exact SqL.of (kk.at_ _ _ hL2 (not_one npL))
    · rintro G i y H' fG hy ⟨hp', kk, ys, prs, hG, py, kp, ok⟩
      obtain ⟨n, hn, e⟩ := map_get hy
      subst e
      have il := (List.getElem?_eq_some_iff.mp hn).1
      have npG : G ≠ p := Ne.symm (hp2.ne fG)
      have ly := py.len
      have lp : prs.length ≤ i := by
        have := congrArg List.length kp
        rw [List.length_map, List.length_take] at this
        omega
      walk_at "gs"
      refine use_draw hp' (by omega) (by omega) (fun d H3 d0 d1 hp3 k3 => ?_)
      walk_at "gs"
      refine i_new fun U fU => ?_
      have kU := Kp.new (ws := []) (o := HO.tup [V.int n, V.int (low + d)]) fU
      have hU := fresh_at (o := HO.tup [V.int n, V.int (low + d)]) fU
      have hG3 := k3.at_ _ _ hG (not_one npG)
      have py3 := py.kp k3
      have hp4 := hp3.kp kU not_nil
      obtain ⟨H4, e4⟩ : ∃ H4, H4 = upd H3 U (.tup [V.int n, V.int (low + d)]) := ⟨_, rfl⟩
      rw [← e4] at kU hU hp4 ⊢
      have hG4 := kU.at_ _ _ hG3 not_nil
      have kG : Kp [G] H4 (upd H4 G (.lst (ys ++ [V.ref U]))) := kp_set hG4 (fun z => z)
      walk_at "gs"
      refine ⟨_, hG4, small_sz (by omega), hp4.kp kG (not_one (Ne.symm npG)), Kp.upd (Kp.trans kk (Kp.trans k3 kU.wide)) fG, _, prs ++ [(n, low + d)], upd_same, ?_, ?_, fun q hq => ?_⟩
      · exact PrsAt.snoc (q := (n, low + d)) (kG.fix _ _ hU trivial) ((py3.kp kU).kp kG)
      · rw [List.map_append, kp, List.take_add_one, hn]
        rfl
      · rcases List.mem_append.mp hq with h | h
        · exact ok q h
        · rw [List.mem_singleton.mp h]
          exact ⟨by show -2 ≤ low + d; omega, by show low + d ≤ _; omega⟩
    rintro G H3 fG ⟨hp3, k3, ys, prs, hG, py, kp, ok⟩
    rw [List.length_map, List.take_length] at kp
    walk_at "gs"
    refine i_dictPrs hG py (by rw [kp]; exact nd) (i_new fun R fR => ?_)
    have kR := Kp.new (ws := []) (o := HO.dK (prs.map kN)) fR
    exact k R prs _ (hp3.kp kR not_nil) (Kp.trans k02 (Kp.trans k3 kR.wide)) ((Kp.trans k02 k3).free fR) upd_same kp ok
def sp_near51 (K : PySem.W.Frag) : Sp := fun vs H Q _ => ∃ (T L F W : Addr) (ever u : Int) (rs : List (Int × Int)), vs = [.ref T, .int u] ∧ SqT K H T [.int ever, .ref L, .ref F, .ref W] ∧ LD K H W (rs.map d2) ∧ rs.length ≤ 100 ∧ (∀ q ∈ rs, q.1 ≠ q.2) ∧
  ∀ S H', Fr H S → Kp [] H H' → H' S = some (.lst ((nbR rs u).map V.int)) → Q (.ref S) H'
theorem sc_law_near : FnScope ["_law_tree_here", "_law_label", "_law_low", "_law_high"] ["_law_tree_here", "_law_label"] (defScope s_law_near) :=
  ⟨rfl, rfl, rfl, by decide +kernel, rfl, by decide +kernel, by decide +kernel⟩
theorem ok_law_near {P : Program} {w : World} {K : PySem.W.Frag} {mg : Str → Option Value} {base : Heap} (T : Txt K mg) :
    FnG P w K mg base 1 T.a_law_near T.d_law_near ["_law_tree_here", "_law_label"] (sp_near51 K) := by
  refine okD T.F_law_near sc_law_near (fun vs H Q E h => ?_) (fun cdv A outer s H vs Q E hr h => ?_)
  · first
      | (obtain ⟨_, rfl, _⟩ := h; rfl)
      | (obtain ⟨_, _, rfl, _⟩ := h; rfl)
      | (obtain ⟨_, _, _, rfl, _⟩ := h; rfl)
      | (obtain ⟨_, _, _, _, rfl, _⟩ := h; rfl)
      | (obtain ⟨_, _, _, _, _, rfl, _⟩ := h; rfl)
      | (obtain ⟨_, _, _, _, _, _, rfl, _⟩ := h; rfl)
      | (obtain ⟨_, _, _, _, _, _, _, rfl, _⟩ := h; rfl)
      | (obtain ⟨_, _, _, _, _, _, _, _, rfl, _⟩ := h; rfl)
      | (obtain ⟨_, _, _, _, _, _, _, _, _, rfl, _⟩ := h; rfl)
      | (obtain ⟨_, _, _, _, _, _, _, _, _, _, rfl, _⟩ := h; rfl)
      | (obtain ⟨_, _, _, _, _, _, _, _, _, _, _, rfl, _⟩ := h; rfl)
      | (obtain ⟨_, _, _, _, _, _, _, _, _, _, _, _, rfl, _⟩ := h; rfl)
      | (obtain ⟨_, _, _, _, _, _, _, _, _, _, _, _, _, rfl, _⟩ := h; rfl)
      | (obtain ⟨_, _, _, _, _, _, _, _, _, _, _, _, _, _, rfl, _⟩ := h; rfl)
      | (obtain ⟨_, _, _, _, _, _, _, _, _, _, _, _, _, _, _, rfl, _⟩ := h; rfl)
      | (obtain ⟨_, _, _, _, _, _, _, _, _, _, _, _, _, _, _, _, rfl, _⟩ := h; rfl)
      | (obtain ⟨_, _, _, _, _, _, _, _, _, _, _, _, _, _, _, _, _, rfl, _⟩ := h; rfl)
      | (obtain ⟨_, _, _, _, _, _, _, _, _, _, _, _, _, _, _, _, _, _, rfl, _⟩ := h; rfl)
      | (obtain ⟨_, _, _, _, _, _, _, _, _, _, _, _, _, _, _, _, _, _, _, rfl, _⟩ := h; rfl)
  · obtain ⟨Te, L, F, W, ever, u, rs, rfl, hT, ldW, lr, ne, k⟩ := h
    obtain ⟨vsW, hW, avW⟩ := id ldW
    have lW := dpa_len avW
    rw [List.length_map] at lW
    refine ⟨_, (pss_one (ps_ret (pe_lc (own := [("_law_low", 2), ("_law_high", 3)]) (g := (gTup K 2 (gCons (gName 2) (gCons (gName 3) gNil)))) rfl sc_law_near.nd (k_plist (K := K) rfl (pe_ix (k_ix (K := K) rfl) (pv 0) pe_int (fun _ _ => rfl))) (blkOk_by (own := [("_law_low", 2), ("_law_high", 3)]) (N := ["_law_tree_here", "_law_label", "_law_low", "_law_high"]) (sc := defScope s_law_near) (by decide +kernel)) (fun _ _ _ _ _ => (k_gtup (K := K) 2 rfl rfl (pgs_cons (pg_name (i := 2) sc_law_near.nd rfl (Or.inl rfl)) (pgs_cons (pg_name (i := 3) sc_law_near.nd rfl (Or.inl rfl)) pgs_nil)))) (fun _ _ _ _ _ => (pts_one (pt_cmpR (k_in (K := K) rfl) (pv 1) (pe_tup (pa_cons (pv 2) (pa_cons (pv 3) pa_nil))) (rfl)))) (fun _ _ _ _ _ => (pe_op op_sub (pe_op (k_add (K := K) rfl) (pv 2) (pv 3)) (pv 1)))))), ?_⟩
    dsimp only [cxOf, st_1, st_2, st_3, st_4, st_5, st_6, List.length_cons, List.length_nil, List.replicate_succ, List.replicate_zero, Nat.reduceAdd, Nat.reduceSub]
    walk_at "gs"
    refine i_elts (SqL.of hW) (fun G i H' => Kp [] H H' ∧ H' G = some (.lst ((nbR (rs.take i) u).map V.int))) ?_ ?_ ?_ ?_
    · intro G fG
      exact ⟨Kp.new fG, upd_same⟩
    · rintro G i H' fG _ ⟨kk, _⟩
      exact SqL.of (kk.at_ _ _ hW not_nil)
    · rintro G i y H' fG hy ⟨kk, hG⟩
      obtain ⟨dd, hdd, hdp⟩ := dpa_getV avW hy
      obtain ⟨q, hq, rfl⟩ := map_get hdd
      obtain ⟨T0, rfl, hT0⟩ := dp_pair (dp_imm kk _ _ rfl hdp)
      have il := (List.getElem?_eq_some_iff.mp hq).1
      have nq := ne q (List.mem_of_getElem? hq)
      have step : nbR (rs.take (i + 1)) u = nbR (rs.take i) u ++ ((if q.1 = u then [q.2] else []) ++ (if q.2 = u then [q.1] else [])) := by
        rw [List.take_add_one, hq]
        exact nbR_app _ _ _
      have lnb : (nbR (rs.take i) u).length ≤ 2 * i := by
        have : ∀ l : List (Int × Int), (nbR l u).length ≤ 2 * l.length := by
          intro l
          induction l with
          | nil => exact Nat.zero_le _
          | cons a l ih =>
            have e : nbR (a :: l) u = ((if a.1 = u then [a.2] else []) ++ (if a.2 = u then [a.1] else [])) ++ nbR l u := by
              unfold nbR
              rw [List.flatMap_cons]
            rw [e, List.length_append, List.length_append, List.length_cons]
            have h1 : (if a.1 = u then [a.2] else []).length ≤ 1 := by split <;> simp
            have h2 : (if a.2 = u then [a.1] else []).length ≤ 1 := by split <;> simp
            omega
        have h := this (rs.take i)
        rw [List.length_take] at h
        omega
      walk_at "gs"
      refine i_new fun P fP => ?_
      have kP := Kp.new (ws := []) (o := HO.tup [V.int q.1, V.int q.2]) fP
      have hP := fresh_at (o := HO.tup [V.int q.1, V.int q.2]) fP
      obtain ⟨H5, e5⟩ : ∃ H5, H5 = upd H' P (.tup [V.int q.1, V.int q.2]) := ⟨_, rfl⟩
      rw [← e5] at kP hP ⊢
      have hsP : SqT K H5 P ([q.1, q.2].map V.int) := SqT.of hP
      have hG5 := kP.at_ _ _ hG not_nil
      walk_at "gs"
      refine i_inT hsP ?_
      walk_at "gs"
      refine i_dec (fun c => ?_) (fun c => ?_)
      · have c2 : u = q.1 ∨ u = q.2 := by simpa using c
        walk_at "gs"
        refine ⟨_, hG5, small_sz (by rw [List.length_map]; omega), Kp.upd (Kp.trans kk kP) fG, ?_⟩
        rw [step]
        rcases c2 with c2 | c2
        · rw [if_pos c2.symm, if_neg (fun e => nq (by rw [← c2, e])), List.append_nil, ← snoc_int', show q.1 + q.2 - u = q.2 by omega]
          exact upd_same
        · rw [if_neg (fun e => nq (by rw [← c2, e])), if_pos c2.symm, List.nil_append, ← snoc_int', show q.1 + q.2 - u = q.1 by omega]
          exact upd_same
      · have c2 : ¬ (u = q.1 ∨ u = q.2) := by simpa using c
        refine ⟨Kp.trans kk kP, ?_⟩
        rw [step, if_neg (fun e => c2 (.inl e.symm)), if_neg (fun e => c2 (.inr e.symm)), List.append_nil, List.append_nil]
        exact hG5
    rintro G H1 fG ⟨k1, hG⟩
    rw [lW, List.take_length] at hG
    walk_at "gs"
    exact k G H1 fG k1 hG

theorem Tr3.rows_len' {D : Int → Int → Int} {ever : Int} {liv ks : List Int} {nb : Int → List Int} {rs : List (Int × Int)} {n : Nat} (z : Tr3 D ever liv ks nb) (he : ever ≤ n) (ro : RowsOf ks nb rs) : rs.length ≤ n * n := by
  have e2 : rs.Perm (rws nb ks) := (List.perm_ext_iff_of_nodup ro.nd (rws_nd z.nk z.rp.nd)).mpr fun q => by rw [ro.2, mem_rws]
  rw [e2.length_eq]
  have e3 := rws_len (nb := nb) (n := n) (ks := ks) fun u hu => by
    have := z.nlen hu
    omega
  have e4 := Nat.mul_le_mul_right n (show ks.length ≤ n by have := z.klen; omega)
  omega

/-! ### what a keeping costs -/
theorem u0 {n : Nat} (h : n + 64 < cLine) : n < cLine := by omega
def cst (f : Int → Int) (rs : List (Int × Int)) : Nat := (rs.filter fun q => !decide (f q.1 = f q.2)).length
/-- the low ends of rows of unlike numbers, counted by walking -/
def LkAt (H : Hp) (d : Addr) (prs : List (Int × Int)) (rs : List (Int × Int)) : Prop := H d = some (.dK (prs.map kN)) ∧ ∀ q ∈ rs, q.1 ∈ prs.map (·.1) ∧ q.2 ∈ prs.map (·.1)
theorem dpa_pair {K : PySem.W.Frag} {H : Hp} {vs : List V} {rs : List (Int × Int)} {i : Nat} {v : V} (h : DpAll K H vs (rs.map d2)) (e : vs[i]? = some v) : ∃ q t, rs[i]? = some q ∧ v = .ref t ∧ SqT K H t [.int q.1, .int q.2] := by
  obtain ⟨d, hd, dp⟩ := dpa_getV h e
  rw [List.getElem?_map] at hd
  cases hq : rs[i]? with
  | none => rw [hq] at hd; cases hd
  | some q =>
    rw [hq] at hd
    cases hd
    obtain ⟨t, rfl, ht⟩ := dp_pair dp
    exact ⟨q, t, rfl, rfl, ht⟩
def sp_cost_of (K : PySem.W.Frag) (C : Addr) : Sp := fun vs H Q _ => ∃ (D : Int → Int → Int) (t : Addr) (ps : List Addr) (ever : Int) (liv ks : List Int) (nb : Int → List Int) (d : Addr) (prs : List (Int × Int)), vs = [.ref t, .ref d] ∧ TiesAt C H t ps ever liv ks nb ∧ Tr3 D ever liv ks nb ∧ ever ≤ 200 ∧
  H d = some (.dK (prs.map kN)) ∧ (∀ x ∈ ks, x ∈ prs.map (·.1)) ∧
  ∀ rs H', Kp [] H H' → RowsOf ks nb rs → Q (.int (cst (look prs) rs)) H'
theorem sc_cost_of : FnScope ["ties", "keeping", "low", "high"] ["ties", "keeping"] (defScope s_cost_of) :=
  ⟨rfl, rfl, rfl, by decide +kernel, rfl, by decide +kernel, by decide +kernel⟩
theorem ok_cost_of {P : Program} {w : World} {K : PySem.W.Frag} {mg : Str → Option Value} {base : Heap} (T : Txt K mg) :
    FnG P w K mg base 2 T.a_cost_of T.d_cost_of ["ties", "keeping"] (sp_cost_of K T.c_Ties) := by
  refine okD T.F_cost_of sc_cost_of (fun vs H Q E h => ?_) (fun cdv A outer s H vs Q E hr h => ?_)
  · first
      | (obtain ⟨_, rfl, _⟩ := h; rfl)
      | (obtain ⟨_, _, rfl, _⟩ := h; rfl)
      | (obtain ⟨_, _, _, rfl, _⟩ := h; rfl)
      | (obtain ⟨_, _, _, _, rfl, _⟩ := h; rfl)
      | (obtain ⟨_, _, _, _, _, rfl, _⟩ := h; rfl)
      | (obtain ⟨_, _, _, _, _, _, rfl, _⟩ := h; rfl)
      | (obtain ⟨_, _, _, _, _, _, _, rfl, _⟩ := h; rfl)
      | (obtain ⟨_, _, _, _, _, _, _, _, rfl, _⟩ := h; rfl)
      | (obtain ⟨_, _, _, _, _, _, _, _, _, rfl, _⟩ := h; rfl)
      | (obtain ⟨_, _, _, _, _, _, _, _, _, _, rfl, _⟩ := h; rfl)
      | (obtain ⟨_, _, _, _, _, _, _, _, _, _, _, rfl, _⟩ := h; rfl)
      | (obtain ⟨_, _, _, _, _, _, _, _, _, _, _, _, rfl, _⟩ := h; rfl)
      | (obtain ⟨_, _, _, _, _, _, _, _, _, _, _, _, _, rfl, _⟩ := h; rfl)
      | (obtain ⟨_, _, _, _, _, _, _, _, _, _, _, _, _, _, rfl, _⟩ := h; rfl)
      | (obtain ⟨_, _, _, _, _, _, _, _, _, _, _, _, _, _, _, rfl, _⟩ := h; rfl)
      | (obtain ⟨_, _, _, _, _, _, _, _, _, _, _, _, _, _, _, _, rfl, _⟩ := h; rfl)
      | (obtain ⟨_, _, _, _, _, _, _, _, _, _, _, _, _, _, _, _, _, rfl, _⟩ := h; rfl)
      | (obtain ⟨_, _, _, _, _, _, _, _, _, _, _, _, _, _, _, _, _, _, rfl, _⟩ := h; rfl)
      | (obtain ⟨_, _, _, _, _, _, _, _, _, _, _, _, _, _, _, _, _, _, _, rfl, _⟩ := h; rfl)
  · obtain ⟨D, t, ps, ever, liv, ks, nb, d, prs, rfl, x0, z, he, hd, hk, k⟩ := h
    obtain ⟨_, _, _, ht⟩ := x0.ins
    have klen := z.klen
    have cl_Ties := T.cl_Ties
    have na_Ties_near := T.na_Ties_near
    have na_Ties_own_ever := T.na_Ties_own_ever
    have na_Ties_own_living := T.na_Ties_own_living
    refine ⟨_, (pss_one (ps_ret (pe_callB (k_len (K := K) rfl) (by rfl) T.n_len (by decide +kernel) (pa_cons (pe_lc (own := [("low", 2), ("high", 3)]) (g := (gTup K 2 (gCons (gName 2) (gCons (gName 3) gNil)))) rfl sc_cost_of.nd (k_plist (K := K) rfl (dm0 T.cl_Ties T.me_Ties_rows (ok_Ties_rows T) (hr.mono (by decide)) T.b_Ties_rows passL (pv 0))) (blkOk_by (own := [("low", 2), ("high", 3)]) (N := ["ties", "keeping", "low", "high"]) (sc := defScope s_cost_of) (by decide +kernel)) (fun _ _ _ _ _ => (k_gtup (K := K) 2 rfl rfl (pgs_cons (pg_name (i := 2) sc_cost_of.nd rfl (Or.inl rfl)) (pgs_cons (pg_name (i := 3) sc_cost_of.nd rfl (Or.inl rfl)) pgs_nil)))) (fun _ _ _ _ _ => (pts_one (pt_cmpR (k_ne (K := K) rfl hr.r.units) (pe_dget (u1 hr.r.units) (pv 1) (pv 2) (fun _ _ => rfl)) (pe_dget (u1 hr.r.units) (pv 1) (pv 3) (fun _ _ => rfl)) (nomark _)))) (fun _ _ _ _ _ => (pv 2))) pa_nil)))), ?_⟩
    dsimp only [cxOf, st_1, st_2, st_3, st_4, st_5, st_6, List.length_cons, List.length_nil, List.replicate_succ, List.replicate_zero, Nat.reduceAdd, Nat.reduceSub]
    walk_at "gs"
    refine ⟨D, t, ps, ever, liv, ks, nb, rfl, x0, z, he, fun W rs H1 fW k1 ld ro => ?_⟩
    obtain ⟨us, hW, ua⟩ := id ld
    have lu := dpa_len ua
    rw [List.length_map] at lu
    have hd1 := k1.at_ _ _ hd not_nil
    have rl := z.rows_len' (n := 200) (by omega) ro
    walk_at "gs"
    refine i_elts (SqL.of hW) (fun R i H' => Kp [] H1 H' ∧ ∃ ys, H' R = some (.lst ys) ∧ ys.length = cst (look prs) (rs.take i)) ?_ ?_ ?_ ?_
    · intro R fR
      exact ⟨Kp.new fR, [], upd_same, rfl⟩
    · rintro R i H' fR _ ⟨kk, _⟩
      exact kk.seqL not_nil (SqL.of hW)
    · rintro R i y H' fR hy ⟨kk, ys, hR, ly⟩
      obtain ⟨vs', hv, va⟩ := ld.kp kk (imms_d2 _) not_nil
      rw [kk.at_ _ _ hW not_nil] at hv
      cases hv
      obtain ⟨q, u, hq, rfl, hu⟩ := dpa_pair va hy
      have hqm := List.mem_of_getElem? hq
      obtain ⟨q1, q2, q3⟩ := (ro.2 q).mp hqm
      have m1 := (look_mem (hk q.1 q1)).2
      have m2 := (look_mem (hk q.2 ((z.rp.adj _ q1 _).mp q2).1)).2
      have hd' := kk.at_ _ _ hd1 not_nil
      have step := filter_step (f := fun q : Int × Int => !decide (look prs q.1 = look prs q.2)) hq
      have l1 : cst (look prs) (rs.take i) ≤ rs.length := by
        have a := List.length_filter_le (fun q : Int × Int => !decide (look prs q.1 = look prs q.2)) (rs.take i)
        have b : (rs.take i).length ≤ rs.length := by rw [List.length_take]; omega
        unfold cst
        omega
      walk_at "gs"
      refine i_dg hd' m1 ?_
      walk_at "gs"
      refine i_dg hd' m2 ?_
      walk_at "gs"
      refine i_decN (fun c => ?_) (fun c => ?_)
      · walk_at "gs"
        refine ⟨_, hR, small_sz (by omega), Kp.upd kk fR, _, upd_same, ?_⟩
        rw [List.length_append, ly]
        unfold cst
        rw [step, if_pos (by simpa using c), List.length_append]
        rfl
      · refine ⟨kk, ys, hR, ?_⟩
        rw [ly]
        unfold cst
        rw [step, if_neg (by simpa using c), List.append_nil]
    rintro R H2 fR ⟨k2, ys, hR, ly⟩
    rw [show us.length = rs.length from lu, List.take_length] at ly
    have hsR : SqL K H2 R ys := SqL.of hR
    walk_at "gs"
    rw [ly]
    exact k rs H2 (Kp.trans k1 k2) ro

/-! ### a set comprehension whose elements are numbers -/
section
open PySem.Calls PyProof.Rows PySem.Spec PyProof
variable {X : Cx}
/-- one number more goes into the set at D -/
def InSet (w : World) (D : Addr) (goOn : Hp → Prop) : VK := fun y Hy => ∃ (k : Int) (S : Int → Bool) (c : Nat), y = .int k ∧ Hy D = some (L2.SetO w D S c) ∧ c + 1 < scanBound ∧
  goOn (upd Hy D (L2.SetO w D (fun j => S j || decide (j = k)) (if S k = true then c else c + 1)))
/-- one turn of the comprehension's loop -/
def SetTurn (w : World) (J : It) (g : TG) (tt : TT) (te : TE) (vs : List Nat) (σ : L2.St) (D : Addr) (Wk : Nat → Nat → Hp → Prop) (j n : Nat) (Hw : Hp) : Prop :=
  J.go j Hw ∧ ∃ goOn : Hp → Prop, (∀ Hn, goOn Hn → ∃ n', n' < n ∧ Wk (j + 1) n' Hn) ∧
    ∀ x Hx, J.yld j Hw x Hx → g x (wipe σ vs) Hx fun τ Hg => wipe τ vs = wipe σ vs ∧ tt τ Hg fun b Ht => if b = true then te τ Ht (InSet w D goOn) else goOn Ht
def tScI (w : World) (wi : TI) (g : TG) (tt : TT) (te : TE) (vs : List Nat) : TE := fun σ H Q => wi σ H fun J Hi => ∀ D, Hi D = none →
  ∃ Wk : Nat → Nat → Hp → Prop, (∃ n, Wk 0 n (upd Hi D (L2.SetO w D (fun _ => false) 0))) ∧ ∀ j n Hw, Wk j n Hw → (J.stop j Hw ∧ Q (.ref D) Hw) ∨ SetTurn w J g tt te vs σ D Wk j n Hw
/-- the object that a new set is -/
abbrev setBorn (w : World) : Obj := { cls := .type "set", dict := none, data := .set #[] 0 (.fresh 0 0 (!w.params.followText "set-order")) }
abbrev setGrown (w : World) (s : Shared) : Shared := { s with heap := s.heap.push (setBorn w) }
theorem set_born {pins : List (Addr × Obj)} {σ : L2.St} {H : Hp} {s : Shared} (I : Inv X pins σ H s) :
    Inv X pins σ (upd H s.heap.objs.size (L2.SetO X.w s.heap.objs.size (fun _ => false) 0)) (setGrown X.w s) :=
  I.laid (t' := s.toks) (fun _ _ e => Heap.get?_push_of_some _ e) (Nat.le_refl _) (L2.setO_new (L2.setR_fresh X.w))
theorem set_more {pins : List (Addr × Obj)} {σ : L2.St} {H : Hp} {s : Shared} {D : Addr} {y : V} {u : Value} {goOn : Hp → Prop} (I : Inv X pins σ H s) (r : RelV y u) (h : InSet X.w D goOn y H) (E : Value → Shared → Prop) :
    wpAny (model X.prog X.w) X.A (call (.builtin "set.add") [.ref D, u]) (fun _ s' => ∃ H', Inv X pins σ H' s' ∧ goOn H') E s := by
  obtain ⟨k, S, c, rfl, hD, lc, nx⟩ := h
  obtain ⟨tk, rfl⟩ := r
  refine L2.setR_add (L2.setO_get I hD) lc fun h' same R => ⟨_, I.write (e := D) (t' := s.toks + 1) (by rw [hD]; trivial) (.inl rfl) (fun b o hb e => (same.2 b hb).trans e) ?_ (L2.setO_new R), nx⟩
  obtain ⟨o, _, _, _, e, _⟩ := R
  exact ⟨o, e⟩
/-- the loop, in its own block B -/
theorem set_loop {elt tg iter : Expr} {ifs : List Expr} {scope : Scope} {pos : Pos} {vs : List Nat} {g : TG} {tt : TT} {te : TE} {σ : L2.St} {Q : VK} {B : Cx} {J : It} {fp : List Addr} {it D : Addr} {tn : Nat → Heap → Prop} {Wk : Nat → Nat → Hp → Prop} {R : Result → Shared → Prop}
    (calm : B.calm = true) (quiet : ∀ e s', B.xe e s' → False) (T : Turn B.prog B.w B.K tg J fp it tn) (pg : PG B tg g) (pt : PTs B ifs tt) (pe : PE B elt te)
    (away : ∀ {τ : L2.St} {H' : Hp} {s' : Shared}, Inv B [] τ H' s' → (∀ b ∈ fp, H' b = none) → ∀ b ∈ fp, FpOk B [] H' b)
    (out : ∀ H' s', Inv B [] (wipe σ vs) H' s' → Q (.ref D) H' → R (.ok .next) s')
    (turns : ∀ j n Hw, Wk j n Hw → (J.stop j Hw ∧ Q (.ref D) Hw) ∨ SetTurn B.w J g tt te vs σ D Wk j n Hw)
    {n0 : Nat} {H0 : Hp} {s0 : Shared} (I0 : Inv B [] (wipe σ vs) H0 s0) (t0 : tn 0 s0.heap) (f0 : ∀ b ∈ fp, H0 b = none) (w0 : Wk 0 n0 H0) :
    codeAny (model B.prog B.w) B.A (.compLoop (.SetComp elt [⟨tg, iter, ifs, 0⟩] scope pos) 0 (.ref it) (.ref D) B.env) R s0 := by
  refine PpSet.compLoopS_any (fun n s' => ∃ j H', Inv B [] (wipe σ vs) H' s' ∧ tn j s'.heap ∧ (∀ b ∈ fp, H' b = none) ∧ Wk j n H') ?_ n0 ⟨0, H0, I0, t0, f0, w0⟩
  rintro n s1 ⟨j, H1, I1, t1, f1, w1⟩
  rcases turns j n H1 w1 with ⟨halt, q⟩ | ⟨go, goOn, dec, step⟩
  · refine thnF (T.done B rfl rfl rfl calm j [] s1 _ H1 (fun _ _ => False) I1 (away I1 f1) t1 halt) fun r s2 z => ?_
    obtain ⟨e, I2⟩ := z
    rw [e]
    exact out H1 s2 I2 q
  · refine thnF (T.item B rfl rfl rfl calm j [] s1 _ H1 (fun _ _ => False) I1 (away I1 f1) t1 go) fun r s2 z => ?_
    obtain ⟨u, e, z⟩ := z
    rw [e]
    refine thnF z fun _ s3 ⟨x, H3, I3, rx, yx, t3, f3⟩ => ?_
    have J3 := I3.pinned (away I3 f3) (T.obj _ _ t3)
    refine wpAny_mono (pg.run _ s3 _ H3 x u _ J3 rx (step x H3 yx)) (fun _ s4 z4 => ?_) fun e s' z => (quiet e s' z).elim
    obtain ⟨τ, H4, I4, e4, q4⟩ := z4
    refine wpAny_mono (pt.run _ s4 τ H4 _ I4 q4) (fun b s5 z5 => ?_) fun e s' z => (quiet e s' z).elim
    obtain ⟨H5, I5, q5⟩ := z5
    have back : ∀ {s' : Shared} {H' : Hp}, Inv B ([] ++ pinsAt fp s3.heap) τ H' s' → goOn H' → ∃ n', n' < n ∧ ∃ j H', Inv B [] (wipe σ vs) H' s' ∧ tn j s'.heap ∧ (∀ b ∈ fp, H' b = none) ∧ Wk j n' H' := fun {s' H'} I' gn => by
      obtain ⟨n', ln, w'⟩ := dec H' gn
      have held : ∀ b ∈ fp, ∀ o, s3.heap.get? b = some o → s'.heap.get? b = some o ∧ H' b = none := fun b hb o eo => by
        have z := I'.pin (b, o) (List.mem_append_right _ (List.mem_append_right _ (mem_pinsAt hb eo)))
        exact ⟨z.1, z.2.1⟩
      refine ⟨n', ln, j + 1, H', (I'.unpinned (pins := [])).weak (by rw [← e4, wipe_length]) (fun i v ei => ?_), T.keep _ _ _ t3 (fun b hb o eo => (held b hb o eo).1), fun b hb => ?_, w'⟩
      · rw [← e4] at ei
        exact (wipe_some ei).1
      · obtain ⟨o, eo, _⟩ := T.obj _ _ t3 b hb
        exact (held b hb o eo).2
    by_cases c : b = true
    · rw [if_pos c] at q5 ⊢
      refine wpAny_mono (pe.run _ s5 τ H5 _ I5 q5) (fun v s6 z6 => ?_) fun e s' z => (quiet e s' z).elim
      obtain ⟨y, H6, I6, ry, q6⟩ := z6
      exact thn (set_more I6 ry q6 _) fun _ s7 ⟨H7, I7, q7⟩ => back I7 q7
    · rw [if_neg c] at q5 ⊢
      exact back I5 q5
theorem pe_scI {elt tg iter : Expr} {ifs : List Expr} {scope : Scope} {own : List (PySem.Str × Nat)} {pos : Pos} {wi : TI} {g : TG} {tt : TT} {te : TE} (hc : X.calm = true) (nodup : X.N.Nodup) (walked : PI X tg iter wi) (blk : BlkOk X.N X.env.scope scope own)
    (pg : ∀ (t : Shared) (G : Hp) (C : Addr) (cells : List (PySem.Str × Addr)) (ps : List Addr), PG (X.blk t G scope (compEnvC scope cells C X.env) ps) tg g) (pt : ∀ (t : Shared) (G : Hp) (C : Addr) (cells : List (PySem.Str × Addr)) (ps : List Addr), PTs (X.blk t G scope (compEnvC scope cells C X.env) ps) ifs tt)
    (pe : ∀ (t : Shared) (G : Hp) (C : Addr) (cells : List (PySem.Str × Addr)) (ps : List Addr), PE (X.blk t G scope (compEnvC scope cells C X.env) ps) elt te) (unfolded : ∀ x, foldedSetIterable iter X.env x = pure x := by intro _; rfl) :
    PE X (.SetComp elt [⟨tg, iter, ifs, 0⟩] scope pos) (tScI X.w wi g tt te (own.map (·.2))) := by
  refine ⟨fun pins s σ H Q I q0 => ?_⟩
  rw [PpSet.eval_SetComp]
  have caught : ∀ y ∈ scope.names, y.2 = .free → ∃ c, X.env.cells.lookup y.1 = some c := fun y hy e => (blk.free y hy e).elim (fun k => I.ok.has _ (.inl k)) fun k => I.ok.has _ (.inr k)
  refine wpAny_comprehension_free (use := none) rfl unfolded (closure_ok caught) blk.kind (fun y hy e => (blk.uniq y hy).trans (congrArg some e)) (thn (walked.run pins s σ H _ I q0) fun _ _ z1 => thn z1 fun _ s2 z2 => ?_)
  obtain ⟨it, fp, tn, J, H2, eit, I2, T, t2, f2, q⟩ := z2
  rw [eit]
  refine PpSet.newSet_ok (newEnv_comp ?_)
  obtain ⟨Wk, ⟨n0, w0⟩, turns⟩ := q s2.heap.objs.size (I2.hok.fresh (Nat.le_refl _))
  have I3 := set_born I2
  have older : ∀ b ∈ fp, b < s2.heap.objs.size := fun b hb => by
    obtain ⟨o, e, _⟩ := T.obj _ _ t2 b hb
    exact Heap.lt_size e
  have apart : ∀ b ∈ fp, (upd H2 s2.heap.objs.size (L2.SetO X.w s2.heap.objs.size (fun _ => false) 0)) b = none := fun b hb => (upd_ne (Nat.ne_of_lt (older b hb))).trans (f2 b hb).1
  have size3 : (setGrown X.w s2).heap.objs.size = s2.heap.objs.size + 1 := Heap.size_push ..
  have f3 : ∀ b ∈ fp, FpOk X pins (upd H2 s2.heap.objs.size (L2.SetO X.w s2.heap.objs.size (fun _ => false) 0)) b ∧ b < (setGrown X.w s2).heap.objs.size := fun b hb =>
    ⟨⟨apart b hb, (f2 b hb).2⟩, by rw [size3]; exact Nat.lt_succ_of_lt (older b hb)⟩
  have I4 := block_start I3 blk nodup f3
  have t3 : tn 0 (setGrown X.w s2).heap := T.keep _ _ _ t2 fun b _ o e => Heap.get?_push_of_some _ e
  have t4 : tn 0 (pushCells ((setGrown X.w s2).heap.push { cls := .type "dict", data := .dict #[] }) scope.names) := T.keep _ _ _ t3 fun b _ o e => pushCells_keeps _ _ _ _ (Heap.get?_push_of_some _ e)
  have whole := set_loop (R := compPost (model X.prog X.w) X.A X.xe none (EP X pins σ Q) (.ref s2.heap.objs.size) (setGrown X.w s2).heap.objs.size) (Q := Q) (scope := scope) (elt := elt) (iter := iter) (pos := pos) (D := s2.heap.objs.size)
    (B := X.blk (setGrown X.w s2) (upd H2 s2.heap.objs.size (L2.SetO X.w s2.heap.objs.size (fun _ => false) 0)) scope (compEnvC scope (cellsFrom ((setGrown X.w s2).heap.objs.size + 1) scope.names (cloFrom X.env.cells scope.names [])) (setGrown X.w s2).heap.objs.size X.env) fp)
    hc (fun _ _ z => z) T (pg _ _ _ _ _) (pt _ _ _ _ _) (pe _ _ _ _ _) (fun {τ H' s'} Iw nw b hb => ⟨nw b hb, (Iw.ok.exf b hb).1, Iw.ok.exfs b hb, .inl hb, (Iw.ok.exf b hb).2, fun p hp => by cases hp⟩) (fun H' s' Iw qw => ?_) turns I4 t4 apart w0
  · exact PpSet.codeAny_compStart_set whole (T.self X.A 0 _ _ _ t4 whole)
  · obtain ⟨m, named, _⟩ := Iw.loc
    have Ix : Inv X pins σ H' s' := I3.call' (ch := fp) Iw.os Iw.base Iw.hok Iw.bare fun b hb => by
      obtain ⟨_, a1, _, a3, a4, a5⟩ := (f3 b hb).1
      exact ⟨a3, a1, a4, a5⟩
    have gone : H' (setGrown X.w s2).heap.objs.size = none := Iw.free
    obtain ⟨b0, b1, b2, b3, b4, b5⟩ := I3.fpOk (Nat.le_refl _) gone
    exact ⟨m, named, fun h' same => ⟨.ref s2.heap.objs.size, H', Ix.turned (t' := s'.toks) (fun b o hb e => (same.2 b hb).trans e) b0 b1 b3 b4 b5, rfl, qw⟩⟩
theorem k_scI {w : World} {elt tg iter : Expr} {ifs : List Expr} {scope : Scope} {own : List (PySem.Str × Nat)} {pos : Pos} {wi : TI} {g : TG} {tt : TT} {te : TE} (hw : X.w = w) (hc : X.calm = true) (nodup : X.N.Nodup) (walked : PI X tg iter wi) (blk : BlkOk X.N X.env.scope scope own)
    (pg : ∀ (t : Shared) (G : Hp) (C : Addr) (cells : List (PySem.Str × Addr)) (ps : List Addr), PG (X.blk t G scope (compEnvC scope cells C X.env) ps) tg g) (pt : ∀ (t : Shared) (G : Hp) (C : Addr) (cells : List (PySem.Str × Addr)) (ps : List Addr), PTs (X.blk t G scope (compEnvC scope cells C X.env) ps) ifs tt)
    (pe : ∀ (t : Shared) (G : Hp) (C : Addr) (cells : List (PySem.Str × Addr)) (ps : List Addr), PE (X.blk t G scope (compEnvC scope cells C X.env) ps) elt te) (unfolded : ∀ x, foldedSetIterable iter X.env x = pure x := by intro _; rfl) :
    PE X (.SetComp elt [⟨tg, iter, ifs, 0⟩] scope pos) (tScI w wi g tt te (own.map (·.2))) := hw ▸ pe_scI hc nodup walked blk pg pt pe unfolded
end
/-! ### over the values of a dict -/
section
variable {w : World} {σ : L2.St} {H H1 : Hp} {Q : VK} {d : Addr} {g : TG} {tt : TT} {te td : TE} {vs : List Nat} {o : Obj} {kvs : List (Key × V)} {D : Ends} {tb : TS}
def LcV (x : V) (g : TG) (tt : TT) (te : TE) (vs : List Nat) (σ : L2.St) (H1 : Hp) (Q : VK) : Prop := ∃ d o kvs, x = .ref d ∧ H1 d = some (.frz o (.dK kvs)) ∧ ∀ R, H1 R = none → ∃ W : Nat → Nat → Hp → Prop, (∃ m, W 0 m (upd H1 R (.lst []))) ∧ ∀ i m H, W i m H →
  ((Itd d o kvs).stop i H ∧ Q (.ref R) H) ∨ ((Itd d o kvs).go i H ∧ ∃ Nx : Hp → Prop, (∀ H', Nx H' → ∃ m', m' < m ∧ W (i + 1) m' H') ∧ ∀ x H', (Itd d o kvs).yld i H x H' → g x (wipe σ vs) H' fun σ2 H2 => wipe σ2 vs = wipe σ vs ∧ tt σ2 H2 fun b H3 =>
    if b = true then te σ2 H3 fun y H4 => ∃ acc, H4 R = some (.lst acc) ∧ acc.length < sizeLine ∧ Nx (upd H4 R (.lst (acc ++ [y]))) else Nx H3)
theorem i_lcV (h : td σ H fun x H1 => LcV x g tt te vs σ H1 Q) : tLc (iVals td) g tt te vs σ H Q := h
theorem i_valG (hd : H d = some (.frz o (.dK kvs))) (Pv : Addr → Nat → Hp → Prop)
    (h0 : ∀ R, Fr H R → Pv R 0 (upd H R (.lst [])))
    (hl : ∀ R i H', Fr H R → Pv R i H' → H' d = some (.frz o (.dK kvs)))
    (st : ∀ R i k v H', Fr H R → kvs[i]? = some (k, v) → Pv R i H' → g v (wipe σ vs) H' fun σ2 H2 =>
      wipe σ2 vs = wipe σ vs ∧ tt σ2 H2 fun b H3 => if b = true then te σ2 H3 fun y H4 =>
        ∃ acc, H4 R = some (.lst acc) ∧ acc.length < sizeLine ∧ Pv R (i + 1) (upd H4 R (.lst (acc ++ [y])))
        else Pv R (i + 1) H3)
    (hdn : ∀ R H', Fr H R → Pv R kvs.length H' → Q (.ref R) H') : LcV (.ref d) g tt te vs σ H Q := by
  refine ⟨d, o, kvs, rfl, hd, fun R hR => ⟨fun i m H' => m = kvs.length - i ∧ i ≤ kvs.length ∧ Pv R i H', ⟨_, rfl, Nat.zero_le _, h0 R ⟨hR⟩⟩, ?_⟩⟩
  rintro i m H' ⟨rfl, hi, z⟩
  have q := hl R i H' ⟨hR⟩ z
  by_cases c : i < kvs.length
  · refine .inr ⟨⟨q, c⟩, Pv R (i + 1), fun H2 w => ⟨_, by omega, rfl, c, w⟩, ?_⟩
    rintro x H2 ⟨rfl, k, e⟩
    exact st R i k x _ ⟨hR⟩ e z
  · have e : i = kvs.length := by omega
    exact .inl ⟨⟨q, by omega⟩, hdn R H' ⟨hR⟩ (by rw [← e]; exact z)⟩
/-- the pairs of a dict, as a comprehension -/
def LcIt (x : V) (g : TG) (tt : TT) (te : TE) (vs : List Nat) (σ : L2.St) (H1 : Hp) (Q : VK) : Prop := ∃ d o kvs, x = .ref d ∧ H1 d = some (.frz o (.dK kvs)) ∧ ∀ R, H1 R = none → ∃ W : Nat → Nat → Hp → Prop, (∃ m, W 0 m (upd H1 R (.lst []))) ∧ ∀ i m H, W i m H →
  ((Iti d o kvs).stop i H ∧ Q (.ref R) H) ∨ ((Iti d o kvs).go i H ∧ ∃ Nx : Hp → Prop, (∀ H', Nx H' → ∃ m', m' < m ∧ W (i + 1) m' H') ∧ ∀ x H', (Iti d o kvs).yld i H x H' → g x (wipe σ vs) H' fun σ2 H2 => wipe σ2 vs = wipe σ vs ∧ tt σ2 H2 fun b H3 =>
    if b = true then te σ2 H3 fun y H4 => ∃ acc, H4 R = some (.lst acc) ∧ acc.length < sizeLine ∧ Nx (upd H4 R (.lst (acc ++ [y]))) else Nx H3)
theorem i_lcIt (h : td σ H fun x H1 => LcIt x g tt te vs σ H1 Q) : tLc (iItems td) g tt te vs σ H Q := h
theorem i_pairG (hd : H d = some (.frz o (.dK kvs))) (Pv : Addr → Nat → Hp → Prop)
    (h0 : ∀ R, Fr H R → Pv R 0 (upd H R (.lst [])))
    (hl : ∀ R i H', Fr H R → Pv R i H' → H' d = some (.frz o (.dK kvs)))
    (st : ∀ R i k v T H', Fr H R → kvs[i]? = some (k, v) → Pv R i H' → Fr H' T → g (.ref T) (wipe σ vs) (upd H' T (.tup [kV k, v])) fun σ2 H2 =>
      wipe σ2 vs = wipe σ vs ∧ tt σ2 H2 fun b H3 => if b = true then te σ2 H3 fun y H4 =>
        ∃ acc, H4 R = some (.lst acc) ∧ acc.length < sizeLine ∧ Pv R (i + 1) (upd H4 R (.lst (acc ++ [y])))
        else Pv R (i + 1) H3)
    (hdn : ∀ R H', Fr H R → Pv R kvs.length H' → Q (.ref R) H') : LcIt (.ref d) g tt te vs σ H Q := by
  refine ⟨d, o, kvs, rfl, hd, fun R hR => ⟨fun i m H' => m = kvs.length - i ∧ i ≤ kvs.length ∧ Pv R i H', ⟨_, rfl, Nat.zero_le _, h0 R ⟨hR⟩⟩, ?_⟩⟩
  rintro i m H' ⟨rfl, hi, z⟩
  have q := hl R i H' ⟨hR⟩ z
  by_cases c : i < kvs.length
  · refine .inr ⟨⟨q, c⟩, Pv R (i + 1), fun H2 w => ⟨_, by omega, rfl, c, w⟩, ?_⟩
    rintro x H2 ⟨T, k, v, e, rfl, hT, rfl⟩
    exact st R i k v T _ ⟨hR⟩ e z ⟨hT⟩
  · have e : i = kvs.length := by omega
    exact .inl ⟨⟨q, by omega⟩, hdn R H' ⟨hR⟩ (by rw [← e]; exact z)⟩
/-- the pairs of a dict, as a loop -/
def ForIt (x : V) (g : TG) (tb : TS) (D : Ends) (σ : L2.St) (H1 : Hp) : Prop := ∃ d o kvs, x = .ref d ∧ H1 d = some (.frz o (.dK kvs)) ∧ ∃ W : Nat → Nat → L2.St → Hp → Prop, (∃ m, W 0 m σ H1) ∧ ∀ i m σ H, W i m σ H →
  ((Iti d o kvs).stop i H ∧ D.nx σ H) ∨ ((Iti d o kvs).go i H ∧ ∃ N : L2.St → Hp → Prop, (∀ σ' H', N σ' H' → ∃ m', m' < m ∧ W (i + 1) m' σ' H') ∧ ∀ x H', (Iti d o kvs).yld i H x H' → g x σ H' fun σ2 H2 => tb { D with nx := N, ct := N, bk := D.nx } σ2 H2)
theorem i_forIt (h : td σ H fun x H1 => ForIt x g tb D σ H1) : tFor (iItems td) g tb D σ H := h
theorem i_eachIt (hd : H d = some (.frz o (.dK kvs))) (Pv : Nat → L2.St → Hp → Prop) (h0 : Pv 0 σ H) (hl : ∀ i σ H', Pv i σ H' → H' d = some (.frz o (.dK kvs)))
    (st : ∀ i k v T σ H', kvs[i]? = some (k, v) → Pv i σ H' → Fr H' T → g (.ref T) σ (upd H' T (.tup [kV k, v])) fun σ2 H2 => tb { D with nx := Pv (i + 1), ct := Pv (i + 1), bk := D.nx } σ2 H2)
    (hdn : ∀ σ H', Pv kvs.length σ H' → D.nx σ H') : ForIt (.ref d) g tb D σ H := by
  refine ⟨d, o, kvs, rfl, hd, fun i m σ H' => m = kvs.length - i ∧ i ≤ kvs.length ∧ Pv i σ H', ⟨_, rfl, Nat.zero_le _, h0⟩, ?_⟩
  rintro i m σ H' ⟨rfl, hi, z⟩
  have q := hl i σ H' z
  by_cases c : i < kvs.length
  · refine .inr ⟨⟨q, c⟩, Pv (i + 1), fun σ2 H2 w => ⟨_, by omega, rfl, c, w⟩, ?_⟩
    rintro x H2 ⟨T, k, v, e, rfl, hT, rfl⟩
    exact st i k v T σ _ e z ⟨hT⟩
  · have e : i = kvs.length := by omega
    exact .inl ⟨⟨q, by omega⟩, hdn σ H' (by rw [← e]; exact z)⟩
/-- a set of the values -/
def ScV (w : World) (x : V) (g : TG) (tt : TT) (te : TE) (vs : List Nat) (σ : L2.St) (H1 : Hp) (Q : VK) : Prop := ∃ d o kvs, x = .ref d ∧ H1 d = some (.frz o (.dK kvs)) ∧ ∀ R, H1 R = none →
  ∃ Wk : Nat → Nat → Hp → Prop, (∃ n, Wk 0 n (upd H1 R (L2.SetO w R (fun _ => false) 0))) ∧ ∀ j n Hw, Wk j n Hw → ((Itd d o kvs).stop j Hw ∧ Q (.ref R) Hw) ∨ SetTurn w (Itd d o kvs) g tt te vs σ R Wk j n Hw
theorem i_scV (h : td σ H fun x H1 => ScV w x g tt te vs σ H1 Q) : tScI w (iVals td) g tt te vs σ H Q := h
theorem i_valS (hd : H d = some (.frz o (.dK kvs))) (Pv : Addr → Nat → Hp → Prop)
    (h0 : ∀ R, Fr H R → Pv R 0 (upd H R (L2.SetO w R (fun _ => false) 0)))
    (hl : ∀ R i H', Fr H R → Pv R i H' → H' d = some (.frz o (.dK kvs)))
    (st : ∀ R i k v H', Fr H R → kvs[i]? = some (k, v) → Pv R i H' → g v (wipe σ vs) H' fun σ2 H2 =>
      wipe σ2 vs = wipe σ vs ∧ tt σ2 H2 fun b H3 => if b = true then te σ2 H3 (InSet w R (Pv R (i + 1))) else Pv R (i + 1) H3)
    (hdn : ∀ R H', Fr H R → Pv R kvs.length H' → Q (.ref R) H') : ScV w (.ref d) g tt te vs σ H Q := by
  refine ⟨d, o, kvs, rfl, hd, fun R hR => ⟨fun i m H' => m = kvs.length - i ∧ i ≤ kvs.length ∧ Pv R i H', ⟨_, rfl, Nat.zero_le _, h0 R ⟨hR⟩⟩, ?_⟩⟩
  rintro i m H' ⟨rfl, hi, z⟩
  have q := hl R i H' ⟨hR⟩ z
  by_cases c : i < kvs.length
  · refine .inr ⟨⟨q, c⟩, Pv R (i + 1), fun H2 w => ⟨_, by omega, rfl, c, w⟩, ?_⟩
    rintro x H2 ⟨rfl, k, e⟩
    exact st R i k x _ ⟨hR⟩ e z
  · have e : i = kvs.length := by omega
    exact .inl ⟨⟨q, by omega⟩, hdn R H' ⟨hR⟩ (by rw [← e]; exact z)⟩
end

/-! ### for each number its least cost, and how many have it -/
def WysAt (H : Hp) : List (Key × V) → List (Int × Int × Int) → Prop
  | [], [] => True
  | kv :: kvs, q :: qs => (∃ t, kv = (.inl q.1, .ref t) ∧ H t = some (.tup [.int q.2.1, .int q.2.2])) ∧ WysAt H kvs qs
  | _, _ => False
theorem WysAt.len {H : Hp} : ∀ {kvs : List (Key × V)} {qs : List (Int × Int × Int)}, WysAt H kvs qs → kvs.length = qs.length
  | [], [], _ => rfl
  | _ :: _, _ :: _, h => by rw [List.length_cons, List.length_cons, WysAt.len h.2]
  | [], _ :: _, h => h.elim
  | _ :: _, [], h => h.elim
theorem WysAt.kp {H H' : Hp} {ws : List Addr} (k : Kp ws H H') : ∀ {kvs : List (Key × V)} {qs : List (Int × Int × Int)}, WysAt H kvs qs → WysAt H' kvs qs
  | [], [], _ => trivial
  | _ :: _, _ :: _, ⟨⟨t, e, h⟩, r⟩ => ⟨⟨t, e, k.fix _ _ h trivial⟩, WysAt.kp k r⟩
  | [], _ :: _, h => h.elim
  | _ :: _, [], h => h.elim
theorem WysAt.get {H : Hp} : ∀ {kvs : List (Key × V)} {qs : List (Int × Int × Int)} {i : Nat} {k : Key} {v : V}, WysAt H kvs qs → kvs[i]? = some (k, v) → ∃ t q, qs[i]? = some q ∧ k = .inl q.1 ∧ v = .ref t ∧ H t = some (.tup [.int q.2.1, .int q.2.2])
  | [], _, _, _, _, _, e => by simp at e
  | _ :: _, [], _, _, _, h, _ => h.elim
  | _ :: _, q :: _, 0, k, v, ⟨⟨t, e, h⟩, _⟩, ev => by
    rw [List.getElem?_cons_zero, e] at ev
    injection ev with ev
    injection ev with e1 e2
    exact ⟨t, q, rfl, e1.symm, e2.symm, h⟩
  | _ :: kvs, _ :: qs, i + 1, k, v, ⟨_, r⟩, ev => by
    rw [List.getElem?_cons_succ] at ev ⊢
    exact WysAt.get r ev
theorem WysAt.snoc {H : Hp} {t : Addr} {q : Int × Int × Int} (e : H t = some (.tup [.int q.2.1, .int q.2.2])) : ∀ {kvs : List (Key × V)} {qs : List (Int × Int × Int)}, WysAt H kvs qs → WysAt H (kvs ++ [(.inl q.1, .ref t)]) (qs ++ [q])
  | [], [], _ => ⟨⟨t, rfl, e⟩, trivial⟩
  | _ :: _, _ :: _, ⟨a, r⟩ => ⟨a, WysAt.snoc e r⟩
  | [], _ :: _, h => h.elim
  | _ :: _, [], h => h.elim
theorem WysAt.val {H : Hp} {n : Int} : ∀ {kvs : List (Key × V)} {qs : List (Int × Int × Int)}, WysAt H kvs qs → (∃ t c m, valV kvs (.inl n) = some (.ref t) ∧ wlook qs n = some (c, m) ∧ H t = some (.tup [.int c, .int m])) ∨ (valV kvs (.inl n) = none ∧ wlook qs n = none)
  | [], [], _ => .inr ⟨rfl, rfl⟩
  | kv :: kvs, q :: qs, ⟨⟨t, e, h⟩, r⟩ => by
    subst e
    by_cases c : q.1 = n
    · refine .inl ⟨t, q.2.1, q.2.2, ?_, ?_, h⟩
      · rw [valV_pos (show (Sum.inl q.1 : Key) = .inl n by rw [c])]
      · unfold wlook
        rw [List.find?_cons, decide_eq_true c]
        rfl
    · have e1 : wlook (q :: qs) n = wlook qs n := by
        unfold wlook
        rw [List.find?_cons, decide_eq_false c]
      have e2 : valV ((Sum.inl q.1, V.ref t) :: kvs) (.inl n : Key) = valV kvs (.inl n) := valV_neg fun z => by
        injection z with z
        exact c z
      rw [e1, e2]
      exact WysAt.val r
  | [], _ :: _, h => h.elim
  | _ :: _, [], h => h.elim
theorem k_min1 {X : Cx} {K : PySem.W.Frag} (h : X.K = K) (hc : X.calm = true) : CallR X (.builtin "min") (rMin K) := h ▸ cr_min hc
theorem take_map_int {α : Type} {f : α → Int} {l : List α} {i : Nat} {x : α} (h : l[i]? = some x) : ((l.take (i + 1)).map f).map V.int = ((l.take i).map f).map V.int ++ [V.int (f x)] := by
  rw [List.take_add_one, h, Option.toList_some, List.map_append, List.map_append]
  rfl
def sp_best_of (K : PySem.W.Frag) : Sp := fun vs H Q _ => ∃ (a : Addr) (kvs : List (Key × V)) (qs : List (Int × Int × Int)), vs = [.ref a] ∧ H a = some (.dK kvs) ∧ WysAt H kvs qs ∧ qs ≠ [] ∧ qs.length ≤ 1000 ∧
  ∀ R H', Fr H R → Kp [] H H' → H' R = some (.tup [.int (bestC qs), .int (bestM qs)]) → Q (.ref R) H'
theorem sc_best_of : FnScope ["ways", "least", "cost", "many"] ["ways"] (defScope s_best_of) :=
  ⟨rfl, rfl, rfl, by decide +kernel, rfl, by decide +kernel, by decide +kernel⟩
theorem ok_best_of {P : Program} {w : World} {K : PySem.W.Frag} {mg : Str → Option Value} {base : Heap} (T : Txt K mg) :
    FnG P w K mg base 1 T.a_best_of T.d_best_of ["ways"] (sp_best_of K) := by
  refine okD T.F_best_of sc_best_of (fun vs H Q E h => ?_) (fun cdv A outer s H vs Q E hr h => ?_)
  · first
      | (obtain ⟨_, rfl, _⟩ := h; rfl)
      | (obtain ⟨_, _, rfl, _⟩ := h; rfl)
      | (obtain ⟨_, _, _, rfl, _⟩ := h; rfl)
      | (obtain ⟨_, _, _, _, rfl, _⟩ := h; rfl)
      | (obtain ⟨_, _, _, _, _, rfl, _⟩ := h; rfl)
      | (obtain ⟨_, _, _, _, _, _, rfl, _⟩ := h; rfl)
      | (obtain ⟨_, _, _, _, _, _, _, rfl, _⟩ := h; rfl)
      | (obtain ⟨_, _, _, _, _, _, _, _, rfl, _⟩ := h; rfl)
      | (obtain ⟨_, _, _, _, _, _, _, _, _, rfl, _⟩ := h; rfl)
      | (obtain ⟨_, _, _, _, _, _, _, _, _, _, rfl, _⟩ := h; rfl)
      | (obtain ⟨_, _, _, _, _, _, _, _, _, _, _, rfl, _⟩ := h; rfl)
      | (obtain ⟨_, _, _, _, _, _, _, _, _, _, _, _, rfl, _⟩ := h; rfl)
      | (obtain ⟨_, _, _, _, _, _, _, _, _, _, _, _, _, rfl, _⟩ := h; rfl)
      | (obtain ⟨_, _, _, _, _, _, _, _, _, _, _, _, _, _, rfl, _⟩ := h; rfl)
      | (obtain ⟨_, _, _, _, _, _, _, _, _, _, _, _, _, _, _, rfl, _⟩ := h; rfl)
      | (obtain ⟨_, _, _, _, _, _, _, _, _, _, _, _, _, _, _, _, rfl, _⟩ := h; rfl)
      | (obtain ⟨_, _, _, _, _, _, _, _, _, _, _, _, _, _, _, _, _, rfl, _⟩ := h; rfl)
      | (obtain ⟨_, _, _, _, _, _, _, _, _, _, _, _, _, _, _, _, _, _, rfl, _⟩ := h; rfl)
      | (obtain ⟨_, _, _, _, _, _, _, _, _, _, _, _, _, _, _, _, _, _, _, rfl, _⟩ := h; rfl)
  · obtain ⟨a, kvs, qs, rfl, ha, hq, ne, lq, k⟩ := h
    have lk := hq.len
    have cl_Ties := T.cl_Ties
    have na_Ties_near := T.na_Ties_near
    have na_Ties_own_ever := T.na_Ties_own_ever
    have na_Ties_own_living := T.na_Ties_own_living
    refine ⟨_, (pss_cons (ps_set (i := 1) sc_best_of.nd rfl (Or.inr rfl) (pe_callB (k_min1 (K := K) rfl rfl) (by rfl) T.n_min (by decide +kernel) (pa_cons (pe_lock (pe_lc (own := [("cost", 2), ("many", 3)]) (g := (gTup K 2 (gCons (gName 2) (gCons (gName 3) gNil)))) (tt := tYes) rfl sc_best_of.nd (pi_values (pv 0)) (blkOk_by (own := [("cost", 2), ("many", 3)]) (N := ["ways", "least", "cost", "many"]) (sc := defScope s_best_of) (by decide +kernel)) (fun _ _ _ _ _ => (k_gtup (K := K) 2 rfl rfl (pgs_cons (pg_name (i := 2) sc_best_of.nd rfl (Or.inl rfl)) (pgs_cons (pg_name (i := 3) sc_best_of.nd rfl (Or.inl rfl)) pgs_nil)))) (fun _ _ _ _ _ => pts_nil) (fun _ _ _ _ _ => (pv 2)))) pa_nil)))
      (pss_one (ps_ret (pe_tup (pa_cons (pv 1) (pa_cons (pe_callB (k_sum (K := K) rfl rfl) (by rfl) T.n_sum (by decide +kernel) (pa_cons (pe_lock (pe_lc (own := [("cost", 2), ("many", 3)]) (g := (gTup K 2 (gCons (gName 2) (gCons (gName 3) gNil)))) rfl sc_best_of.nd (pi_values (pv 0)) (blkOk_by (own := [("cost", 2), ("many", 3)]) (N := ["ways", "least", "cost", "many"]) (sc := defScope s_best_of) (by decide +kernel)) (fun _ _ _ _ _ => (k_gtup (K := K) 2 rfl rfl (pgs_cons (pg_name (i := 2) sc_best_of.nd rfl (Or.inl rfl)) (pgs_cons (pg_name (i := 3) sc_best_of.nd rfl (Or.inl rfl)) pgs_nil)))) (fun _ _ _ _ _ => (pts_one (pt_cmpR (k_eq (K := K) rfl hr.r.units) (pv 2) (pv 1) (nomark _)))) (fun _ _ _ _ _ => (pv 3)))) pa_nil)) pa_nil)))))), ?_⟩
    dsimp only [cxOf, st_1, st_2, st_3, st_4, st_5, st_6, List.length_cons, List.length_nil, List.replicate_succ, List.replicate_zero, Nat.reduceAdd, Nat.reduceSub]
    walk_at "gs"
    refine i_lockE ha fun od => ?_
    refine i_lcV ?_
    walk_at "gs"
    have kF : Kp [a] H (upd H a (.frz od (.dK kvs))) := kp_set ha (fun z => z)
    have hq1 := hq.kp kF
    refine i_valG upd_same (fun R i H' => Kp [] (upd H a (.frz od (.dK kvs))) H' ∧ H' R = some (.lst (((qs.take i).map fun q => q.2.1).map V.int))) ?_ ?_ ?_ ?_
    · intro R fR
      exact ⟨Kp.new fR, upd_same⟩
    · rintro R i H' fR ⟨kk, _⟩
      exact kk.at_ _ _ upd_same not_nil
    · rintro R i ky v H' fR hy ⟨kk, hR⟩
      obtain ⟨t, q, hqi, rfl, rfl, ht⟩ := (hq1.kp kk).get hy
      have hst : SqT K H' t [.int q.2.1, .int q.2.2] := SqT.of ht
      have hil := (List.getElem?_eq_some_iff.mp hqi).1
      walk_at "gs"
      refine ⟨_, hR, small_sz (by rw [List.length_map, List.length_map, List.length_take]; omega), Kp.upd kk fR, ?_⟩
      rw [take_map_int hqi]
      exact upd_same
    rintro R H1 fR ⟨k1, hR⟩
    rw [lk, List.take_length] at hR
    have nRa : R ≠ a := fun e => by
      rw [e] at fR
      have := fR.e
      rw [upd_same] at this
      cases this
    refine ⟨k1.at_ _ _ upd_same not_nil, ?_⟩
    have kU : Kp [] H (upd H1 a (.dK kvs)) := kp_unl ha (fun z => z) k1
    have hRU : (upd H1 a (.dK kvs)) R = some (.lst ((qs.map fun q => q.2.1).map V.int)) := upd_nn nRa hR
    have haU : (upd H1 a (.dK kvs)) a = some (.dK kvs) := upd_same
    obtain ⟨H2, e2⟩ : ∃ H2, H2 = upd H1 a (.dK kvs) := ⟨_, rfl⟩
    rw [← e2] at kU hRU haU ⊢
    walk_at "gs"
    refine ⟨R, _, rfl, SqL.of hRU, by rw [List.length_map]; exact List.length_pos_iff.mpr ne, fun m hm hmin => ?_⟩
    have em : m = bestC qs := minL_uniq hm hmin
    subst em
    walk_at "gs"
    refine i_lockE haU fun od2 => ?_
    refine i_lcV ?_
    walk_at "gs"
    have kF2 : Kp [a] H2 (upd H2 a (.frz od2 (.dK kvs))) := kp_set haU (fun z => z)
    have hq2 := (hq.kp kU).kp kF2
    refine i_valG upd_same (fun R i H' => Kp [] (upd H2 a (.frz od2 (.dK kvs))) H' ∧ H' R = some (.lst ((((qs.take i).filter fun q => decide (q.2.1 = bestC qs)).map fun q => q.2.2).map V.int))) ?_ ?_ ?_ ?_
    · intro R fR
      exact ⟨Kp.new fR, upd_same⟩
    · rintro R i H' fR ⟨kk, _⟩
      exact kk.at_ _ _ upd_same not_nil
    · rintro R i ky v H' fR hy ⟨kk, hR⟩
      obtain ⟨t, q, hqi, rfl, rfl, ht⟩ := (hq2.kp kk).get hy
      have hst : SqT K H' t [.int q.2.1, .int q.2.2] := SqT.of ht
      have hil := (List.getElem?_eq_some_iff.mp hqi).1
      have step := filter_step (f := fun q : Int × Int × Int => decide (q.2.1 = bestC qs)) hqi
      have l1 := List.length_filter_le (fun q : Int × Int × Int => decide (q.2.1 = bestC qs)) (qs.take i)
      have l2 : (qs.take i).length ≤ qs.length := by rw [List.length_take]; omega
      walk_at "gs"
      refine i_dec (fun c => ?_) (fun c => ?_)
      · walk_at "gs"
        refine ⟨_, hR, small_sz (by rw [List.length_map, List.length_map]; omega), Kp.upd kk fR, ?_⟩
        rw [step, if_pos (decide_eq_true c), List.map_append, List.map_append]
        exact upd_same
      · refine ⟨kk, ?_⟩
        rw [step, if_neg (by simpa using c), List.append_nil]
        exact hR
    rintro R2 H3 fR2 ⟨k3, hR2⟩
    rw [lk, List.take_length] at hR2
    have nR2a : R2 ≠ a := fun e => by
      rw [e] at fR2
      have := fR2.e
      rw [upd_same] at this
      cases this
    refine ⟨k3.at_ _ _ upd_same not_nil, ?_⟩
    have kV2 : Kp [] H2 (upd H3 a (.dK kvs)) := kp_unl haU (fun z => z) k3
    have hsR2 : SqL K (upd H3 a (.dK kvs)) R2 (((qs.filter fun q => decide (q.2.1 = bestC qs)).map fun q => q.2.2).map V.int) := SqL.of (upd_nn nR2a hR2)
    walk_at "gs"
    refine ⟨R2, _, rfl, hsR2, ?_⟩
    walk_at "gs"
    refine i_new fun T fT => ?_
    have kT := Kp.new (ws := []) (o := HO.tup [.int (bestC qs), .int (bestM qs)]) fT
    have kUV := Kp.trans kU kV2
    exact k T _ (kUV.free fT) (Kp.trans kUV kT) upd_same

/-! ### a dict walked in a loop, asked with a default, made anew -/
theorem i_lockS {t : TS} {D : Ends} {σ : L2.St} {H : Hp} {d : Addr} {kvs : List (Key × V)} (h : H d = some (.dK kvs))
    (k : ∀ od, t ⟨fun σ' H' => H' d = some (.frz od (.dK kvs)) ∧ D.nx σ' (upd H' d (.dK kvs)), fun v H' => H' d = some (.frz od (.dK kvs)) ∧ D.rt v (upd H' d (.dK kvs)), fun σ' H' => H' d = some (.frz od (.dK kvs)) ∧ D.bk σ' (upd H' d (.dK kvs)), fun σ' H' => H' d = some (.frz od (.dK kvs)) ∧ D.ct σ' (upd H' d (.dK kvs))⟩ σ (upd H d (.frz od (.dK kvs)))) : tLock t D σ H := ⟨d, _, h, trivial, k⟩
theorem kp_unlW {ws : List Addr} {H3 H4 : Hp} {d : Addr} {u v : HO} (h : H3 d = some u) (nu : ¬ Fix u) (k : Kp ws (upd H3 d v) H4) (n : ∀ b, b ∈ ws → d ≠ b) : Kp ws H3 (upd H4 d u) := by
  refine ⟨fun a o e na => ?_, fun a o e f => ?_, fun a o e => ?_⟩
  · by_cases z : a = d
    · subst z
      rw [h] at e
      cases e
      exact upd_same
    · rw [upd_ne z]
      exact k.at_ a o (by rw [upd_ne z]; exact e) na
  · have z : a ≠ d := by
      intro z
      subst z
      rw [h] at e
      cases e
      exact nu f
    rw [upd_ne z]
    exact k.fix a o (by rw [upd_ne z]; exact e) f
  · by_cases z : a = d
    · exact ⟨u, by rw [z]; exact upd_same⟩
    · rw [upd_ne z]
      exact k.dom a o (by rw [upd_ne z]; exact e)
theorem i_dnewK {σ : L2.St} {H : Hp} {Q : VK} (h : New H fun p => Q (.ref p) (upd H p (.dK []))) : tDNewK σ H Q := h
def DG3 (a : Addr) (y z : V) (H : Hp) (Q : VK) : Prop := ∃ o, DGet H a y o ∧ Q (o.getD z) H
def DG2 (x : V) (ty tx : TE) (σ : L2.St) (H1 : Hp) (Q : VK) : Prop := ∃ a, x = .ref a ∧ IsD H1 a ∧ ty σ H1 fun y H2 => tx σ H2 fun z H3 => DG3 a y z H3 Q
theorem i_dget2 {td ty tx : TE} {σ : L2.St} {H : Hp} {Q : VK} (h : td σ H fun x H1 => DG2 x ty tx σ H1 Q) : tDGet2 td ty tx σ H Q := h
theorem i_dg2 {a : Addr} {kvs : List (Key × V)} {ty tx : TE} {σ : L2.St} {H : Hp} {Q : VK} (hd : H a = some (.dK kvs)) (h : ty σ H fun y H2 => tx σ H2 fun z H3 => DG3 a y z H3 Q) : DG2 (.ref a) ty tx σ H Q := ⟨a, rfl, .inl ⟨_, Rd.of hd⟩, h⟩
theorem i_dg3 {a : Addr} {kvs : List (Key × V)} {n : Int} {z : V} {H : Hp} {Q : VK} (hd : H a = some (.dK kvs)) (q : Q ((valV kvs (.inl n)).getD z) H) : DG3 a (.int n) z H Q := ⟨_, DGet.k (k := .inl n) hd, q⟩

/-! ### what a world's numbers come to with one more beneath it -/
theorem i_eqNI {K : PySem.W.Frag} {H : Hp} {Q : VK} {n : Int} (h : Q (.bl false) H) : uEq K .non (.int n) H Q := by
  refine .inl ⟨rfl, ?_⟩
  have e : decide (V.non = V.int n) = false := by
    rw [decide_eq_false_iff_not]
    intro z
    cases z
  rw [e]
  exact h
theorem WysAt.no {H : Hp} {n : Int} : ∀ {kvs : List (Key × V)} {qs : List (Int × Int × Int)}, WysAt H kvs qs → n ∉ qs.map (·.1) → valV kvs (.inl n) = none
  | [], [], _, _ => rfl
  | kv :: kvs, q :: qs, ⟨⟨t, e, h⟩, r⟩, m => by
    subst e
    rw [List.map_cons, List.mem_cons] at m
    have e2 : valV ((Sum.inl q.1, V.ref t) :: kvs) (.inl n : Key) = valV kvs (.inl n) := valV_neg fun z => by
      injection z with z
      exact m (.inl z.symm)
    rw [e2]
    exact WysAt.no r fun z => m (.inr z)
  | [], _ :: _, h, _ => h.elim
  | _ :: _, [], h, _ => h.elim
theorem WysAt.unl {H : Hp} {d : Addr} {o : Obj} {u v : HO} (h : H d = some (.frz o u)) : ∀ {kvs : List (Key × V)} {qs : List (Int × Int × Int)}, WysAt H kvs qs → WysAt (upd H d v) kvs qs
  | [], [], _ => trivial
  | _ :: _, _ :: _, ⟨⟨t, e, q⟩, r⟩ => ⟨⟨t, e, by
      have n : t ≠ d := fun z => by
        rw [z, h] at q
        cases q
      rw [upd_ne n]
      exact q⟩, WysAt.unl h r⟩
  | [], _ :: _, h => h.elim
  | _ :: _, [], h => h.elim
theorem take_map_snoc {α β : Type} {f : α → β} {l : List α} {i : Nat} {x : α} (h : l[i]? = some x) : (l.take (i + 1)).map f = (l.take i).map f ++ [f x] := by
  rw [List.take_add_one, h, Option.toList_some, List.map_append]
  rfl
theorem take_not {l : List (Int × Int × Int)} {i : Nat} {q : Int × Int × Int} (h : l[i]? = some q) (nd : (l.map (·.1)).Nodup) : q.1 ∉ (l.take i).map (·.1) := fun m => by
  rw [List.map_take] at m
  obtain ⟨j, hj⟩ := List.getElem?_of_mem m
  have lj := (List.getElem?_eq_some_iff.mp hj).1
  rw [List.length_take] at lj
  rw [List.getElem?_take_of_lt (by omega)] at hj
  have hi : (l.map (·.1))[i]? = some q.1 := by rw [List.getElem?_map, h]; rfl
  have := (List.getElem?_inj (List.getElem?_eq_some_iff.mp hi).1 nd).mp (hi.trans hj.symm)
  omega
theorem tied_keys (qs bs : List (Int × Int × Int)) : (tiedOn qs bs).map (·.1) = qs.map (·.1) := by
  unfold tiedOn
  rw [List.map_map]
  rfl
def sp_tied_on (K : PySem.W.Frag) : Sp := fun vs H Q _ => ∃ (a b : Addr) (ka kb : List (Key × V)) (qa qb : List (Int × Int × Int)), vs = [.ref a, .ref b] ∧ a ≠ b ∧ H a = some (.dK ka) ∧ WysAt H ka qa ∧ H b = some (.dK kb) ∧ WysAt H kb qb ∧ qb ≠ [] ∧ qb.length ≤ 64 ∧ qa.length ≤ 1000 ∧ (qa.map (·.1)).Nodup ∧ (∃ e e', Bnd e qa ∧ Bnd e' qb ∧ e ≤ 1000 ∧ e' ≤ 1000) ∧
  ∀ R kvs H', Fr H R → Kp [] H H' → H' R = some (.dK kvs) → WysAt H' kvs (tiedOn qa qb) → Q (.ref R) H'
theorem sc_tied_on : FnScope ["ways", "beneath", "least", "many_least", "found", "number", "cost", "many", "there", "many_there", "more", "times"] ["ways", "beneath"] (defScope s_tied_on) :=
  ⟨rfl, rfl, rfl, by decide +kernel, rfl, by decide +kernel, by decide +kernel⟩
theorem ok_tied_on {P : Program} {w : World} {K : PySem.W.Frag} {mg : Str → Option Value} {base : Heap} (T : Txt K mg) :
    FnG P w K mg base 2 T.a_tied_on T.d_tied_on ["ways", "beneath"] (sp_tied_on K) := by
  refine okD T.F_tied_on sc_tied_on (fun vs H Q E h => ?_) (fun cdv A outer s H vs Q E hr h => ?_)
  · first
      | (obtain ⟨_, rfl, _⟩ := h; rfl)
      | (obtain ⟨_, _, rfl, _⟩ := h; rfl)
      | (obtain ⟨_, _, _, rfl, _⟩ := h; rfl)
      | (obtain ⟨_, _, _, _, rfl, _⟩ := h; rfl)
      | (obtain ⟨_, _, _, _, _, rfl, _⟩ := h; rfl)
      | (obtain ⟨_, _, _, _, _, _, rfl, _⟩ := h; rfl)
      | (obtain ⟨_, _, _, _, _, _, _, rfl, _⟩ := h; rfl)
      | (obtain ⟨_, _, _, _, _, _, _, _, rfl, _⟩ := h; rfl)
      | (obtain ⟨_, _, _, _, _, _, _, _, _, rfl, _⟩ := h; rfl)
      | (obtain ⟨_, _, _, _, _, _, _, _, _, _, rfl, _⟩ := h; rfl)
      | (obtain ⟨_, _, _, _, _, _, _, _, _, _, _, rfl, _⟩ := h; rfl)
      | (obtain ⟨_, _, _, _, _, _, _, _, _, _, _, _, rfl, _⟩ := h; rfl)
      | (obtain ⟨_, _, _, _, _, _, _, _, _, _, _, _, _, rfl, _⟩ := h; rfl)
      | (obtain ⟨_, _, _, _, _, _, _, _, _, _, _, _, _, _, rfl, _⟩ := h; rfl)
      | (obtain ⟨_, _, _, _, _, _, _, _, _, _, _, _, _, _, _, rfl, _⟩ := h; rfl)
      | (obtain ⟨_, _, _, _, _, _, _, _, _, _, _, _, _, _, _, _, rfl, _⟩ := h; rfl)
      | (obtain ⟨_, _, _, _, _, _, _, _, _, _, _, _, _, _, _, _, _, rfl, _⟩ := h; rfl)
      | (obtain ⟨_, _, _, _, _, _, _, _, _, _, _, _, _, _, _, _, _, _, rfl, _⟩ := h; rfl)
      | (obtain ⟨_, _, _, _, _, _, _, _, _, _, _, _, _, _, _, _, _, _, _, rfl, _⟩ := h; rfl)
  · obtain ⟨a, b, ka, kb, qa, qb, rfl, nab, ha, wa, hb, wb, ne, lb, la, nd, ⟨e, e', bq, bb, le, le'⟩, k⟩ := h
    have lka := wa.len
    have cl_Ties := T.cl_Ties
    have na_Ties_near := T.na_Ties_near
    have na_Ties_own_ever := T.na_Ties_own_ever
    have na_Ties_own_living := T.na_Ties_own_living
    refine ⟨_, (pss_cons (ps_asg (d1 (ok_best_of T) (hr.mono (by decide)) (by rfl) T.m_best_of T.F_best_of.kp T.b_best_of passL (pa_cons (pv 1) pa_nil)) (k_gtup (K := K) 2 rfl rfl (pgs_cons (pg_name (i := 2) sc_tied_on.nd rfl (Or.inl rfl)) (pgs_cons (pg_name (i := 3) sc_tied_on.nd rfl (Or.inl rfl)) pgs_nil))))
      (pss_cons (ps_set (i := 4) sc_tied_on.nd rfl (Or.inl rfl) pe_dnewK)
      (pss_cons (ps_lock (ps_for (passes_of rfl) rfl (pi_items (pv 0)) (k_gtup (K := K) 2 rfl rfl (pgs_cons (pg_name (i := 5) sc_tied_on.nd rfl (Or.inl rfl)) (pgs_cons (k_gtup (K := K) 2 rfl rfl (pgs_cons (pg_name (i := 6) sc_tied_on.nd rfl (Or.inl rfl)) (pgs_cons (pg_name (i := 7) sc_tied_on.nd rfl (Or.inl rfl)) pgs_nil))) pgs_nil)))
      (pss_cons (ps_asg (pe_dget2 (u1 hr.r.units) (pv 1) (pv 5) (pe_tup (pa_cons pe_non (pa_cons pe_int pa_nil))) ⟨rfl, rfl, rfl, rfl⟩) (k_gtup (K := K) 2 rfl rfl (pgs_cons (pg_name (i := 8) sc_tied_on.nd rfl (Or.inl rfl)) (pgs_cons (pg_name (i := 9) sc_tied_on.nd rfl (Or.inl rfl)) pgs_nil))))
      (pss_cons (ps_par (i := 10) (j := 11) (by rfl) sc_tied_on.nd rfl rfl (by decide) rfl rfl (pa_cons (pe_op (k_add (K := K) rfl) (pv 2) pe_int) (pa_cons (pv 3) pa_nil)) (by rfl))
      (pss_cons (ps_if (pt_cmpR (k_eq (K := K) rfl hr.r.units) (pv 8) (pv 2) (nomark _)) (pss_one (ps_par (i := 10) (j := 11) (by rfl) sc_tied_on.nd rfl rfl (by decide) rfl rfl (pa_cons (pv 2) (pa_cons (pv 9) pa_nil)) (by rfl))) (pss_one (ps_if (pt_cmpR (k_eq (K := K) rfl hr.r.units) (pv 8) (pe_op (k_add (K := K) rfl) (pv 2) pe_int) (nomark _)) (pss_one (ps_aug (i := 11) sc_tied_on.nd rfl (Or.inl rfl) (pv 9) ip_add)) pss_nil)))
      (pss_one (ps_asg (pe_tup (pa_cons (pe_op (k_add (K := K) rfl) (pv 6) (pv 10)) (pa_cons (pe_op o_mul (pv 7) (pv 11)) pa_nil))) (pg_sub (pv 4) (pv 5) (set_dict (u1 hr.r.units))))))))))
      (pss_one (ps_ret (pv 4)))))), ?_⟩
    dsimp only [cxOf, st_1, st_2, st_3, st_4, st_5, st_6, List.length_cons, List.length_nil, List.replicate_succ, List.replicate_zero, Nat.reduceAdd, Nat.reduceSub]
    walk_at "gs"
    refine ⟨b, kb, qb, rfl, hb, wb, ne, by omega, fun R H1 fR k1 hR => ?_⟩
    have hsR : SqT K H1 R [.int (bestC qb), .int (bestM qb)] := SqT.of hR
    walk_at "gs"
    refine i_dnewK (i_new fun F fF => ?_)
    have kF := Kp.new (ws := []) (o := HO.dK []) fF
    have hF := fresh_at (o := HO.dK []) fF
    have k2 := Kp.trans k1 kF
    have ha2 := k2.at_ _ _ ha not_nil
    have hb2 := k2.at_ _ _ hb not_nil
    have wa2 := wa.kp k2
    have wb2 := wb.kp k2
    have naF : a ≠ F := fr_ne (k1.at_ _ _ ha not_nil) fF
    have nbF : b ≠ F := fr_ne (k1.at_ _ _ hb not_nil) fF
    obtain ⟨H2, e2⟩ : ∃ H2, H2 = upd H1 F (.dK []) := ⟨_, rfl⟩
    rw [← e2] at hF k2 ha2 hb2 wa2 wb2 ⊢
    walk_at "gs"
    refine i_lockS ha2 fun od => ?_
    refine i_forIt ?_
    walk_at "gs"
    have kL : Kp [a] H2 (upd H2 a (.frz od (.dK ka))) := kp_set ha2 (fun z => z)
    have waL := wa2.kp kL
    have wbL := wb2.kp kL
    have hbL := kL.at_ _ _ hb2 (not_one (Ne.symm nab))
    have hFL := kL.at_ _ _ hF (not_one (Ne.symm naF))
    refine i_eachIt upd_same (fun i σ H' => ∃ o1 o2 o3 o4 o5 o6 o7 : Option V, σ = [some (.ref a), some (.ref b), some (.int (bestC qb)), some (.int (bestM qb)), some (.ref F), o1, o2, o3, o4, o5, o6, o7] ∧ Kp [F] (upd H2 a (.frz od (.dK ka))) H' ∧ ∃ kvs, H' F = some (.dK kvs) ∧ WysAt H' kvs (tiedOn (qa.take i) qb)) ?_ ?_ ?_ ?_
    · exact ⟨_, _, _, _, _, _, _, rfl, Kp.refl, [], hFL, trivial⟩
    · rintro i σ H' ⟨_, _, _, _, _, _, _, _, kk, _⟩
      exact kk.at_ _ _ upd_same (not_one naF)
    · rintro i ky v T σ H' hk ⟨o1, o2, o3, o4, o5, o6, o7, rfl, kk, kvs, hF', wF⟩ fT
      obtain ⟨t, q, hqi, rfl, rfl, ht⟩ := (waL.kp kk).get hk
      have hil := (List.getElem?_eq_some_iff.mp hqi).1
      have kT := Kp.new (ws := []) (o := HO.tup [kV (.inl q.1), .ref t]) fT
      have hT : SqT K (upd H' T (.tup [kV (.inl q.1), .ref t])) T [.int q.1, .ref t] := SqT.of (fresh_at fT)
      have ht3 : SqT K (upd H' T (.tup [kV (.inl q.1), .ref t])) t [.int q.2.1, .int q.2.2] := SqT.of (kT.fix _ _ ht trivial)
      have kk3 := Kp.trans kk kT.wide
      have hF3 := kT.at_ _ _ hF' not_nil
      have wF3 := wF.kp kT
      obtain ⟨H3, e3⟩ : ∃ H3, H3 = upd H' T (.tup [kV (.inl q.1), .ref t]) := ⟨_, rfl⟩
      rw [← e3] at hT ht3 kk3 hF3 wF3 ⊢
      have hb3 := kk3.at_ _ _ hbL (not_one nbF)
      have wb3 := wbL.kp kk3
      have step : tiedOn (qa.take (i + 1)) qb = tiedOn (qa.take i) qb ++ [(q.1, q.2.1 + (there qb q.1).1, q.2.2 * (there qb q.1).2)] := take_map_snoc hqi
      have lF := wF3.len
      have noF : valV kvs (.inl q.1) = none := wF3.no (by rw [tied_keys]; exact take_not hqi nd)
      have lkv : kvs.length ≤ 1000 := by
        rw [lF]
        unfold tiedOn
        rw [List.length_map, List.length_take]
        omega
      obtain ⟨bm1, bm2⟩ := bq q (List.mem_of_getElem? hqi)
      obtain ⟨bt1, bt2⟩ := there_bnd bb lb q.1
      have mok : CMulW q.2.2 (there qb q.1).2 := by
        have g1 := bnd_log (e := e) bm1 (by omega)
        have g2 := bnd_log (e := e') bt1 bt2
        unfold CMulW
        omega
      walk_at "gs"
      refine i_dget2 ?_
      walk_at "gs"
      refine i_dg2 hb3 ?_
      walk_at "gs"
      refine i_new fun W fW => ?_
      have kW := Kp.new (ws := []) (o := HO.tup [.non, .int 0]) fW
      have hW := fresh_at (o := HO.tup [.non, .int 0]) fW
      have hb4 := kW.at_ _ _ hb3 not_nil
      have hF4 := kW.at_ _ _ hF3 not_nil
      have wF4 := wF3.kp kW
      have wb4 := wb3.kp kW
      have kk4 := Kp.trans kk3 kW.wide
      obtain ⟨H4, e4⟩ : ∃ H4, H4 = upd H3 W (.tup [.non, .int 0]) := ⟨_, rfl⟩
      rw [← e4] at hW hb4 hF4 wF4 wb4 kk4 ⊢
      refine i_dg3 hb4 ?_
      -- the end of a turn, alike in all branches
      have fin : ∀ (U : Addr), Fr H4 U → ∀ (o1 o2 o3 o4 o5 o6 o7 : Option V),
          ∃ p1 p2 p3 p4 p5 p6 p7 : Option V, [some (.ref a), some (.ref b), some (.int (bestC qb)), some (.int (bestM qb)), some (.ref F), o1, o2, o3, o4, o5, o6, o7] = [some (.ref a), some (.ref b), some (.int (bestC qb)), some (.int (bestM qb)), some (.ref F), p1, p2, p3, p4, p5, p6, p7] ∧
          Kp [F] (upd H2 a (.frz od (.dK ka))) (upd (upd H4 U (.tup [.int (q.2.1 + (there qb q.1).1), .int (q.2.2 * (there qb q.1).2)])) F (.dK (putK kvs (.inl q.1) (.ref U)))) ∧ ∃ kvs', (upd (upd H4 U (.tup [.int (q.2.1 + (there qb q.1).1), .int (q.2.2 * (there qb q.1).2)])) F (.dK (putK kvs (.inl q.1) (.ref U)))) F = some (.dK kvs') ∧ WysAt (upd (upd H4 U (.tup [.int (q.2.1 + (there qb q.1).1), .int (q.2.2 * (there qb q.1).2)])) F (.dK (putK kvs (.inl q.1) (.ref U)))) kvs' (tiedOn (qa.take (i + 1)) qb) := by
        intro U fU o1 o2 o3 o4 o5 o6 o7
        have kU := Kp.new (ws := []) (o := HO.tup [.int (q.2.1 + (there qb q.1).1), .int (q.2.2 * (there qb q.1).2)]) fU
        have hU := fresh_at (o := HO.tup [.int (q.2.1 + (there qb q.1).1), .int (q.2.2 * (there qb q.1).2)]) fU
        have hF5 := kU.at_ _ _ hF4 not_nil
        have kM : Kp [F] (upd H4 U (.tup [.int (q.2.1 + (there qb q.1).1), .int (q.2.2 * (there qb q.1).2)])) (upd (upd H4 U (.tup [.int (q.2.1 + (there qb q.1).1), .int (q.2.2 * (there qb q.1).2)])) F (.dK (putK kvs (.inl q.1) (.ref U)))) := kp_set hF5 (fun z => z)
        refine ⟨_, _, _, _, _, _, _, rfl, Kp.trans kk4 (Kp.trans kU.wide kM), _, upd_same, ?_⟩
        have wM := wF4.kp (Kp.trans kU.wide kM)
        have hUM := kM.fix _ _ hU trivial
        rw [step]
        rw [putK_new _ noF] at wM hUM ⊢
        exact WysAt.snoc (q := (q.1, q.2.1 + (there qb q.1).1, q.2.2 * (there qb q.1).2)) hUM wM
      rcases wb4.val (n := q.1) with ⟨s, c, m, e1, e5, hs⟩ | ⟨e1, e5⟩
      · rw [e1]
        have hs4 : SqT K H4 s [.int c, .int m] := SqT.of hs
        show gTup _ _ _ (.ref s) _ _ _
        walk_at "gs"
        refine i_dec (fun c1 => ?_) (fun c1 => ?_)
        · have ev : there qb q.1 = (bestC qb, m) := by
            unfold there
            rw [e5]
            show (if c = _ then _ else _) = _
            rw [if_pos c1]
          rw [ev] at fin mok
          walk_at "gs"
          refine i_mulW mok ?_
          walk_at "gs"
          refine i_new fun U fU => ?_
          walk_at "gs"
          refine i_setK (Kp.at_ (Kp.new (ws := []) fU) _ _ hF4 not_nil) (by omega) ?_
          exact fin U fU _ _ _ _ _ _ _
        · walk_at "gs"
          refine i_dec (fun c2 => ?_) (fun c2 => ?_)
          · have ev : there qb q.1 = (bestC qb + 1, bestM qb + m) := by
              unfold there
              rw [e5]
              show (if c = _ then _ else _) = _
              rw [if_neg c1, if_pos c2]
            rw [ev] at fin mok
            walk_at "gs"
            refine i_mulW mok ?_
            walk_at "gs"
            refine i_new fun U fU => ?_
            walk_at "gs"
            refine i_setK (Kp.at_ (Kp.new (ws := []) fU) _ _ hF4 not_nil) (by omega) ?_
            exact fin U fU _ _ _ _ _ _ _
          · have ev : there qb q.1 = (bestC qb + 1, bestM qb) := by
              unfold there
              rw [e5]
              show (if c = _ then _ else _) = _
              rw [if_neg c1, if_neg c2]
            rw [ev] at fin mok
            walk_at "gs"
            refine i_mulW mok ?_
            walk_at "gs"
            refine i_new fun U fU => ?_
            walk_at "gs"
            refine i_setK (Kp.at_ (Kp.new (ws := []) fU) _ _ hF4 not_nil) (by omega) ?_
            exact fin U fU _ _ _ _ _ _ _
      · rw [e1]
        show gTup _ _ _ (.ref W) _ _ _
        have hW4 : SqT K H4 W [.non, .int 0] := SqT.of hW
        have ev : there qb q.1 = (bestC qb + 1, bestM qb) := by
          unfold there
          rw [e5]
        rw [ev] at fin mok
        walk_at "gs"
        refine i_eqNI ?_
        walk_at "gs"
        refine i_eqNI ?_
        walk_at "gs"
        refine i_mulW mok ?_
        walk_at "gs"
        refine i_new fun U fU => ?_
        walk_at "gs"
        refine i_setK (Kp.at_ (Kp.new (ws := []) fU) _ _ hF4 not_nil) (by omega) ?_
        exact fin U fU _ _ _ _ _ _ _
    rintro σ H3 ⟨o1, o2, o3, o4, o5, o6, o7, rfl, kk, kvs, hF', wF⟩
    rw [lka, List.take_length] at wF
    refine ⟨kk.at_ _ _ upd_same (not_one naF), ?_⟩
    have kE : Kp [F] H2 (upd H3 a (.dK ka)) := kp_unlW ha2 (fun z => z) kk fun b hb => by rw [List.mem_singleton.mp hb]; exact naF
    have wE : WysAt (upd H3 a (.dK ka)) kvs (tiedOn qa qb) := wF.unl (kk.at_ _ _ upd_same (not_one naF))
    walk_at "gs"
    exact k F _ _ (k1.free fF) (Kp.dropAll (Kp.trans k2.wide kE) fun b hb => .inr (by rw [List.mem_singleton.mp hb]; exact k1.free fF)) (upd_nn (Ne.symm naF) hF') wE

/-! ### all worlds from one on, each behind the one it is come to by -/
section
variable {D : Int → Int → Int} {ever root : Int} {liv ks : List Int} {nb : Int → List Int}
def srt (l : List Int) : List Int := l.mergeSort fun a b => decide (a ≤ b)
theorem srt_perm (l : List Int) : (srt l).Perm l := List.mergeSort_perm l _
theorem srt_eq {l as : List Int} (h : as.Pairwise (· < ·)) (m : ∀ x, x ∈ as ↔ x ∈ l) (nd : l.Nodup) : as = srt l := by
  have p := srt_perm l
  have s : (srt l).Pairwise (· ≤ ·) := (List.pairwise_mergeSort (le := fun a b : Int => decide (a ≤ b)) (fun a b c h1 h2 => decide_eq_true (Int.le_trans (of_decide_eq_true h1) (of_decide_eq_true h2))) (fun a b => by
    by_cases c : a ≤ b
    · rw [decide_eq_true c]; rfl
    · rw [decide_eq_true (show b ≤ a by omega), Bool.or_true]) l).imp fun h => of_decide_eq_true h
  exact lt_uniq h (strict_of (.refl _) (p.nodup_iff.mpr nd) s) fun x => by rw [m, p.mem_iff]
/-- the worlds beyond w, come to by bk -/
def kidsL (nb : Int → List Int) (w : Int) (bk : Option Int) : List Int := (srt (nb w)).filter fun u => decide (some u ≠ bk)
/-- what is met, of which the first a are gone on from -/
structure Met2 (D : Int → Int → Int) (ks : List Int) (nb : Int → List Int) (root : Int) (a : Nat) (f : List (Int × Option Int)) : Prop where
  nd : (f.map (·.1)).Nodup
  sub : ∀ q ∈ f, q.1 ∈ ks
  zero : f[0]? = some (root, none)
  back : ∀ (i : Nat) (w b : Int), f[i]? = some (w, some b) → w ≠ root ∧ b ∈ nb w ∧ Btw D w b root
  none_ : ∀ (i : Nat) (w : Int), f[i]? = some (w, none) → i = 0
  kids : ∀ (i : Nat) (w : Int) (bk : Option Int), i < a → f[i]? = some (w, bk) → ∀ u ∈ nb w, some u ≠ bk → ∃ j, i < j ∧ f[j]? = some (u, some w)
  par : ∀ (j : Nat) (u w : Int), f[j]? = some (u, some w) → ∃ i bk, i < a ∧ i < j ∧ f[i]? = some (w, bk)
theorem Met2.start (hr : root ∈ ks) : Met2 D ks nb root 0 [(root, none)] := by
  refine ⟨by simp, fun q hq => by rw [List.mem_singleton.mp hq]; exact hr, rfl, fun i w b h => ?_, fun i w h => ?_, fun i w bk h => absurd h (by omega), fun j u w h => ?_⟩
  · cases i with
    | zero => simp at h
    | succ i => simp at h
  · cases i with
    | zero => rfl
    | succ i => simp at h
  · cases j with
    | zero => simp at h
    | succ j => simp at h
theorem Met2.len {a : Nat} {f : List (Int × Option Int)} (m : Met2 D ks nb root a f) : f.length ≤ ks.length := by
  have := sub_len m.nd fun x hx => by
    obtain ⟨q, hq, rfl⟩ := List.mem_map.mp hx
    exact m.sub q hq
  rw [List.length_map] at this
  exact this
theorem nodup_at {α : Type} {f : List (Int × α)} (nd : (f.map (·.1)).Nodup) {i j : Nat} {w : Int} {x y : α} (h1 : f[i]? = some (w, x)) (h2 : f[j]? = some (w, y)) : i = j := by
  have a1 : (f.map (·.1))[i]? = some w := by rw [List.getElem?_map, h1]; rfl
  have a2 : (f.map (·.1))[j]? = some w := by rw [List.getElem?_map, h2]; rfl
  exact (List.getElem?_inj (List.getElem?_eq_some_iff.mp a1).1 nd).mp (a1.trans a2.symm)
theorem Met2.go {a : Nat} {f : List (Int × Option Int)} {w : Int} {bk : Option Int} (m : Met2 D ks nb root a f) (z : Tr3 D ever liv ks nb) (hr : root ∈ ks) (h : f[a]? = some (w, bk)) :
    Met2 D ks nb root (a + 1) (f ++ (kidsL nb w bk).map fun u => (u, some w)) := by
  have hwf : (w, bk) ∈ f := List.mem_of_getElem? h
  have hw : w ∈ ks := m.sub _ hwf
  have ha := (List.getElem?_eq_some_iff.mp h).1
  have mk : ∀ {u}, u ∈ kidsL nb w bk ↔ u ∈ nb w ∧ some u ≠ bk := fun {u} => by
    unfold kidsL
    rw [List.mem_filter, (srt_perm _).mem_iff, decide_eq_true_eq]
  have U := fun {u} (h : u ∈ ks) => z.hU u h
  -- beyond w, away from root
  have far : ∀ u ∈ nb w, some u ≠ bk → u ∈ ks ∧ u ≠ root ∧ w ∈ nb u ∧ Btw D u w root := fun u hu nbk => by
    obtain ⟨u1, u2, _⟩ := (z.rp.adj w hw u).mp hu
    have hs := z.rp.sym z.t z.hU hw hu
    have bt : Btw D u w root := by
      refine z.back hr hw hu ?_
      cases bk with
      | none =>
        have := m.none_ a w h
        subst this
        rw [m.zero] at h
        injection h with h
        exact .inl (congrArg Prod.fst h).symm
      | some b =>
        obtain ⟨_, b2, b3⟩ := m.back a w b h
        exact .inr ⟨b, b2, b3, fun e => nbk (by rw [e])⟩
    refine ⟨u1, fun e => ?_, hs, bt⟩
    rw [e] at bt
    have e0 := z.t.self root (U hr)
    have e1 := z.t.pos (U hr) (U hw) (fun e2 => u2 (by rw [e, e2]))
    have e2 := z.t.nn w root (U hw) (U hr)
    unfold Btw at bt
    omega
  have fresh : ∀ u ∈ nb w, some u ≠ bk → u ∉ f.map (·.1) := fun u hu nbk hm => by
    obtain ⟨q, hq, e⟩ := List.mem_map.mp hm
    obtain ⟨j, hj⟩ := List.getElem?_of_mem hq
    obtain ⟨f1, f2, f3, f4⟩ := far u hu nbk
    obtain ⟨x, y⟩ := q
    have e : x = u := e
    subst e
    cases y with
    | none =>
      have := m.none_ j x hj
      subst this
      rw [m.zero] at hj
      injection hj with hj
      exact f2 (congrArg Prod.fst hj).symm
    | some b =>
      obtain ⟨_, b2, b3⟩ := m.back j x b hj
      have e2 := z.one_way hr f1 b2 f3 b3 f4
      subst e2
      obtain ⟨i, bk2, i1, _, i3⟩ := m.par j x b hj
      have := nodup_at m.nd i3 h
      omega
  have old : ∀ {i : Nat} {q : Int × Option Int}, f[i]? = some q → (f ++ (kidsL nb w bk).map fun u => (u, some w))[i]? = some q := fun {i q} h => by
    rw [List.getElem?_append_left (List.getElem?_eq_some_iff.mp h).1]
    exact h
  have cases_ : ∀ {i : Nat} {x : Int} {y : Option Int}, (f ++ (kidsL nb w bk).map fun u => (u, some w))[i]? = some (x, y) → f[i]? = some (x, y) ∨ (f.length ≤ i ∧ x ∈ kidsL nb w bk ∧ y = some w) := fun {i x y} h => by
    by_cases c : i < f.length
    · rw [List.getElem?_append_left c] at h
      exact .inl h
    · rw [List.getElem?_append_right (by omega)] at h
      have hm := List.mem_of_getElem? h
      obtain ⟨u, hu, e⟩ := List.mem_map.mp hm
      injection e with e1 e2
      exact .inr ⟨by omega, by rw [← e1]; exact hu, e2.symm⟩
  refine ⟨?_, fun q hq => ?_, old m.zero, fun i x b hx => ?_, fun i x hx => ?_, fun i x y hi hx u hu nu => ?_, fun j u x hx => ?_⟩
  · rw [List.map_append, List.map_map]
    refine List.nodup_append.mpr ⟨m.nd, ?_, fun x hx y hy e => ?_⟩
    · have e : ((fun q : Int × Option Int => q.1) ∘ fun u => (u, some w)) = id := rfl
      rw [e, List.map_id]
      unfold kidsL
      exact ((srt_perm _).nodup_iff.mpr (z.rp.nd w hw)).sublist List.filter_sublist
    · obtain ⟨u, hu, e2⟩ := List.mem_map.mp hy
      have e2 : u = y := e2
      obtain ⟨h1, h2⟩ := mk.mp hu
      rw [e, ← e2] at hx
      exact fresh u h1 h2 hx
  · rcases List.mem_append.mp hq with h | h
    · exact m.sub q h
    · obtain ⟨u, hu, rfl⟩ := List.mem_map.mp h
      obtain ⟨h1, h2⟩ := mk.mp hu
      exact (far u h1 h2).1
  · rcases cases_ hx with h1 | ⟨_, h1, h2⟩
    · exact m.back i x b h1
    · obtain ⟨g1, g2⟩ := mk.mp h1
      obtain ⟨f1, f2, f3, f4⟩ := far x g1 g2
      injection h2 with h2
      rw [h2]
      exact ⟨f2, f3, f4⟩
  · rcases cases_ hx with h1 | ⟨_, _, h2⟩
    · exact m.none_ i x h1
    · cases h2
  · have hx' : f[i]? = some (x, y) := by
      rcases cases_ hx with h1 | ⟨h1, _, _⟩
      · exact h1
      · omega
    by_cases c : i < a
    · obtain ⟨j, j1, j2⟩ := m.kids i x y c hx' u hu nu
      exact ⟨j, j1, old j2⟩
    · have e : i = a := by omega
      subst e
      rw [h] at hx'
      injection hx' with hx'
      injection hx' with e1 e2
      subst e1 e2
      obtain ⟨k, hk⟩ := List.getElem?_of_mem (mk.mpr ⟨hu, nu⟩)
      refine ⟨f.length + k, by omega, ?_⟩
      rw [List.getElem?_append_right (by omega), Nat.add_sub_cancel_left, List.getElem?_map, hk]
      rfl
  · rcases cases_ hx with h1 | ⟨h1, _, h2⟩
    · obtain ⟨i, bk2, i1, i2, i3⟩ := m.par j u x h1
      exact ⟨i, bk2, by omega, i2, old i3⟩
    · injection h2 with h2
      subst h2
      exact ⟨a, bk, by omega, by omega, old h⟩
/-- all are met -/
theorem Met2.all {f : List (Int × Option Int)} (m : Met2 D ks nb root f.length f) (z : Tr3 D ever liv ks nb) (hr : root ∈ ks) : ∀ x ∈ ks, x ∈ f.map (·.1) := by
  have U := fun {u} (h : u ∈ ks) => z.hU u h
  have key : ∀ n : Nat, ∀ x ∈ ks, D x root ≤ n → x ∈ f.map (·.1) := by
    intro n
    induction n with
    | zero =>
      intro x hx h
      have e := z.t.eq x root (U hx) (U hr) (by have := z.t.nn x root (U hx) (U hr); omega)
      rw [e]
      exact List.mem_map.mpr ⟨_, List.mem_of_getElem? m.zero, rfl⟩
    | succ n ih =>
      intro x hx h
      by_cases c : x = root
      · rw [c]
        exact List.mem_map.mpr ⟨_, List.mem_of_getElem? m.zero, rfl⟩
      · obtain ⟨y, hy, bt⟩ := z.rp.toward z.t z.hU hx hr c
        obtain ⟨y1, y2, _⟩ := (z.rp.adj x hx y).mp hy
        have p := z.t.pos (U hx) (U y1) (Ne.symm y2)
        have bt0 := bt
        unfold Btw at bt
        have my := ih y y1 (by omega)
        obtain ⟨q, hq, e⟩ := List.mem_map.mp my
        obtain ⟨i, hi⟩ := List.getElem?_of_mem hq
        obtain ⟨v, bk⟩ := q
        have e : v = y := e
        subst e
        have nbk : some x ≠ bk := fun e => by
          subst e
          obtain ⟨_, _, b3⟩ := m.back i v x hi
          unfold Btw at b3
          have s := z.t.sym x v (U hx) (U y1)
          omega
        obtain ⟨j, _, hj⟩ := m.kids i v bk (List.getElem?_eq_some_iff.mp hi).1 hi x (z.rp.sym z.t z.hU hx hy) nbk
        exact List.mem_map.mpr ⟨_, List.mem_of_getElem? hj, rfl⟩
  intro x hx
  have := z.t.nn x root (U hx) (U hr)
  exact key (D x root).toNat x hx (by omega)
end

/-! ### all worlds from one on, walked -/
def oV : Option Int → V
  | none => .non
  | some b => .int b
def OpAt (H : Hp) : List V → List (Int × Option Int) → Prop
  | [], [] => True
  | x :: xs, q :: ps => (∃ t, x = .ref t ∧ H t = some (.tup [.int q.1, oV q.2])) ∧ OpAt H xs ps
  | _, _ => False
theorem OpAt.len {H : Hp} : ∀ {xs : List V} {ps : List (Int × Option Int)}, OpAt H xs ps → xs.length = ps.length
  | [], [], _ => rfl
  | _ :: _, _ :: _, h => by rw [List.length_cons, List.length_cons, OpAt.len h.2]
  | [], _ :: _, h => h.elim
  | _ :: _, [], h => h.elim
theorem OpAt.kp {H H' : Hp} {ws : List Addr} (k : Kp ws H H') : ∀ {xs : List V} {ps : List (Int × Option Int)}, OpAt H xs ps → OpAt H' xs ps
  | [], [], _ => trivial
  | _ :: _, _ :: _, ⟨⟨t, e, h⟩, r⟩ => ⟨⟨t, e, k.fix _ _ h trivial⟩, OpAt.kp k r⟩
  | [], _ :: _, h => h.elim
  | _ :: _, [], h => h.elim
theorem OpAt.snoc {H : Hp} {t : Addr} {q : Int × Option Int} (e : H t = some (.tup [.int q.1, oV q.2])) : ∀ {xs : List V} {ps : List (Int × Option Int)}, OpAt H xs ps → OpAt H (xs ++ [.ref t]) (ps ++ [q])
  | [], [], _ => ⟨⟨t, rfl, e⟩, trivial⟩
  | _ :: _, _ :: _, ⟨a, r⟩ => ⟨a, OpAt.snoc e r⟩
  | [], _ :: _, h => h.elim
  | _ :: _, [], h => h.elim
theorem OpAt.app {H : Hp} {ys : List V} {qs : List (Int × Option Int)} (hy : OpAt H ys qs) : ∀ {xs : List V} {ps : List (Int × Option Int)}, OpAt H xs ps → OpAt H (xs ++ ys) (ps ++ qs)
  | [], [], _ => hy
  | _ :: _, _ :: _, ⟨a, r⟩ => ⟨a, OpAt.app hy r⟩
  | [], _ :: _, h => h.elim
  | _ :: _, [], h => h.elim
theorem OpAt.get {H : Hp} : ∀ {xs : List V} {ps : List (Int × Option Int)} {i : Nat} {q : Int × Option Int}, OpAt H xs ps → ps[i]? = some q → ∃ t, xs[i]? = some (.ref t) ∧ H t = some (.tup [.int q.1, oV q.2])
  | _ :: _, _ :: _, 0, q, ⟨⟨t, e, h⟩, _⟩, ev => by
    rw [List.getElem?_cons_zero] at ev
    injection ev with ev
    subst ev
    exact ⟨t, by rw [List.getElem?_cons_zero, e], h⟩
  | _ :: xs, _ :: ps, i + 1, q, ⟨_, r⟩, ev => by
    rw [List.getElem?_cons_succ] at ev ⊢
    exact OpAt.get r ev
  | [], [], _, _, _, ev => by simp at ev
  | [], _ :: _, _, _, h, _ => h.elim
  | _ :: _, [], _, _, h, _ => h.elim
theorem i_neO {K : PySem.W.Frag} {H : Hp} {Q : VK} {n : Int} {o : Option Int} (h : Q (.bl (decide (some n ≠ o))) H) : uNe K (.int n) (oV o) H Q := by
  cases o with
  | some b =>
    refine i_neI ?_
    have e : (!decide (n = b)) = decide (some n ≠ some b) := by
      by_cases c : n = b
      · rw [c]
        simp
      · simp [c]
    rw [e]
    exact h
  | none =>
    refine .inl ⟨rfl, ?_⟩
    have e : decide (V.int n = V.non) = false := by
      rw [decide_eq_false_iff_not]
      intro z
      cases z
    show Q (.bl (!decide (V.int n = V.non))) H
    rw [e]
    have e2 : decide (some n ≠ (none : Option Int)) = true := decide_eq_true fun z => by cases z
    rw [e2] at h
    exact h
def sp_walked_from (K : PySem.W.Frag) (C : Addr) : Sp := fun vs H Q _ => ∃ (D : Int → Int → Int) (t : Addr) (ps : List Addr) (ever : Int) (liv ks : List Int) (nb : Int → List Int) (root : Int), vs = [.ref t, .int root] ∧ TiesAt C H t ps ever liv ks nb ∧ Tr3 D ever liv ks nb ∧ ever ≤ 200 ∧ root ∈ ks ∧
  ∀ R xs (f : List (Int × Option Int)) H', Fr H R → Kp [] H H' → H' R = some (.lst xs) → OpAt H' xs f → Met2 D ks nb root f.length f → Q (.ref R) H'
theorem sc_walked_from : FnScope ["ties", "root", "found", "at", "world", "back", "other"] ["ties", "root"] (defScope s_walked_from) :=
  ⟨rfl, rfl, rfl, by decide +kernel, rfl, by decide +kernel, by decide +kernel⟩
theorem ok_walked_from {P : Program} {w : World} {K : PySem.W.Frag} {mg : Str → Option Value} {base : Heap} (T : Txt K mg) :
    FnG P w K mg base 4 T.a_walked_from T.d_walked_from ["ties", "root"] (sp_walked_from K T.c_Ties) := by
  refine okD T.F_walked_from sc_walked_from (fun vs H Q E h => ?_) (fun cdv A outer s H vs Q E hr h => ?_)
  · first
      | (obtain ⟨_, rfl, _⟩ := h; rfl)
      | (obtain ⟨_, _, rfl, _⟩ := h; rfl)
      | (obtain ⟨_, _, _, rfl, _⟩ := h; rfl)
      | (obtain ⟨_, _, _, _, rfl, _⟩ := h; rfl)
      | (obtain ⟨_, _, _, _, _, rfl, _⟩ := h; rfl)
      | (obtain ⟨_, _, _, _, _, _, rfl, _⟩ := h; rfl)
      | (obtain ⟨_, _, _, _, _, _, _, rfl, _⟩ := h; rfl)
      | (obtain ⟨_, _, _, _, _, _, _, _, rfl, _⟩ := h; rfl)
      | (obtain ⟨_, _, _, _, _, _, _, _, _, rfl, _⟩ := h; rfl)
      | (obtain ⟨_, _, _, _, _, _, _, _, _, _, rfl, _⟩ := h; rfl)
      | (obtain ⟨_, _, _, _, _, _, _, _, _, _, _, rfl, _⟩ := h; rfl)
      | (obtain ⟨_, _, _, _, _, _, _, _, _, _, _, _, rfl, _⟩ := h; rfl)
      | (obtain ⟨_, _, _, _, _, _, _, _, _, _, _, _, _, rfl, _⟩ := h; rfl)
      | (obtain ⟨_, _, _, _, _, _, _, _, _, _, _, _, _, _, rfl, _⟩ := h; rfl)
      | (obtain ⟨_, _, _, _, _, _, _, _, _, _, _, _, _, _, _, rfl, _⟩ := h; rfl)
      | (obtain ⟨_, _, _, _, _, _, _, _, _, _, _, _, _, _, _, _, rfl, _⟩ := h; rfl)
      | (obtain ⟨_, _, _, _, _, _, _, _, _, _, _, _, _, _, _, _, _, rfl, _⟩ := h; rfl)
      | (obtain ⟨_, _, _, _, _, _, _, _, _, _, _, _, _, _, _, _, _, _, rfl, _⟩ := h; rfl)
      | (obtain ⟨_, _, _, _, _, _, _, _, _, _, _, _, _, _, _, _, _, _, _, rfl, _⟩ := h; rfl)
  · obtain ⟨D, t, ps, ever, liv, ks, nb, root, rfl, x0, z, he, hrt, k⟩ := h
    have klen := z.klen
    obtain ⟨dx0, lv0, nd0, ht⟩ := x0.ins
    have cl_Ties := T.cl_Ties
    have na_Ties_near := T.na_Ties_near
    have na_Ties_own_ever := T.na_Ties_own_ever
    have na_Ties_own_living := T.na_Ties_own_living
    refine ⟨_, (pss_cons (ps_set (i := 2) sc_walked_from.nd rfl (Or.inl rfl) (pe_lst (pa_cons (pe_tup (pa_cons (pv 1) (pa_cons pe_non pa_nil))) pa_nil)))
      (pss_cons (ps_set (i := 3) sc_walked_from.nd rfl (Or.inl rfl) pe_int)
      (pss_cons (ps_while (passes_of rfl) (pt_cmpR op_lt (pv 3) (pe_callB (k_len (K := K) rfl) (by rfl) T.n_len (by decide +kernel) (pa_cons (pv 2) pa_nil)) (nomark _)) (pss_cons (ps_asg (pe_ix (k_ix (K := K) rfl) (pv 2) (pv 3) (fun _ _ => rfl)) (k_gtup (K := K) 2 rfl rfl (pgs_cons (pg_name (i := 4) sc_walked_from.nd rfl (Or.inr rfl)) (pgs_cons (pg_name (i := 5) sc_walked_from.nd rfl (Or.inr rfl)) pgs_nil))))
      (pss_cons (ps_expr (pe_bm PySem.F.plainAttrs_list PySem.F.slot_list_extend PySem.F.type_list_extend mt_extend (pv 2) (pa_cons (pe_lc (own := [("other", 6)]) (g := (gName 6)) rfl sc_walked_from.nd (k_plist (K := K) rfl (dm T.cl_Ties T.me_Ties_tied (ok_Ties_tied T) (hr.mono (by decide)) T.b_Ties_tied passL (pv 0) (pa_cons (pv 4) pa_nil))) (blkOk_by (own := [("other", 6)]) (N := ["ties", "root", "found", "at", "world", "back", "other"]) (sc := defScope s_walked_from) (by decide +kernel)) (fun _ _ _ _ _ => (pg_name (i := 6) sc_walked_from.nd rfl (Or.inl rfl))) (fun _ _ _ _ _ => (pts_one (pt_cmpR (k_ne (K := K) rfl hr.r.units) (pv 6) (pv 5) (nomark _)))) (fun _ _ _ _ _ => (pe_tup (pa_cons (pv 6) (pa_cons (pv 4) pa_nil))))) pa_nil)))
      (pss_one (ps_aug (i := 3) sc_walked_from.nd rfl (Or.inl rfl) pe_int ip_add)))))
      (pss_one (ps_ret (pv 2)))))), ?_⟩
    dsimp only [cxOf, st_1, st_2, st_3, st_4, st_5, st_6, List.length_cons, List.length_nil, List.replicate_succ, List.replicate_zero, Nat.reduceAdd, Nat.reduceSub]
    walk_at "gs"
    refine i_new fun T0 fT => ?_
    walk_at "gs"
    refine i_new fun F fF => ?_
    walk_at "gs"
    have kT := Kp.new (ws := []) (o := HO.tup [.int root, .non]) fT
    have kF := Kp.new (ws := []) (o := HO.lst [.ref T0]) fF
    have hT := fresh_at (o := HO.tup [.int root, .non]) fT
    have fF0 : Fr H F := kT.free fF
    refine i_while (fun m σ H' => ∃ (a : Nat) (o4 o5 o6 : Option V) (f : List (Int × Option Int)) (xs : List V), m = ks.length - a ∧ σ = [some (.ref t), some (.int root), some (.ref F), some (.int (a : Int)), o4, o5, o6] ∧ Kp [] H H' ∧ H' F = some (.lst xs) ∧ OpAt H' xs f ∧ Met2 D ks nb root a f ∧ a ≤ f.length) ks.length ?_ ?_
    · exact ⟨0, _, _, _, [(root, none)], [.ref T0], rfl, rfl, Kp.trans kT kF, upd_same, ⟨⟨T0, rfl, kF.fix _ _ hT trivial⟩, trivial⟩, Met2.start hrt, Nat.zero_le _⟩
    rintro m σ H2 ⟨a, o4, o5, o6, f, xs, rfl, rfl, k2, hF2, op, met, al⟩
    have ml := met.len
    have ol := op.len
    have ht2 := k2.at_ _ _ ht not_nil
    walk_at "gs"
    refine i_dec (fun c => ?_) (fun c => ?_)
    · refine i_loop ?_
      have ca : a < f.length := by omega
      obtain ⟨w, bk, hq⟩ : ∃ w bk, f[a]? = some (w, bk) := ⟨_, _, List.getElem?_eq_getElem ca⟩
      obtain ⟨T1, hx, hT1⟩ := op.get hq
      have hw : w ∈ ks := met.sub _ (List.mem_of_getElem? hq)
      have hst : SqT K H2 T1 [.int w, oV bk] := SqT.of hT1
      walk_at "gs"
      refine i_ixL (SqL.of hF2) (atI_nat hx) ?_
      walk_at "gs"
      refine ⟨D, t, ps, ever, liv, ks, nb, w, rfl, x0.kp0 k2, z, he, hw, fun R fs H3 fR k3 hR pw mem => ?_⟩
      have efs : fs = srt (nb w) := srt_eq pw mem (z.rp.nd w hw)
      subst efs
      have lfs : (srt (nb w)).length ≤ ever.toNat := by
        rw [(srt_perm (nb w)).length_eq]
        exact z.nlen hw
      refine i_elts (SqL.of hR) (fun G i H' => Kp [] H3 H' ∧ ∃ ys, H' G = some (.lst ys) ∧ OpAt H' ys ((((srt (nb w)).take i).filter fun u => decide (some u ≠ bk)).map fun u => (u, some w))) ?_ ?_ ?_ ?_
      · intro G fG
        exact ⟨Kp.new fG, [], upd_same, trivial⟩
      · rintro G i H' fG _ ⟨kk, _⟩
        exact kk.seqL not_nil (SqL.of hR)
      · rintro G i y H' fG hy ⟨kk, ys, hG, oy⟩
        obtain ⟨u, hu, e⟩ := map_get hy
        subst e
        have hil := (List.getElem?_eq_some_iff.mp hu).1
        have step := filter_step (f := fun u : Int => decide (some u ≠ bk)) hu
        have ly := oy.len
        have l1 := List.length_filter_le (fun u : Int => decide (some u ≠ bk)) ((srt (nb w)).take i)
        have l2 : ((srt (nb w)).take i).length ≤ (srt (nb w)).length := by rw [List.length_take]; omega
        rw [List.length_map] at ly
        walk_at "gs"
        refine i_neO ?_
        walk_at "gs"
        refine i_dec (fun c1 => ?_) (fun c1 => ?_)
        · walk_at "gs"
          refine i_new fun U fU => ?_
          have kU := Kp.new (ws := []) (o := HO.tup [.int u, .int w]) fU
          have hU := fresh_at (o := HO.tup [.int u, .int w]) fU
          have hG2 := kU.at_ _ _ hG not_nil
          refine ⟨_, hG2, small_sz (by omega), Kp.upd (Kp.trans kk kU) fG, _, upd_same, ?_⟩
          rw [step, if_pos (decide_eq_true c1), List.map_append]
          exact OpAt.snoc (q := (u, some w)) (by rw [upd_ne (fr_ne hG fU).symm]; exact hU) (OpAt.kp (Kp.mut (ws := [G]) hG2 (fun z => z) (List.mem_singleton.mpr rfl)) (oy.kp kU))
        · refine ⟨kk, ys, hG, ?_⟩
          rw [step, if_neg (by simpa using c1), List.append_nil]
          exact oy
      rintro G H4 fG ⟨k4, ys, hG, oy⟩
      rw [List.length_map, List.take_length] at oy
      have k24 := Kp.trans k3 k4
      have hF4 := k24.at_ _ _ hF2 not_nil
      have lys := oy.len
      have lks : (kidsL nb w bk).length ≤ (srt (nb w)).length := List.length_filter_le _ _
      rw [List.length_map] at lys
      have lys2 : ys.length = (kidsL nb w bk).length := lys
      walk_at "gs"
      refine i_extend hF4 hG (by omega) ?_
      have met2 := met.go z hrt hq
      have e1 : ((a : Int) + 1) = ((a + 1 : Nat) : Int) := by omega
      walk_at "gs"
      rw [e1]
      have nGF : G ≠ F := fun e => by
        rw [e] at fG
        exact absurd (Kp.at_ k3 _ _ hF2 not_nil) (by rw [fG.e]; intro z; cases z)
      have ml2 := met2.len
      refine ⟨_, ?_, a + 1, _, _, _, _, _, rfl, rfl, Kp.upd (Kp.trans k2 k24) fF0, upd_same, ?_, met2, by rw [List.length_append]; omega⟩
      · omega
      · have kM : Kp [F] H4 (upd H4 F (.lst (xs ++ ys))) := Kp.mut hF4 (fun z => z) (List.mem_singleton.mpr rfl)
        exact OpAt.app (oy.kp kM) ((op.kp k24).kp kM)
    · have e : a = f.length := by omega
      subst e
      walk_at "gs"
      exact k F xs f H2 fF0 k2 hF2 op met

/-! ### name = a dict comprehension, on one line -/
section
open PySem.Calls PyProof.Rows PySem.Spec PyProof
variable {X : Cx}
theorem ps_setDc {i : Nat} {nm : PySem.Str} {pn : Pos} {keyE valE tg iter : Expr} {ifs : List Expr} {scope : Scope} {own : List (PySem.Str × Nat)} {pos spos : Pos} {wi : TI} {g : TG} {tt : TT} {tk tv : TE} (calm : X.calm = true) (nodup : X.N.Nodup) (at_ : X.N[i]? = some nm) (loc : X.env.scope.names.lookup nm = some .local)
    (swaps : swapsWith (.DictComp keyE valE [⟨tg, iter, ifs, 0⟩] scope pos) (some (.Name nm pn)) spos.line X.env = pure true) (walked : PI X tg iter wi) (blk : BlkOk X.N X.env.scope scope own)
    (pg : ∀ (t : Shared) (G : Hp) (C : Addr) (cells : List (PySem.Str × Addr)) (ps : List Addr), PG (X.blk t G scope (compEnvC scope cells C X.env) ps) tg g) (pt : ∀ (t : Shared) (G : Hp) (C : Addr) (cells : List (PySem.Str × Addr)) (ps : List Addr), PTs (X.blk t G scope (compEnvC scope cells C X.env) ps) ifs tt)
    (pk : ∀ (t : Shared) (G : Hp) (C : Addr) (cells : List (PySem.Str × Addr)) (ps : List Addr), PE (X.blk t G scope (compEnvC scope cells C X.env) ps) keyE tk)
    (pv : ∀ (t : Shared) (G : Hp) (C : Addr) (cells : List (PySem.Str × Addr)) (ps : List Addr), PE (X.blk t G scope (compEnvC scope cells C X.env) ps) valE tv) (unfolded : ∀ x, foldedSetIterable iter X.env x = pure x := by intro _; rfl) :
    PS X (.Assign [.Name nm pn] (.DictComp keyE valE [⟨tg, iter, ifs, 0⟩] scope pos) spos) (tAsg (tDc wi g tt tk tv (own.map (·.2))) (gName i)) := by
  refine ⟨fun pins s σ H D I q0 => ?_⟩
  rw [exec_Assign_Name_used _ _ _ _ swaps]
  refine wpAny_bind (wpAny_standAt (wpAny_bind ?_))
  show wpAny _ X.A (do let _ ← comprehension (.DictComp keyE valE [⟨tg, iter, ifs, 0⟩] scope pos) scope X.env (firstIterPos [⟨tg, iter, ifs, 0⟩] pos) newDict false (eval iter X.env) (some (assign (.Name nm pn) X.env))) _ _ s
  have q1 : tDc wi g tt tk tv (own.map (·.2)) σ H (fun x H1 => gName i x σ H1 D.nx) := q0
  refine wpAny_bind (thn (dc_core (Qf := fun _ t => SP X pins D .next t) calm nodup I walked blk pg pt pk pv unfolded q1 fun L C t m G Iw q2 named fp => ?_) fun _ t q3 => wpAny_pure (wpAny_pure q3))
  show wpAny _ _ (assign (.Name nm pn) X.env (.ref L)) _ _ _
  refine wpAny_assign_Name (store_ok2 (v := V.ref L) Iw nodup at_ (.inl loc) rfl (fun t2 I2 ⟨a, same, wh⟩ => ?_) (.inr loc))
  obtain ⟨f0, f1, f2, f3, f4, f5⟩ := fp
  have apart : C ≠ a := wh.elim (fun z => by rw [z]; exact f1) fun z e => f4 nm a z e.symm
  exact ⟨m, named.sameBut same apart, fun h3 sb3 => ⟨_, G, I2.turned (t' := t2.toks) (fun b o hb e => (sb3.2 b hb).trans e) f0 f1 f3 f4 f5, q2⟩⟩
theorem sw_trueD {keyE valE : Expr} {gs : List Comprehension} {scope : Scope} {pos pn : Pos} {nm : PySem.Str} {l : Nat} {env : Env} (fn : env.scope.kind = .function) (loc : env.scope.names.lookup nm = some .local) (line : (pn.line == pos.line) = true)
    (other : (scope.names.any fun (n, k) => n == nm && (k == .local || k == .cell)) = false) : swapsWith (.DictComp keyE valE gs scope pos) (some (.Name nm pn)) l env = pure true := by
  have kind : env.kindOf nm = some .local := loc
  have block : env.blockKind = .function := by
    unfold Env.blockKind
    rw [fn]
    rfl
  unfold swapsWith
  simp only [block, kind, other, Expr.pos, line]
  rfl
end

/-! ### the numbers of a world, by all that hangs beneath it -/
def tl (prs : List (Int × Int)) (w : Int) : Option Int := if w ∈ prs.map (·.1) then some (look prs w) else none
theorem i_disp1t {tk tv : TE} {σ : L2.St} {H : Hp} {Q : VK} (q : ∀ p, Fr H p → tk σ (upd H p (.dK [])) fun k H1 => tv σ H1 fun v H2 => DispK p Q k v H2) : tDisp [(tk, tv)] σ H Q := fun p hp => q p ⟨hp⟩
theorem val_in_kN {w : Int} {prs : List (Int × Int)} : (valV (prs.map kN) (.inl w)).isSome = decide (w ∈ prs.map (·.1)) := by
  by_cases c : w ∈ prs.map (·.1)
  · rw [(look_mem c).2, decide_eq_true c]
    rfl
  · rw [valN_none c, decide_eq_false c]
    rfl
def NumsOf (prs : List (Int × Int)) (nums : List Int) : Prop := nums.Pairwise (· < ·) ∧ ∀ n, n ∈ nums ↔ n ∈ prs.map (·.2)
theorem NumsOf.len {prs : List (Int × Int)} {nums : List Int} (h : NumsOf prs nums) : nums.length ≤ prs.length := by
  have := sub_len (h.1.imp fun {a b} lt e => by omega) fun x hx => (h.2 x).mp hx
  rw [List.length_map] at this
  exact this
theorem NumsOf.nd {prs : List (Int × Int)} {nums : List Int} (h : NumsOf prs nums) : nums.Nodup := h.1.imp fun {a b} lt e => by omega
theorem NumsOf.ne {prs : List (Int × Int)} {nums : List Int} (h : NumsOf prs nums) (n : prs ≠ []) : nums ≠ [] := fun e => by
  cases prs with
  | nil => exact n rfl
  | cons p l =>
    have := (h.2 p.2).mpr List.mem_cons_self
    rw [e] at this
    cases this
theorem put_len1 (c : List (Key × V)) (k : Key) (x : V) : (putK c k x).length ≤ c.length + 1 := by
  unfold putK
  split
  · rw [List.length_map]
    omega
  · rw [List.length_append]
    exact Nat.le_refl _
/-- what is found so far: of each world behind place j its numbers -/
def FndAt (H : Hp) (F : Addr) (fk : List (Key × V)) (nb : Int → List Int) (told : Int → Option Int) (nums : List Int) (f : List (Int × Option Int)) (i : Nat) : Prop :=
  ∀ (j : Nat) (w : Int) (bk : Option Int), f[j]? = some (w, bk) → f.length ≤ j + i → ∃ (a : Addr) (kvs : List (Key × V)) (G : Fo), valV fk (.inl w) = some (.ref a) ∧ a ≠ F ∧ H a = some (.dK kvs) ∧ G.Is nb w bk ∧ WysAt H kvs (G.at_ told nums w)
def sp_ways_at (K : PySem.W.Frag) (C : Addr) : Sp := fun vs H Q _ => ∃ (D : Int → Int → Int) (t d : Addr) (ps : List Addr) (ever : Int) (liv ks : List Int) (nb : Int → List Int) (root : Int) (prs : List (Int × Int)), vs = [.ref t, .ref d, .int root] ∧ TiesAt C H t ps ever liv ks nb ∧ Tr3 D ever liv ks nb ∧ ever ≤ 200 ∧ root ∈ ks ∧
  H d = some (.dK (prs.map kN)) ∧ (prs.map (·.1)).Nodup ∧ prs ≠ [] ∧ prs.length < 64 ∧
  ∀ R kvs nums (G : Fo) H', NumsOf prs nums → G.Is nb root none → Kp [] H H' → H' R = some (.dK kvs) → WysAt H' kvs (G.at_ (tl prs) nums root) → Q (.ref R) H'
theorem sc_ways_at : FnScope ["ties", "told", "root", "numbers", "found", "world", "back", "ways", "other", "number"] ["ties", "told", "root"] (defScope s_ways_at) :=
  ⟨rfl, rfl, rfl, by decide +kernel, rfl, by decide +kernel, by decide +kernel⟩
theorem ok_ways_at {P : Program} {w : World} {K : PySem.W.Frag} {mg : Str → Option Value} {base : Heap} (T : Txt K mg) :
    FnG P w K mg base 5 T.a_ways_at T.d_ways_at ["ties", "told", "root"] (sp_ways_at K T.c_Ties) := by
  refine okD T.F_ways_at sc_ways_at (fun vs H Q E h => ?_) (fun cdv A outer s H vs Q E hr h => ?_)
  · first
      | (obtain ⟨_, rfl, _⟩ := h; rfl)
      | (obtain ⟨_, _, rfl, _⟩ := h; rfl)
      | (obtain ⟨_, _, _, rfl, _⟩ := h; rfl)
      | (obtain ⟨_, _, _, _, rfl, _⟩ := h; rfl)
      | (obtain ⟨_, _, _, _, _, rfl, _⟩ := h; rfl)
      | (obtain ⟨_, _, _, _, _, _, rfl, _⟩ := h; rfl)
      | (obtain ⟨_, _, _, _, _, _, _, rfl, _⟩ := h; rfl)
      | (obtain ⟨_, _, _, _, _, _, _, _, rfl, _⟩ := h; rfl)
      | (obtain ⟨_, _, _, _, _, _, _, _, _, rfl, _⟩ := h; rfl)
      | (obtain ⟨_, _, _, _, _, _, _, _, _, _, rfl, _⟩ := h; rfl)
      | (obtain ⟨_, _, _, _, _, _, _, _, _, _, _, rfl, _⟩ := h; rfl)
      | (obtain ⟨_, _, _, _, _, _, _, _, _, _, _, _, rfl, _⟩ := h; rfl)
      | (obtain ⟨_, _, _, _, _, _, _, _, _, _, _, _, _, rfl, _⟩ := h; rfl)
      | (obtain ⟨_, _, _, _, _, _, _, _, _, _, _, _, _, _, rfl, _⟩ := h; rfl)
      | (obtain ⟨_, _, _, _, _, _, _, _, _, _, _, _, _, _, _, rfl, _⟩ := h; rfl)
      | (obtain ⟨_, _, _, _, _, _, _, _, _, _, _, _, _, _, _, _, rfl, _⟩ := h; rfl)
      | (obtain ⟨_, _, _, _, _, _, _, _, _, _, _, _, _, _, _, _, _, rfl, _⟩ := h; rfl)
      | (obtain ⟨_, _, _, _, _, _, _, _, _, _, _, _, _, _, _, _, _, _, rfl, _⟩ := h; rfl)
      | (obtain ⟨_, _, _, _, _, _, _, _, _, _, _, _, _, _, _, _, _, _, _, rfl, _⟩ := h; rfl)
  · obtain ⟨D, t, d, ps, ever, liv, ks, nb, root, prs, rfl, x0, z, he, hrt, hd, ndp, nep, lpr, k⟩ := h
    have klen := z.klen
    obtain ⟨dx0, lv0, nd0, ht⟩ := x0.ins
    have cl_Ties := T.cl_Ties
    have na_Ties_near := T.na_Ties_near
    have na_Ties_own_ever := T.na_Ties_own_ever
    have na_Ties_own_living := T.na_Ties_own_living
    refine ⟨_, (pss_cons (ps_set (i := 3) sc_ways_at.nd rfl (Or.inl rfl) (pe_callB (k_sortedSet (w := w) rfl rfl) (by rfl) T.n_sorted (by decide +kernel) (pa_cons (pe_lock (k_scI (w := w) rfl (own := [("number", 9)]) (g := (gName 9)) (tt := tYes) rfl sc_ways_at.nd (pi_values (pv 1)) (blkOk_by (own := [("number", 9)]) (N := ["ties", "told", "root", "numbers", "found", "world", "back", "ways", "other", "number"]) (sc := defScope s_ways_at) (by decide +kernel)) (fun _ _ _ _ _ => (pg_name (i := 9) sc_ways_at.nd rfl (Or.inl rfl))) (fun _ _ _ _ _ => pts_nil) (fun _ _ _ _ _ => (pv 9)))) pa_nil)))
      (pss_cons (ps_set (i := 4) sc_ways_at.nd rfl (Or.inl rfl) pe_dnewK)
      (pss_cons (ps_for (passes_of rfl) rfl (k_plist (K := K) rfl (k_rev (K := K) rfl (d1 (ok_walked_from T) (hr.mono (by decide)) (by rfl) T.m_walked_from T.F_walked_from.kp T.b_walked_from passL (pa_cons (pv 0) (pa_cons (pv 2) pa_nil))))) (k_gtup (K := K) 2 rfl rfl (pgs_cons (pg_name (i := 5) sc_ways_at.nd rfl (Or.inl rfl)) (pgs_cons (pg_name (i := 6) sc_ways_at.nd rfl (Or.inl rfl)) pgs_nil)))
      (pss_cons (ps_setDc (i := 7) (own := [("number", 9)]) (g := (gName 9)) (tt := tYes) rfl sc_ways_at.nd rfl rfl (sw_trueD rfl rfl rfl (by decide +kernel)) (k_plist (K := K) rfl (pv 3)) (blkOk_by (own := [("number", 9)]) (N := ["ties", "told", "root", "numbers", "found", "world", "back", "ways", "other", "number"]) (sc := defScope s_ways_at) (by decide +kernel)) (fun _ _ _ _ _ => (pg_name (i := 9) sc_ways_at.nd rfl (Or.inl rfl))) (fun _ _ _ _ _ => pts_nil) (fun _ _ _ _ _ => (pv 9)) (fun _ _ _ _ _ => (pe_tup (pa_cons pe_int (pa_cons pe_int pa_nil)))))
      (pss_cons (ps_if (pt_cmp (pc_din (u1 hr.r.units) (pv 5) (pv 1))) (pss_one (ps_set (i := 7) sc_ways_at.nd rfl (Or.inl rfl) (pe_disp (pps_cons (pe_dget (u1 hr.r.units) (pv 1) (pv 5) (fun _ _ => rfl)) (pe_tup (pa_cons pe_int (pa_cons pe_int pa_nil))) pps_nil) (by rfl) (by rfl) (fun z => by cases z) (by decide)))) pss_nil)
      (pss_cons (ps_for (passes_of rfl) rfl (k_plist (K := K) rfl (dm T.cl_Ties T.me_Ties_tied (ok_Ties_tied T) (hr.mono (by decide)) T.b_Ties_tied passL (pv 0) (pa_cons (pv 5) pa_nil))) (pg_name (i := 8) sc_ways_at.nd rfl (Or.inl rfl))
      (pss_one (ps_if (pt_cmpR (k_ne (K := K) rfl hr.r.units) (pv 8) (pv 6) (nomark _)) (pss_one (ps_set (i := 7) sc_ways_at.nd rfl (Or.inl rfl) (d1 (ok_tied_on T) (hr.mono (by decide)) (by rfl) T.m_tied_on T.F_tied_on.kp T.b_tied_on passL (pa_cons (pv 7) (pa_cons (pe_dget (u1 hr.r.units) (pv 4) (pv 8) (fun _ _ => rfl)) pa_nil))))) pss_nil)))
      (pss_one (ps_asg (pv 7) (pg_sub (pv 4) (pv 5) (set_dict (u1 hr.r.units)))))))))
      (pss_one (ps_ret (pe_dget (u1 hr.r.units) (pv 4) (pv 2) (fun _ _ => rfl))))))), ?_⟩
    dsimp only [cxOf, st_1, st_2, st_3, st_4, st_5, st_6, List.length_cons, List.length_nil, List.replicate_succ, List.replicate_zero, Nat.reduceAdd, Nat.reduceSub]
    walk_at "gs"
    refine i_lockE hd fun od => ?_
    refine i_scV ?_
    walk_at "gs"
    refine i_valS upd_same (fun R i H' => Kp [] (upd H d (.frz od (.dK (prs.map kN)))) H' ∧ ∃ c, H' R = some (L2.SetO w R (fun j => decide (j ∈ (prs.take i).map (·.2))) c) ∧ c ≤ i) ?_ ?_ ?_ ?_
    · intro R fR
      refine ⟨Kp.new fR, 0, ?_, Nat.le_refl _⟩
      have e : (fun j : Int => decide (j ∈ (prs.take 0).map (·.2))) = fun _ => false := by
        funext j
        simp
      rw [e]
      exact upd_same
    · rintro R i H' fR ⟨kk, _⟩
      exact kk.at_ _ _ upd_same not_nil
    · rintro R i ky v H' fR hy ⟨kk, c, hR, lc⟩
      obtain ⟨q, hq, e⟩ := map_get hy
      have hil := (List.getElem?_eq_some_iff.mp hq).1
      unfold kN at e
      injection e with e1 e2
      subst e1 e2
      walk_at "gs"
      refine ⟨q.2, _, c, rfl, hR, by unfold scanBound; omega, Kp.upd kk fR, (if decide (q.2 ∈ (prs.take i).map (·.2)) = true then c else c + 1), ?_, ?_⟩
      · have e : (fun j : Int => decide (j ∈ (prs.take (i + 1)).map (·.2))) = fun j => decide (j ∈ (prs.take i).map (·.2)) || decide (j = q.2) := by
          funext j
          rw [take_map_snoc hq, Bool.eq_iff_iff, Bool.or_eq_true, decide_eq_true_eq, decide_eq_true_eq, decide_eq_true_eq, List.mem_append, List.mem_singleton]
        rw [e]
        exact upd_same
      · split <;> omega
    rintro S H1 fS ⟨k1, c, hS, lc⟩
    rw [List.length_map] at hS lc
    rw [List.take_length] at hS
    have nSd : S ≠ d := fun e => by
      rw [e] at fS
      have := fS.e
      rw [upd_same] at this
      cases this
    refine ⟨k1.at_ _ _ upd_same not_nil, ?_⟩
    have kU : Kp [] H (upd H1 d (.dK (prs.map kN))) := kp_unl hd (fun z => z) k1
    have hSU := upd_nn (o := HO.dK (prs.map kN)) nSd hS
    have hdU : (upd H1 d (.dK (prs.map kN))) d = some (.dK (prs.map kN)) := upd_same
    obtain ⟨H2, e2⟩ : ∃ H2, H2 = upd H1 d (.dK (prs.map kN)) := ⟨_, rfl⟩
    rw [← e2] at kU hSU hdU ⊢
    walk_at "gs"
    refine ⟨S, _, c, rfl, hSU, by omega, fun nums N sm mem lm fN => ?_⟩
    have fN : Fr H2 N := ⟨fN⟩
    have nof : NumsOf prs nums := ⟨sm, fun n => by rw [mem, decide_eq_true_eq]⟩
    have lnu := nof.len
    have kN1 := Kp.new (ws := []) (o := HO.lst (nums.map V.int)) fN
    have hN := fresh_at (o := HO.lst (nums.map V.int)) fN
    have k3 := Kp.trans kU kN1
    obtain ⟨H3, e3⟩ : ∃ H3, H3 = upd H2 N (.lst (nums.map V.int)) := ⟨_, rfl⟩
    rw [← e3] at kN1 hN k3 ⊢
    walk_at "gs"
    refine i_dnewK (i_new fun F fF => ?_)
    have kF := Kp.new (ws := []) (o := HO.dK []) fF
    have hF := fresh_at (o := HO.dK []) fF
    have k4 := Kp.trans k3 kF
    have nNF : N ≠ F := fr_ne hN fF
    have fF0 : Fr H F := k3.free fF
    have hN4 := kF.at_ _ _ hN not_nil
    have ndF : d ≠ F := fr_ne (k3.at_ _ _ hd not_nil) fF
    have ntF : t ≠ F := fr_ne (k3.at_ _ _ ht not_nil) fF
    obtain ⟨H4, e4⟩ : ∃ H4, H4 = upd H3 F (.dK []) := ⟨_, rfl⟩
    rw [← e4] at kF hF k4 hN4 ⊢
    walk_at "gs"
    refine ⟨D, t, ps, ever, liv, ks, nb, root, rfl, x0.kp0 k4, z, he, hrt, fun W xs f H5 fW k5 hW op met => ?_⟩
    have hsW : SqL K H5 W xs := SqL.of hW
    have ml := met.len
    have ol := op.len
    walk_at "gs"
    refine i_new fun V1 fV => ?_
    have kV := Kp.new (ws := []) (o := HO.lst xs.reverse) fV
    have hV := fresh_at (o := HO.lst xs.reverse) fV
    have k6 := Kp.trans k4 (Kp.trans k5 kV)
    have k46 := Kp.trans k5 kV
    have hF6 := k46.at_ _ _ hF not_nil
    have hN6 := k46.at_ _ _ hN4 not_nil
    have op6 := op.kp kV
    obtain ⟨H6, e6⟩ : ∃ H6, H6 = upd H5 V1 (.lst xs.reverse) := ⟨_, rfl⟩
    rw [← e6] at hV k6 k46 hF6 hN6 op6 ⊢
    have hd6 := k6.at_ _ _ hd not_nil
    have nVF : V1 ≠ F := fun e => by
      rw [e, hF6] at hV
      cases hV
    walk_at "gs"
    refine i_each (SqL.of hV) (fun i σ H' => ∃ (o5 o6 o7 o8 o9 : Option V) (fk : List (Key × V)), σ = [some (.ref t), some (.ref d), some (.int root), some (.ref N), some (.ref F), o5, o6, o7, o8, o9] ∧
      Kp [F] H6 H' ∧ H' F = some (.dK fk) ∧ fk.length ≤ i ∧ FndAt H' F fk nb (tl prs) nums f i) ?_ ?_ ?_ ?_
    · refine ⟨_, _, _, _, _, [], rfl, Kp.refl, hF6, Nat.le_refl _, fun j w bk hj le => ?_⟩
      have := (List.getElem?_eq_some_iff.mp hj).1
      omega
    · rintro i σ H' _ ⟨_, _, _, _, _, _, _, kk, _⟩
      exact kk.seqL (not_one nVF) (SqL.of hV)
    · rintro i y σ H7 hy ⟨o5, o6, o7, o8, o9, fk, rfl, k7, hF7, lfk, fnd⟩
      have hil := (List.getElem?_eq_some_iff.mp hy).1
      rw [List.length_reverse] at hil
      rw [List.getElem?_reverse hil] at hy
      obtain ⟨j, ej⟩ : ∃ j, j = xs.length - 1 - i := ⟨_, rfl⟩
      rw [← ej] at hy
      have jl : j < f.length := by omega
      obtain ⟨w, bk, hq⟩ : ∃ w bk, f[j]? = some (w, bk) := ⟨_, _, List.getElem?_eq_getElem jl⟩
      have hw : w ∈ ks := met.sub _ (List.mem_of_getElem? hq)
      obtain ⟨T1, hx, hT1⟩ := (op6.kp k7).get hq
      rw [hx] at hy
      injection hy with hy
      subst hy
      have hst : SqT K H7 T1 [.int w, oV bk] := SqT.of hT1
      have hN7 := k7.at_ _ _ hN6 (not_one nNF)
      have hd7 := k7.at_ _ _ hd6 (not_one ndF)
      walk_at "gs"
      refine i_dcL ?_
      walk_at "gs"
      refine i_dlistG (SqL.of hN7) (fun R i H' => Kp [] H7 H' ∧ ∃ kvs, H' R = some (.dK kvs) ∧ WysAt H' kvs ((nums.take i).map fun n => (n, 0, 1))) ?_ ?_ ?_ ?_
      · intro R fR
        exact ⟨Kp.new fR, [], upd_same, trivial⟩
      · rintro R i H' fR _ ⟨kk, _⟩
        exact kk.seqL not_nil (SqL.of hN7)
      · rintro R i y H' fR hy ⟨kk, kvs, hR, wy⟩
        obtain ⟨n, hn, e⟩ := map_get hy
        subst e
        have hil := (List.getElem?_eq_some_iff.mp hn).1
        have lw := wy.len
        rw [List.length_map, List.length_take] at lw
        walk_at "gs"
        refine i_new fun U fU => ?_
        have kU2 := Kp.new (ws := []) (o := HO.tup [.int 0, .int 1]) fU
        have hU := fresh_at (o := HO.tup [.int 0, .int 1]) fU
        have hR2 := kU2.at_ _ _ hR not_nil
        have kM : Kp [R] (upd H' U (.tup [.int 0, .int 1])) (upd (upd H' U (.tup [.int 0, .int 1])) R (.dK (putK kvs (.inl n) (.ref U)))) := kp_set hR2 (fun z => z)
        refine ⟨kvs, .inl n, rfl, hR2, small_sz (by omega), Kp.upd (Kp.trans kk kU2) fR, _, upd_same, ?_⟩
        have no : valV kvs (.inl n) = none := wy.no (by
          rw [List.map_map, show ((fun q : Int × Int × Int => q.1) ∘ fun n : Int => (n, (0 : Int), (1 : Int))) = id from rfl, List.map_id]
          intro m
          obtain ⟨i2, hi2⟩ := List.getElem?_of_mem m
          have l2 := (List.getElem?_eq_some_iff.mp hi2).1
          rw [List.length_take] at l2
          rw [List.getElem?_take_of_lt (by omega)] at hi2
          have := (List.getElem?_inj hil nof.nd).mp (hn.trans hi2.symm)
          omega)
        rw [putK_new _ no] at kM ⊢
        rw [take_map_snoc hn]
        exact WysAt.snoc (q := (n, 0, 1)) (kM.fix _ _ hU trivial) ((wy.kp kU2).kp kM)
      rintro Y H8 fY ⟨k8, kvs, hY, wy⟩
      rw [List.length_map, List.take_length] at wy
      with_reducible refine i_seq ?_
      with_reducible refine i_cutIf (fun σ H' => ∃ (aw : Addr) (kv : List (Key × V)) (o8 o9 : Option V), σ = [some (.ref t), some (.ref d), some (.int root), some (.ref N), some (.ref F), some (.int w), some (oV bk), some (.ref aw), o8, o9] ∧ Kp [] H7 H' ∧ Fr H7 aw ∧ H' aw = some (.dK kv) ∧ WysAt H' kv (ini (tl prs) nums w)) ?_ (fun D' go => ?_)
      · rintro σ H9 ⟨aw, kv, o8, o9, rfl, k9, faw, haw, wya⟩
        have k69 : Kp [F] H6 H9 := Kp.trans k7 k9.wide
        have k09 : Kp [] H H9 := Kp.dropAll (Kp.trans k6.wide k69) fun b hb => .inr (by rw [List.mem_singleton.mp hb]; exact fF0)
        have ht9 := k09.at_ _ _ ht not_nil
        have hF9 := k9.at_ _ _ hF7 not_nil
        have bw : w = root ∧ bk = none ∨ ∃ b, bk = some b ∧ b ∈ nb w ∧ Btw D w b root := by
          cases bk with
          | none =>
            have e0 := met.none_ j w hq
            have hz := met.zero
            rw [← e0, hq] at hz
            injection hz with hz
            injection hz with hz
            exact .inl ⟨hz, rfl⟩
          | some b => exact .inr ⟨b, rfl, (met.back j w b hq).2⟩
        walk_at "gs"
        refine ⟨D, t, ps, ever, liv, ks, nb, w, rfl, x0.kp0 k09, z, he, hw, fun R fs H10 fR k10 hR pw mem2 => ?_⟩
        have efs : fs = srt (nb w) := srt_eq pw mem2 (z.rp.nd w hw)
        subst efs
        have nsr : (srt (nb w)).Nodup := (srt_perm _).nodup_iff.mpr (z.rp.nd w hw)
        have topsub : ∀ {G : Fo} {n : Nat}, G.tops = ((srt (nb w)).take n).filter (fun u => decide (some u ≠ bk)) → G.tops.Nodup ∧ ∀ u ∈ G.tops, u ∈ nb w ∧ some u ≠ bk := fun {G n} e => by
          rw [e]
          refine ⟨(nsr.sublist (List.take_sublist _ _)).filter _, fun u hu => ?_⟩
          rw [List.mem_filter, decide_eq_true_eq] at hu
          exact ⟨(srt_perm _).mem_iff.mp (List.mem_of_mem_take hu.1), hu.2⟩
        refine i_each (SqL.of hR) (fun n σ H' => ∃ (a2 : Addr) (kv2 : List (Key × V)) (G : Fo) (o8 o9 : Option V), σ = [some (.ref t), some (.ref d), some (.int root), some (.ref N), some (.ref F), some (.int w), some (oV bk), some (.ref a2), o8, o9] ∧ Kp [] H10 H' ∧ Fr H7 a2 ∧ H' a2 = some (.dK kv2) ∧
          WysAt H' kv2 (G.go (tl prs) nums (ini (tl prs) nums w)) ∧ G.Deep nb w ∧ G.tops = ((srt (nb w)).take n).filter fun u => decide (some u ≠ bk)) ?_ ?_ ?_ ?_
        · exact ⟨aw, kv, .nil, _, _, rfl, Kp.refl, faw, k10.at_ _ _ haw not_nil, wya.kp k10, trivial, by rw [List.take_zero]; rfl⟩
        · rintro n σ H' _ ⟨_, _, _, _, _, _, kk, _⟩
          exact kk.seqL not_nil (SqL.of hR)
        · rintro n y σ H11 hy ⟨a2, kv2, G, o8, o9, rfl, k11, fa2, ha2, wy2, dp, tp⟩
          obtain ⟨u, hu, e⟩ := map_get hy
          subst e
          have hun : u ∈ nb w := (srt_perm _).mem_iff.mp (List.mem_of_getElem? hu)
          have step := filter_step (f := fun u : Int => decide (some u ≠ bk)) hu
          have k911 := Kp.trans k10 k11
          have hF11 := k911.at_ _ _ hF9 not_nil
          obtain ⟨tn1, tn2⟩ := topsub tp
          walk_at "gs"
          refine i_neO ?_
          walk_at "gs"
          refine i_dec (fun c1 => ?_) (fun c1 => ?_)
          · obtain ⟨j2, lj, hj2⟩ := met.kids j w bk jl hq u hun c1
            have huk := met.sub _ (List.mem_of_getElem? hj2)
            obtain ⟨au, kvu, Gu, hvu, naF, hau, isu, wyu⟩ := fnd j2 u (some w) hj2 (by omega)
            have k711 := Kp.trans k9 k911
            have hau11 := k711.at_ _ _ hau not_nil
            have nea : a2 ≠ au := Ne.symm (fr_ne hau fa2)
            have lG := Fo.len_le z hrt hw dp tn1 tn2 bw
            have lGu := Fo.len_le z hrt (F := Gu) (bk := some w) huk isu.2 isu.1.1 (fun v hv => (isu.1.2 v).mp hv) (.inr ⟨w, rfl, (met.back j2 u w hj2).2⟩)
            have lnv : nums.length ≤ 64 := by omega
            walk_at "gs"
            refine i_dg hF11 hvu ?_
            walk_at "gs"
            refine ⟨a2, au, kv2, kvu, _, _, rfl, nea, ha2, wy2, hau11, wyu.kp k711, fun e => ?_, ?_, ?_, ?_, ⟨_, _, Fo.go_bnd lnv G 0 _ (ini_bnd w), Fo.at_bnd lnv Gu u, by omega, by omega⟩, fun R2 kv3 H12 fR2 k12 hR2 wy3 => ?_⟩
            · have e2 := congrArg List.length e
              rw [show (Gu.at_ (tl prs) nums u).length = (ini (tl prs) nums u).length from Fo.go_len _ _] at e2
              unfold ini at e2
              rw [List.length_map, List.length_nil, List.length_eq_zero_iff] at e2
              exact vals_ne (nof.ne nep) u e2
            · rw [show (Gu.at_ (tl prs) nums u).length = (ini (tl prs) nums u).length from Fo.go_len _ _]
              exact ini_len lnv u
            · rw [Fo.go_len]
              exact Nat.le_trans (ini_len lnv w) (by decide)
            · rw [Fo.go_keys, ini_keys]
              exact vals_nd nof.nd w
            · walk_at "gs"
              refine ⟨R2, kv3, G.snoc u Gu, _, _, rfl, Kp.trans k11 k12, k711.free fR2, hR2, by rw [Fo.go_snoc]; exact wy3, Fo.snoc_deep isu.1.1 (fun x => ?_) isu.2 dp, ?_⟩
              · rw [isu.1.2]
                exact ⟨fun ⟨p1, p2⟩ => ⟨p1, fun e => p2 (by rw [e])⟩, fun ⟨p1, p2⟩ => ⟨p1, fun e => p2 (by injection e)⟩⟩
              · rw [Fo.snoc_tops, tp, step, if_pos (decide_eq_true c1)]
          · refine ⟨a2, kv2, G, _, _, rfl, k11, fa2, ha2, wy2, dp, ?_⟩
            rw [tp, step, if_neg (by simpa using c1), List.append_nil]
        · rintro σ H11 ⟨a2, kv2, G, o8, o9, rfl, k11, fa2, ha2, wy2, dp, tp⟩
          obtain ⟨tn1, tn2⟩ := topsub tp
          rw [List.length_map, List.take_length] at tp
          have k911 := Kp.trans k10 k11
          have hF11 := k911.at_ _ _ hF9 not_nil
          have k611 : Kp [F] H6 H11 := Kp.trans k69 k911.wide
          have isw : G.Is nb w bk := ⟨⟨tn1, fun x => ⟨fun h => tn2 x h, fun ⟨p1, p2⟩ => by
            rw [tp, List.mem_filter, decide_eq_true_eq, (srt_perm _).mem_iff]
            exact ⟨p1, p2⟩⟩⟩, dp⟩
          walk_at "gs"
          refine i_setK hF11 (by omega) ?_
          have kM : Kp [F] H11 (upd H11 F (.dK (putK fk (.inl w) (.ref a2)))) := kp_set hF11 (fun z => z)
          have naF : a2 ≠ F := Ne.symm (fr_ne hF7 fa2)
          have lp := put_len1 fk (.inl w) (.ref a2)
          refine ⟨_, _, _, _, _, _, rfl, Kp.trans k611 kM, upd_same, by omega, fun j' w' bk' hj' le => ?_⟩
          by_cases cj : j' = j
          · rw [cj, hq] at hj'
            injection hj' with hj'
            injection hj' with e1 e2
            subst e1 e2
            exact ⟨a2, kv2, G, by rw [valV_put, if_pos rfl], naF, upd_nn naF ha2, isw, wy2.kp kM⟩
          · obtain ⟨a, kvs', G', v1, v2, v3, v4, v5⟩ := fnd j' w' bk' hj' (by omega)
            have k711 := Kp.trans k9 k911
            refine ⟨a, kvs', G', ?_, v2, upd_nn v2 (k711.at_ _ _ v3 not_nil), v4, (v5.kp k711).kp kM⟩
            rw [valV_put, if_neg fun e => ?_]
            · exact v1
            · injection e with e
              subst e
              exact cj (nodup_at met.nd hj' hq)
      · have hd8 := k8.at_ _ _ hd7 not_nil
        walk_at "gs"
        rw [val_in_kN]
        refine i_dec (fun c => ?_) (fun c => ?_)
        · walk_at "gs"
          refine i_disp1t fun A fA => ?_
          have kA := Kp.new (ws := []) (o := HO.dK []) fA
          have hdA := kA.at_ _ _ hd8 not_nil
          walk_at "gs"
          refine i_dg hdA (look_mem c).2 ?_
          walk_at "gs"
          refine i_new fun U fU => ?_
          have kU := Kp.new (ws := []) (o := HO.tup [.int 0, .int 1]) fU
          have hA := kU.at_ _ _ (fresh_at (o := HO.dK []) fA) not_nil
          refine i_dispK hA ?_
          walk_at "gs"
          have kM : Kp [A] (upd (upd H8 A (.dK [])) U (.tup [.int 0, .int 1])) (upd (upd (upd H8 A (.dK [])) U (.tup [.int 0, .int 1])) A (.dK [(.inl (look prs w), .ref U)])) := kp_set hA (fun z => z)
          refine go _ _ ⟨A, [(.inl (look prs w), .ref U)], _, _, rfl, Kp.upd (Kp.trans (Kp.trans k8 kA) kU) (k8.free fA), k8.free fA, upd_same, ?_⟩
          have ei : ini (tl prs) nums w = [(look prs w, 0, 1)] := by
            unfold ini vals tl
            rw [if_pos c]
            rfl
          rw [ei]
          exact ⟨⟨U, rfl, kM.fix _ _ (fresh_at fU) trivial⟩, trivial⟩
        · walk_at "gs"
          refine go _ _ ⟨Y, kvs, _, _, rfl, k8, fY, hY, ?_⟩
          have ei : ini (tl prs) nums w = nums.map fun n => (n, 0, 1) := by
            unfold ini vals tl
            rw [if_neg c]
          rw [ei]
          exact wy
    rintro σ H7 ⟨o5, o6, o7, o8, o9, fk, rfl, k7, hF7, lfk, fnd⟩
    rw [List.length_reverse] at fnd
    obtain ⟨a, kvs, G, hv, naF, ha, is, wy⟩ := fnd 0 root none met.zero (by omega)
    walk_at "gs"
    refine i_dg hF7 hv ?_
    exact k a kvs nums G H7 nof is (Kp.dropAll (Kp.trans k6.wide k7) fun b hb => .inr (by rw [List.mem_singleton.mp hb]; exact fF0)) ha wy

/-! ### the best numbers of a world, the least cost -/
theorem pw_ltQ_nd {rs : List (Int × Int)} (h : rs.Pairwise ltQ) : rs.Nodup := h.imp fun {a b} l e => by
  subst e
  unfold ltQ at l
  omega
theorem tl_none {prs : List (Int × Int)} {w : Int} (h : w ∈ prs.map (·.1)) : tl prs w ≠ none := by
  unfold tl
  rw [if_pos h]
  intro z
  cases z
theorem NumsOf.tn {prs : List (Int × Int)} {nums : List Int} (h : NumsOf prs nums) : ∀ w n, tl prs w = some n → n ∈ nums := fun w n e => by
  unfold tl at e
  split at e
  · rename_i c
    injection e with e
    rw [h.2, ← e]
    exact List.mem_map.mpr ⟨_, (look_mem c).1, rfl⟩
  · cases e
def sp_best_at (K : PySem.W.Frag) (C : Addr) : Sp := fun vs H Q _ => ∃ (D : Int → Int → Int) (t d : Addr) (ps : List Addr) (ever : Int) (liv ks : List Int) (nb : Int → List Int) (root : Int) (prs : List (Int × Int)), vs = [.ref t, .ref d, .int root] ∧ TiesAt C H t ps ever liv ks nb ∧ Tr3 D ever liv ks nb ∧ ever ≤ 200 ∧ root ∈ ks ∧
  H d = some (.dK (prs.map kN)) ∧ (prs.map (·.1)).Nodup ∧ prs ≠ [] ∧ prs.length < 64 ∧
  ∀ R nums (G : Fo) (ns : List Int) H', NumsOf prs nums → G.Is nb root none → Fr H R → Kp [] H H' → H' R = some (.lst (ns.map V.int)) → ns.Pairwise (· < ·) → (∀ n, n ∈ ns ↔ n ∈ vals (tl prs) nums root ∧ G.low (tl prs) nums n = G.bst (tl prs) nums root) → Q (.ref R) H'
theorem sc_best_at : FnScope ["ties", "told", "root", "ways", "least", "many_least", "number", "cost", "many"] ["ties", "told", "root"] (defScope s_best_at) :=
  ⟨rfl, rfl, rfl, by decide +kernel, rfl, by decide +kernel, by decide +kernel⟩
theorem ok_best_at {P : Program} {w : World} {K : PySem.W.Frag} {mg : Str → Option Value} {base : Heap} (T : Txt K mg) :
    FnG P w K mg base 6 T.a_best_at T.d_best_at ["ties", "told", "root"] (sp_best_at K T.c_Ties) := by
  refine okD T.F_best_at sc_best_at (fun vs H Q E h => ?_) (fun cdv A outer s H vs Q E hr h => ?_)
  · first
      | (obtain ⟨_, rfl, _⟩ := h; rfl)
      | (obtain ⟨_, _, rfl, _⟩ := h; rfl)
      | (obtain ⟨_, _, _, rfl, _⟩ := h; rfl)
      | (obtain ⟨_, _, _, _, rfl, _⟩ := h; rfl)
      | (obtain ⟨_, _, _, _, _, rfl, _⟩ := h; rfl)
      | (obtain ⟨_, _, _, _, _, _, rfl, _⟩ := h; rfl)
      | (obtain ⟨_, _, _, _, _, _, _, rfl, _⟩ := h; rfl)
      | (obtain ⟨_, _, _, _, _, _, _, _, rfl, _⟩ := h; rfl)
      | (obtain ⟨_, _, _, _, _, _, _, _, _, rfl, _⟩ := h; rfl)
      | (obtain ⟨_, _, _, _, _, _, _, _, _, _, rfl, _⟩ := h; rfl)
      | (obtain ⟨_, _, _, _, _, _, _, _, _, _, _, rfl, _⟩ := h; rfl)
      | (obtain ⟨_, _, _, _, _, _, _, _, _, _, _, _, rfl, _⟩ := h; rfl)
      | (obtain ⟨_, _, _, _, _, _, _, _, _, _, _, _, _, rfl, _⟩ := h; rfl)
      | (obtain ⟨_, _, _, _, _, _, _, _, _, _, _, _, _, _, rfl, _⟩ := h; rfl)
      | (obtain ⟨_, _, _, _, _, _, _, _, _, _, _, _, _, _, _, rfl, _⟩ := h; rfl)
      | (obtain ⟨_, _, _, _, _, _, _, _, _, _, _, _, _, _, _, _, rfl, _⟩ := h; rfl)
      | (obtain ⟨_, _, _, _, _, _, _, _, _, _, _, _, _, _, _, _, _, rfl, _⟩ := h; rfl)
      | (obtain ⟨_, _, _, _, _, _, _, _, _, _, _, _, _, _, _, _, _, _, rfl, _⟩ := h; rfl)
      | (obtain ⟨_, _, _, _, _, _, _, _, _, _, _, _, _, _, _, _, _, _, _, rfl, _⟩ := h; rfl)
  · obtain ⟨D, t, d, ps, ever, liv, ks, nb, root, prs, rfl, x0, z, he, hrt, hd, ndp, nep, lpr, k⟩ := h
    have cl_Ties := T.cl_Ties
    have na_Ties_near := T.na_Ties_near
    have na_Ties_own_ever := T.na_Ties_own_ever
    have na_Ties_own_living := T.na_Ties_own_living
    refine ⟨_, (pss_cons (ps_set (i := 3) sc_best_at.nd rfl (Or.inl rfl) (d1 (ok_ways_at T) (hr.mono (by decide)) (by rfl) T.m_ways_at T.F_ways_at.kp T.b_ways_at passL (pa_cons (pv 0) (pa_cons (pv 1) (pa_cons (pv 2) pa_nil)))))
      (pss_cons (ps_asg (d1 (ok_best_of T) (hr.mono (by decide)) (by rfl) T.m_best_of T.F_best_of.kp T.b_best_of passL (pa_cons (pv 3) pa_nil)) (k_gtup (K := K) 2 rfl rfl (pgs_cons (pg_name (i := 4) sc_best_at.nd rfl (Or.inr rfl)) (pgs_cons (pg_name (i := 5) sc_best_at.nd rfl (Or.inl rfl)) pgs_nil))))
      (pss_one (ps_ret (pe_callB (k_sorted (K := K) rfl) (by rfl) T.n_sorted (by decide +kernel) (pa_cons (pe_lock (pe_lc (own := [("number", 6), ("cost", 7), ("many", 8)]) (g := (gTup K 2 (gCons (gName 6) (gCons (gTup K 2 (gCons (gName 7) (gCons (gName 8) gNil))) gNil)))) rfl sc_best_at.nd (pi_items (pv 3)) (blkOk_by (own := [("number", 6), ("cost", 7), ("many", 8)]) (N := ["ties", "told", "root", "ways", "least", "many_least", "number", "cost", "many"]) (sc := defScope s_best_at) (by decide +kernel)) (fun _ _ _ _ _ => (k_gtup (K := K) 2 rfl rfl (pgs_cons (pg_name (i := 6) sc_best_at.nd rfl (Or.inl rfl)) (pgs_cons (k_gtup (K := K) 2 rfl rfl (pgs_cons (pg_name (i := 7) sc_best_at.nd rfl (Or.inl rfl)) (pgs_cons (pg_name (i := 8) sc_best_at.nd rfl (Or.inl rfl)) pgs_nil))) pgs_nil)))) (fun _ _ _ _ _ => (pts_one (pt_cmpR (k_eq (K := K) rfl hr.r.units) (pv 7) (pv 4) (nomark _)))) (fun _ _ _ _ _ => (pv 6)))) pa_nil)))))), ?_⟩
    dsimp only [cxOf, st_1, st_2, st_3, st_4, st_5, st_6, List.length_cons, List.length_nil, List.replicate_succ, List.replicate_zero, Nat.reduceAdd, Nat.reduceSub]
    walk_at "gs"
    refine ⟨D, t, d, ps, ever, liv, ks, nb, root, prs, rfl, x0, z, he, hrt, hd, ndp, nep, lpr, fun W kvs nums G H1 nof is k1 hW wy => ?_⟩
    have lnu := nof.len
    have lat : (G.at_ (tl prs) nums root).length ≤ 64 := by
      rw [show (G.at_ (tl prs) nums root).length = (ini (tl prs) nums root).length from Fo.go_len _ _]
      exact ini_len (by omega) root
    have nat_ : G.at_ (tl prs) nums root ≠ [] := fun e => by
      have e2 := congrArg List.length e
      rw [show (G.at_ (tl prs) nums root).length = (ini (tl prs) nums root).length from Fo.go_len _ _] at e2
      unfold ini at e2
      rw [List.length_map, List.length_nil, List.length_eq_zero_iff] at e2
      exact vals_ne (nof.ne nep) root e2
    have key : (G.at_ (tl prs) nums root).map (·.1) = vals (tl prs) nums root := by
      rw [← ini_keys]
      exact Fo.go_keys _ _
    have lkv := wy.len
    obtain ⟨qs, eqs⟩ : ∃ qs, qs = G.at_ (tl prs) nums root := ⟨_, rfl⟩
    rw [← eqs] at wy lat nat_ key lkv
    walk_at "gs"
    refine ⟨W, kvs, qs, rfl, hW, wy, nat_, by omega, fun R H2 fR k2 hR => ?_⟩
    have hsR : SqT K H2 R [.int (bestC qs), .int (bestM qs)] := SqT.of hR
    have hW2 := k2.at_ _ _ hW not_nil
    have wy2 := wy.kp k2
    walk_at "gs"
    refine i_lockE hW2 fun od => ?_
    refine i_lcIt ?_
    walk_at "gs"
    have kF : Kp [W] H2 (upd H2 W (.frz od (.dK kvs))) := kp_set hW2 (fun z => z)
    have wyF := wy2.kp kF
    refine i_pairG upd_same (fun R i H' => Kp [] (upd H2 W (.frz od (.dK kvs))) H' ∧ H' R = some (.lst ((((qs.take i).filter fun q => decide (q.2.1 = bestC qs)).map fun q => q.1).map V.int))) ?_ ?_ ?_ ?_
    · intro R fR
      exact ⟨Kp.new fR, upd_same⟩
    · rintro R i H' fR ⟨kk, _⟩
      exact kk.at_ _ _ upd_same not_nil
    · rintro R i ky v U H' fR hy ⟨kk, hR'⟩ fU
      obtain ⟨u, q, hqi, rfl, rfl, hu⟩ := (wyF.kp kk).get hy
      have kU := Kp.new (ws := []) (o := HO.tup [kV (.inl q.1), .ref u]) fU
      have hU : SqT K (upd H' U (.tup [kV (.inl q.1), .ref u])) U [.int q.1, .ref u] := SqT.of (fresh_at fU)
      have hu3 : SqT K (upd H' U (.tup [kV (.inl q.1), .ref u])) u [.int q.2.1, .int q.2.2] := SqT.of (kU.fix _ _ hu trivial)
      have hR3 := kU.at_ _ _ hR' not_nil
      have kk3 := Kp.trans kk kU
      have step := filter_step (f := fun q : Int × Int × Int => decide (q.2.1 = bestC qs)) hqi
      have l1 := List.length_filter_le (fun q : Wy => decide (q.2.1 = bestC qs)) (qs.take i)
      have l2 : (qs.take i).length ≤ qs.length := by rw [List.length_take]; omega
      obtain ⟨H3, e3⟩ : ∃ H3, H3 = upd H' U (.tup [kV (.inl q.1), .ref u]) := ⟨_, rfl⟩
      rw [← e3] at hU hu3 hR3 kk3 ⊢
      walk_at "gs"
      refine i_dec (fun c => ?_) (fun c => ?_)
      · walk_at "gs"
        refine ⟨_, hR3, small_sz (by rw [List.length_map, List.length_map]; omega), Kp.upd kk3 fR, ?_⟩
        rw [step, if_pos (decide_eq_true c), List.map_append, List.map_append]
        exact upd_same
      · refine ⟨kk3, ?_⟩
        rw [step, if_neg (by simpa using c), List.append_nil]
        exact hR3
    rintro L H3 fL ⟨k3, hL⟩
    rw [lkv, List.take_length] at hL
    have nLW : L ≠ W := fun e => by
      rw [e] at fL
      have := fL.e
      rw [upd_same] at this
      cases this
    refine ⟨k3.at_ _ _ upd_same not_nil, ?_⟩
    have k4 : Kp [] H2 (upd H3 W (.dK kvs)) := kp_unl hW2 (fun z => z) k3
    have hL4 := upd_nn (o := HO.dK kvs) nLW hL
    walk_at "gs"
    refine i_sorted (SqL.of hL4) fun ns S pm pw fS => ?_
    have ndq : (qs.map (·.1)).Nodup := by
      rw [key]
      exact vals_nd nof.nd root
    have ndf : (((qs.filter fun q => decide (q.2.1 = bestC qs)).map fun q => q.1)).Nodup := ndq.sublist (List.filter_sublist.map _)
    have k12 := Kp.trans k1 (Kp.trans k2 k4)
    refine k S nums G ns _ nof is (k12.free fS) (Kp.trans k12 (Kp.new fS)) upd_same (strict_of pm ndf pw) fun n => ?_
    rw [pm.mem_iff, List.mem_map]
    have eb : bestC qs = G.bst (tl prs) nums root := by
      rw [eqs, Fo.bestC_at]
    have ea : qs = (vals (tl prs) nums root).map fun n => (n, G.low (tl prs) nums n, G.mny (tl prs) nums n) := by
      rw [eqs, Fo.at_eq]
    rw [eb, ea]
    constructor
    · rintro ⟨q, hq, rfl⟩
      rw [List.mem_filter, List.mem_map, decide_eq_true_eq] at hq
      obtain ⟨⟨n, hn, rfl⟩, h2⟩ := hq
      exact ⟨hn, h2⟩
    · rintro ⟨h1, h2⟩
      exact ⟨_, List.mem_filter.mpr ⟨List.mem_map.mpr ⟨n, h1, rfl⟩, decide_eq_true h2⟩, rfl⟩
def LeastOf (liv ks : List Int) (nb : Int → List Int) (prs : List (Int × Int)) (m : Int) : Prop := liv = [] ∧ m = 0 ∨ liv ≠ [] ∧ ∀ nums, NumsOf prs nums → ∀ rs, RowsOf ks nb rs → Lst (tl prs) nums ks rs m
def sp_least_cost (K : PySem.W.Frag) (C : Addr) : Sp := fun vs H Q _ => ∃ (D : Int → Int → Int) (t d : Addr) (ps : List Addr) (ever : Int) (liv ks : List Int) (nb : Int → List Int) (prs : List (Int × Int)), vs = [.ref t, .ref d] ∧ TiesAt C H t ps ever liv ks nb ∧ Tr3 D ever liv ks nb ∧ ever ≤ 200 ∧
  H d = some (.dK (prs.map kN)) ∧ (prs.map (·.1)).Nodup ∧ (∀ x ∈ liv, x ∈ prs.map (·.1)) ∧ prs.length < 64 ∧
  ∀ m H', Kp [] H H' → LeastOf liv ks nb prs m → Q (.int m) H'
theorem NumsOf.uniq {prs : List (Int × Int)} {nums nums' : List Int} (h : NumsOf prs nums) (h' : NumsOf prs nums') : nums = nums' := lt_uniq h.1 h'.1 fun x => by rw [h.2, h'.2]
theorem Fo.Is.lst {D : Int → Int → Int} {ever root : Int} {liv ks : List Int} {nb : Int → List Int} {prs : List (Int × Int)} {nums : List Int} {G : Fo} (is : G.Is nb root none) (z : Tr3 D ever liv ks nb) (hrt : root ∈ ks) (hl : ∀ x ∈ liv, x ∈ prs.map (·.1)) (ne : prs ≠ []) (nof : NumsOf prs nums) {rs : List (Int × Int)} (ro : RowsOf ks nb rs) :
    Lst (tl prs) nums ks rs (G.bst (tl prs) nums root) := is.bst z hrt (fun x hx => tl_none (hl x hx)) nof.tn (nof.ne ne) (pw_ltQ_nd ro.1) ro.2
theorem sc_least_cost : FnScope ["ties", "numbers"] ["ties", "numbers"] (defScope s_least_cost) :=
  ⟨rfl, rfl, rfl, by decide +kernel, rfl, by decide +kernel, by decide +kernel⟩
theorem ok_least_cost {P : Program} {w : World} {K : PySem.W.Frag} {mg : Str → Option Value} {base : Heap} (T : Txt K mg) :
    FnG P w K mg base 6 T.a_least_cost T.d_least_cost ["ties", "numbers"] (sp_least_cost K T.c_Ties) := by
  refine okD T.F_least_cost sc_least_cost (fun vs H Q E h => ?_) (fun cdv A outer s H vs Q E hr h => ?_)
  · first
      | (obtain ⟨_, rfl, _⟩ := h; rfl)
      | (obtain ⟨_, _, rfl, _⟩ := h; rfl)
      | (obtain ⟨_, _, _, rfl, _⟩ := h; rfl)
      | (obtain ⟨_, _, _, _, rfl, _⟩ := h; rfl)
      | (obtain ⟨_, _, _, _, _, rfl, _⟩ := h; rfl)
      | (obtain ⟨_, _, _, _, _, _, rfl, _⟩ := h; rfl)
      | (obtain ⟨_, _, _, _, _, _, _, rfl, _⟩ := h; rfl)
      | (obtain ⟨_, _, _, _, _, _, _, _, rfl, _⟩ := h; rfl)
      | (obtain ⟨_, _, _, _, _, _, _, _, _, rfl, _⟩ := h; rfl)
      | (obtain ⟨_, _, _, _, _, _, _, _, _, _, rfl, _⟩ := h; rfl)
      | (obtain ⟨_, _, _, _, _, _, _, _, _, _, _, rfl, _⟩ := h; rfl)
      | (obtain ⟨_, _, _, _, _, _, _, _, _, _, _, _, rfl, _⟩ := h; rfl)
      | (obtain ⟨_, _, _, _, _, _, _, _, _, _, _, _, _, rfl, _⟩ := h; rfl)
      | (obtain ⟨_, _, _, _, _, _, _, _, _, _, _, _, _, _, rfl, _⟩ := h; rfl)
      | (obtain ⟨_, _, _, _, _, _, _, _, _, _, _, _, _, _, _, rfl, _⟩ := h; rfl)
      | (obtain ⟨_, _, _, _, _, _, _, _, _, _, _, _, _, _, _, _, rfl, _⟩ := h; rfl)
      | (obtain ⟨_, _, _, _, _, _, _, _, _, _, _, _, _, _, _, _, _, rfl, _⟩ := h; rfl)
      | (obtain ⟨_, _, _, _, _, _, _, _, _, _, _, _, _, _, _, _, _, _, rfl, _⟩ := h; rfl)
      | (obtain ⟨_, _, _, _, _, _, _, _, _, _, _, _, _, _, _, _, _, _, _, rfl, _⟩ := h; rfl)
  · obtain ⟨D, t, d, ps, ever, liv, ks, nb, prs, rfl, x0, z, he, hd, ndp, hl, lpr, k⟩ := h
    obtain ⟨dx0, lv0, nd0, ht⟩ := x0.ins
    have cl_Ties := T.cl_Ties
    have na_Ties_near := T.na_Ties_near
    have na_Ties_own_ever := T.na_Ties_own_ever
    have na_Ties_own_living := T.na_Ties_own_living
    refine ⟨_, (pss_cons (ps_if (pt_cmpR (k_eq (K := K) rfl hr.r.units) (dm0 T.cl_Ties T.me_Ties_living (ok_Ties_living T) (hr.mono (by decide)) T.b_Ties_living passL (pv 0)) (pe_lst pa_nil) (nomark _)) (pss_one (ps_ret pe_int)) pss_nil)
      (pss_one (ps_ret (pe_ix (k_ix (K := K) rfl) (d1 (ok_best_of T) (hr.mono (by decide)) (by rfl) T.m_best_of T.F_best_of.kp T.b_best_of passL (pa_cons (d1 (ok_ways_at T) (hr.mono (by decide)) (by rfl) T.m_ways_at T.F_ways_at.kp T.b_ways_at passL (pa_cons (pv 0) (pa_cons (pv 1) (pa_cons (pe_ix (k_ix (K := K) rfl) (dm0 T.cl_Ties T.me_Ties_living (ok_Ties_living T) (hr.mono (by decide)) T.b_Ties_living passL (pv 0)) pe_int (fun _ _ => rfl)) pa_nil)))) pa_nil)) pe_int (fun _ _ => rfl))))), ?_⟩
    dsimp only [cxOf, st_1, st_2, st_3, st_4, st_5, st_6, List.length_cons, List.length_nil, List.replicate_succ, List.replicate_zero, Nat.reduceAdd, Nat.reduceSub]
    walk_at "gs"
    refine ⟨t, ps, ever, liv, ks, nb, rfl, x0, fun R fR => ?_⟩
    have k1 := Kp.new (ws := []) (o := HO.lst (liv.map V.int)) fR
    have hR := fresh_at (o := HO.lst (liv.map V.int)) fR
    have ht1 := k1.at_ _ _ ht not_nil
    walk_at "gs"
    refine i_new fun E fE => ?_
    have k2 := Kp.new (ws := []) (o := HO.lst []) fE
    have hE := fresh_at (o := HO.lst []) fE
    have ht2 := k2.at_ _ _ ht1 not_nil
    walk_at "gs"
    refine eq_ints (r := []) (SqL.of (k2.at_ _ _ hR not_nil)) (SqL.of hE) ?_
    have k12 := Kp.trans k1 k2
    walk_at "gs"
    refine i_dec (fun c => ?_) (fun c => ?_)
    · walk_at "gs"
      exact k 0 _ k12 (.inl ⟨c, rfl⟩)
    obtain ⟨root, lr, el⟩ : ∃ a l, liv = a :: l := by
      cases liv with
      | nil => exact absurd rfl c
      | cons a l => exact ⟨a, l, rfl⟩
    have hrl : root ∈ liv := by rw [el]; exact List.mem_cons_self
    have hrt := z.sub root hrl
    have nep : prs ≠ [] := fun e => by
      have := hl root hrl
      rw [e] at this
      cases this
    obtain ⟨H2, e2⟩ : ∃ H2, H2 = upd (upd H R (.lst (liv.map V.int))) E (.lst []) := ⟨_, rfl⟩
    rw [← e2] at ht2 k12 ⊢
    walk_at "gs"
    refine ⟨t, ps, ever, liv, ks, nb, rfl, x0.kp0 k12, fun R2 fR2 => ?_⟩
    have k3 := Kp.new (ws := []) (o := HO.lst (liv.map V.int)) fR2
    have hR2 := fresh_at (o := HO.lst (liv.map V.int)) fR2
    have k13 := Kp.trans k12 k3
    have hat : atI (liv.map V.int) 0 = some (.int root) := by
      rw [el]
      exact at_zero
    refine i_ixL (SqL.of hR2) hat ?_
    walk_at "gs"
    refine ⟨D, t, d, ps, ever, liv, ks, nb, root, prs, rfl, x0.kp0 k13, z, he, hrt, k13.at_ _ _ hd not_nil, ndp, nep, lpr, fun W kvs nums G H4 nof is k4 hW wy => ?_⟩
    have lnu := nof.len
    have lat : (G.at_ (tl prs) nums root).length ≤ 64 := by
      rw [show (G.at_ (tl prs) nums root).length = (ini (tl prs) nums root).length from Fo.go_len _ _]
      exact ini_len (by omega) root
    have nat_ : G.at_ (tl prs) nums root ≠ [] := fun e => by
      have e2 := congrArg List.length e
      rw [show (G.at_ (tl prs) nums root).length = (ini (tl prs) nums root).length from Fo.go_len _ _] at e2
      unfold ini at e2
      rw [List.length_map, List.length_nil, List.length_eq_zero_iff] at e2
      exact vals_ne (nof.ne nep) root e2
    walk_at "gs"
    refine ⟨W, kvs, _, rfl, hW, wy, nat_, by omega, fun R3 H5 fR3 k5 hR3 => ?_⟩
    have hsR3 : SqT K H5 R3 [.int (bestC (G.at_ (tl prs) nums root)), .int (bestM (G.at_ (tl prs) nums root))] := SqT.of hR3
    walk_at "gs"
    rw [Fo.bestC_at]
    refine k _ _ (Kp.trans k13 (Kp.trans k4 k5)) (.inr ⟨c, fun nums' nof' rs ro => ?_⟩)
    rw [nof'.uniq nof]
    exact is.lst z hrt hl nep nof ro

/-! ### sorted(d), d a dict of numbers -/
section
open PySem.Calls PyProof.Rows
variable {X : Cx}
/-- sorted(d), d a dict of numbers -/
def rSortedD : List V → Hp → VK → Prop := fun xs H Q => ∃ (a : Addr) (kvs : List (Key × V)) (ns : List Int), xs = [.ref a] ∧ Rd H a (.dK kvs) ∧ (kvs.map fun kv => kV kv.1) = ns.map V.int ∧
  ∀ (ns' : List Int) (p : Addr), ns'.Perm ns → ns'.Pairwise (· ≤ ·) → H p = none → Q (.ref p) (upd H p (.lst (ns'.map V.int)))
theorem k_sortedD (hcalm : X.calm = true) : CallR X (.builtin "sorted") rSortedD := by
  intro pins s σ H xs us Q I r q
  obtain ⟨a, kvs, ns, rfl, hd, en, q⟩ := q
  obtain ⟨u, rfl, rx⟩ := vals1 r
  cases rx
  obtain ⟨z, lo, vs, rel, dd⟩ := dk_rd I.hok hd
  obtain ⟨ep, hat⟩ := dd.dictAt
  have ek : (kvs.map fun kv => kV kv.1) = vs.map fun p => kV p.1 := by
    have e := congrArg (List.map kV) rel.keys
    rw [List.map_map, List.map_map] at e
    exact e
  refine call_function_entry kind_sorted plain_sorted entry_sorted (args_sorted1 _) ?_
  unfold Builtin.«sorted»
  refine wpAny_bind (m := checkCount "sorted" 1 1 _) (wpAny_pure ?_)
  refine wpAny_bind (PySem.W.kdu_collect (A := X.A.in1) (PySem.W.kdl_dict (knd := mixKind X.prog X.w) (kvs := vs) (ep := ep) lo) (I.ok.hd hcalm) hat (by rw [← rel.length]; exact z) fun h' tk acc hk hacc => ?_)
  have hv : Vals (vs.map fun p => kV p.1) acc.toList := keys_at (by rw [Array.length_toList]; exact hacc.1) fun j v e => hacc.2 j v (by rw [← Array.getElem?_toList]; exact e)
  rw [← ek, en] at hv
  have hz : ns.length ≤ sizeLine := by
    have e := congrArg List.length en
    rw [List.length_map, List.length_map] at e
    omega
  have hl : acc.toList.length = ns.length := by rw [← hv.length, List.length_map]
  refine wpAny_bind (wpAny_newList ?_ (by rw [hl]; exact hz))
  have I0 : Inv X pins σ H { s with heap := h', toks := tk } := I.kept hk
  obtain ⟨D, hD⟩ : ∃ D, D = h'.objs.size := ⟨_, rfl⟩
  have I1 : Inv X pins σ (upd H h'.objs.size (.lst (ns.map V.int))) { s with heap := h'.push { cls := .type "list", data := .seq acc.toList.toArray }, toks := tk } :=
    I0.lnew (its := acc.toList) (t' := tk) hv (by rw [List.length_map]; exact hz)
  have fD : H h'.objs.size = none := I0.fresh
  rw [← hD] at I1 fD ⊢
  have hi := hv.ints
  obtain ⟨zl, its, n, rv, hob⟩ := I1.hok D _ upd_same
  have hi2 := rv.ints
  refine wpAny_bind (wpAny_holding (wpAny_call_entry PyProof.Rows.slot_list_sort ⟨_, hob, rfl⟩ PyProof.Rows.entry_list_sort
    (SrtO.list_sort_ord SrtO.swo_int hob (by rw [← rv.length]; exact zl) (fun h2 => SrtO.ints_sortable hi2 h2) fun out h1 h2 => ⟨.none, rfl, ?_⟩) (PyProof.Rows.args_list_sort _)))
  obtain ⟨k1, k2, k3⟩ := SrtO.ints_out hi2 h1 h2
  obtain ⟨ep2, he'⟩ := PyProof.Rows.sortedHeap_at (vs := its) (out := out.toArray) hob
  have hlen : ((out.map SrtO.iv).map V.int).length ≤ sizeLine := by
    rw [List.length_map, k2.length_eq]
    exact hz
  have I2 := I1.write (x := D) (e := D) (o := .lst ((out.map SrtO.iv).map V.int)) (t' := tk) (by rw [upd_same]; trivial) (.inl rfl) (fun b u hb hu => by
    rw [PyProof.Rows.sortedHeap_old hb (Heap.lt_size hu)]; exact hu) ⟨_, he'⟩ ⟨hlen, out, ep2, vals_of_ints k1, he'⟩
  rw [upd_upd] at I2
  exact wpAny_pure ⟨_, rfl, .ref D, _, I2, rfl, q _ _ k2 k3 fD⟩
end
theorem keys_kN (prs : List (Int × Int)) : ((prs.map kN).map fun kv => kV kv.1) = (prs.map (·.1)).map V.int := by
  rw [List.map_map, List.map_map]
  rfl
theorem i_sortedN {H : Hp} {Q : VK} {a : Addr} {prs : List (Int × Int)} (h : H a = some (.dK (prs.map kN))) (q : ∀ (ns' : List Int) (p : Addr), ns'.Perm (prs.map (·.1)) → ns'.Pairwise (· ≤ ·) → Fr H p → Q (.ref p) (upd H p (.lst (ns'.map V.int)))) : rSortedD [.ref a] H Q :=
  ⟨a, _, _, rfl, Rd.of h, keys_kN prs, fun ns' p h1 h2 h3 => q ns' p h1 h2 ⟨h3⟩⟩

/-! ### the keeping -/
theorem look_app {x : Int} {pr q : List (Int × Int)} (h : x ∈ pr.map (·.1)) : look (pr ++ q) x = look pr x := by
  unfold look
  rw [List.find?_append]
  cases e : pr.find? (fun q => decide (q.1 = x)) with
  | some y => rfl
  | none =>
    obtain ⟨p, hp, ep⟩ := List.mem_map.mp h
    have := List.find?_eq_none.mp e p hp
    simp only [decide_eq_true_eq] at this
    exact absurd ep this
theorem look_new {w n : Int} {pr : List (Int × Int)} (h : w ∉ pr.map (·.1)) : look (pr ++ [(w, n)]) w = n := by
  unfold look
  rw [List.find?_append, List.find?_eq_none.mpr fun q hq => ?_, Option.none_or]
  · rw [List.find?_cons, decide_eq_true rfl]
    rfl
  · simp only [decide_eq_true_eq]
    intro e
    exact h (List.mem_map.mpr ⟨q, hq, e⟩)
theorem tl_app {w n : Int} {pr : List (Int × Int)} (h : w ∉ pr.map (·.1)) : tl (pr ++ [(w, n)]) = tell1 (tl pr) w n := by
  funext x
  show (if x ∈ (pr ++ [(w, n)]).map (·.1) then some (look (pr ++ [(w, n)]) x) else none) = if x = w then some n else if x ∈ pr.map (·.1) then some (look pr x) else none
  have e : x ∈ (pr ++ [(w, n)]).map (·.1) ↔ x ∈ pr.map (·.1) ∨ x = w := by
    rw [List.map_append, List.mem_append, List.map_cons, List.map_nil, List.mem_singleton]
  by_cases c : x = w
  · subst c
    rw [if_pos (e.mpr (.inr rfl)), look_new h, if_pos rfl]
  · rw [if_neg c]
    by_cases m : x ∈ pr.map (·.1)
    · rw [if_pos (e.mpr (.inl m)), if_pos m, look_app m]
    · rw [if_neg m, if_neg fun z => (e.mp z).elim m c]
theorem put_kN {w n : Int} {pr : List (Int × Int)} (h : w ∉ pr.map (·.1)) : putK (pr.map kN) (.inl w) (.int n) = (pr ++ [(w, n)]).map kN := by
  rw [putK_new _ (valN_none h), List.map_append]
  rfl
/-- each number that was chosen, the ones ahead of it given: of those of least cost the least -/
structure KpOf (nums ks : List Int) (nb : Int → List Int) (l : Nat) (pr : List (Int × Int)) : Prop where
  num : ∀ (i : Nat) (w n : Int), l ≤ i → pr[i]? = some (w, n) → n ∈ nums
  same : ∀ (i : Nat) (w n : Int), l ≤ i → pr[i]? = some (w, n) → ∀ rs, RowsOf ks nb rs → ∀ m, Lst (tl (pr.take i)) nums ks rs m → Lst (tl (pr.take (i + 1))) nums ks rs m
  least : ∀ (i : Nat) (w n : Int), l ≤ i → pr[i]? = some (w, n) → ∀ n' ∈ nums, n' < n → ∀ rs, RowsOf ks nb rs → ∀ m, Lst (tl (pr.take i)) nums ks rs m → ¬ Lst (tell1 (tl (pr.take i)) w n') nums ks rs m
theorem KpOf.start {nums ks : List Int} {nb : Int → List Int} {pr : List (Int × Int)} : KpOf nums ks nb pr.length pr :=
  ⟨fun i w n h e => absurd (List.getElem?_eq_some_iff.mp e).1 (by omega), fun i w n h e => absurd (List.getElem?_eq_some_iff.mp e).1 (by omega), fun i w n h e => absurd (List.getElem?_eq_some_iff.mp e).1 (by omega)⟩
theorem KpOf.go {nums ks : List Int} {nb : Int → List Int} {l : Nat} {pr : List (Int × Int)} {w n : Int} (k : KpOf nums ks nb l pr) (nw : w ∉ pr.map (·.1)) (h1 : n ∈ nums) (h2 : ∀ rs, RowsOf ks nb rs → ∀ m, Lst (tl pr) nums ks rs m → Lst (tell1 (tl pr) w n) nums ks rs m)
    (h3 : ∀ n' ∈ nums, n' < n → ∀ rs, RowsOf ks nb rs → ∀ m, Lst (tl pr) nums ks rs m → ¬ Lst (tell1 (tl pr) w n') nums ks rs m) : KpOf nums ks nb l (pr ++ [(w, n)]) := by
  have old : ∀ {i : Nat} {q : Int × Int}, (pr ++ [(w, n)])[i]? = some q → i < pr.length ∧ pr[i]? = some q ∨ i = pr.length ∧ q = (w, n) := fun {i q} e => by
    by_cases c : i < pr.length
    · rw [List.getElem?_append_left c] at e
      exact .inl ⟨c, e⟩
    · rw [List.getElem?_append_right (by omega)] at e
      have := (List.getElem?_eq_some_iff.mp e).1
      rw [List.length_singleton] at this
      have e0 : i - pr.length = 0 := by omega
      rw [e0] at e
      injection e with e
      exact .inr ⟨by omega, e.symm⟩
  have tk : ∀ {i : Nat}, i ≤ pr.length → (pr ++ [(w, n)]).take i = pr.take i := fun {i} c => List.take_append_of_le_length c
  have full : (pr ++ [(w, n)]).take (pr.length + 1) = pr ++ [(w, n)] := List.take_of_length_le (by simp)
  refine ⟨fun i v m h e => ?_, fun i v m h e rs ro c z => ?_, fun i v m h e n' hn' lt rs ro c z => ?_⟩
  · rcases old e with ⟨_, e⟩ | ⟨_, e⟩
    · exact k.num i v m h e
    · injection e with e1 e2
      rw [e2]
      exact h1
  · rcases old e with ⟨c1, e⟩ | ⟨c1, e⟩
    · rw [tk (by omega)] at z ⊢
      exact k.same i v m h e rs ro c z
    · rw [c1, tk (Nat.le_refl _), List.take_length] at z
      rw [c1, full, tl_app nw]
      exact h2 rs ro c z
  · rcases old e with ⟨c1, e⟩ | ⟨c1, e⟩
    · rw [tk (by omega)] at z ⊢
      exact k.least i v m h e n' hn' lt rs ro c z
    · injection e with e1 e2
      subst e1 e2
      rw [c1, tk (Nat.le_refl _), List.take_length] at z ⊢
      exact h3 n' hn' lt rs ro c z
def sp_the_keeping (K : PySem.W.Frag) (C : Addr) : Sp := fun vs H Q _ => ∃ (D : Int → Int → Int) (t d : Addr) (ps : List Addr) (ever : Int) (liv ks : List Int) (nb : Int → List Int) (prs : List (Int × Int)), vs = [.ref t, .ref d] ∧ TiesAt C H t ps ever liv ks nb ∧ Tr3 D ever liv ks nb ∧ ever < 64 ∧
  H d = some (.dK (prs.map kN)) ∧ (prs.map (·.1)).Nodup ∧ (∀ x ∈ liv, x ∈ prs.map (·.1)) ∧
  ∀ R (fs : List Int) (pr out : List (Int × Int)) H', Fr H R → Kp [] H H' → H' R = some (.dK (out.map kN)) → FreeOf liv ks fs → pr.map (·.1) = liv ++ fs → (∀ x ∈ liv, look pr x = look prs x) → (liv ≠ [] → ∀ nums, NumsOf (liv.map fun x => (x, look prs x)) nums → NumsOf pr nums ∧ KpOf nums ks nb liv.length pr) →
    (out.map (·.1)).Pairwise (· < ·) → (∀ x, x ∈ out.map (·.1) ↔ x ∈ ks) → (∀ x ∈ ks, look out x = look pr x) → Q (.ref R) H'
theorem sc_the_keeping : FnScope ["ties", "numbers", "found", "world"] ["ties", "numbers"] (defScope s_the_keeping) :=
  ⟨rfl, rfl, rfl, by decide +kernel, rfl, by decide +kernel, by decide +kernel⟩
theorem ok_the_keeping {P : Program} {w : World} {K : PySem.W.Frag} {mg : Str → Option Value} {base : Heap} (T : Txt K mg) :
    FnG P w K mg base 7 T.a_the_keeping T.d_the_keeping ["ties", "numbers"] (sp_the_keeping K T.c_Ties) := by
  refine okD T.F_the_keeping sc_the_keeping (fun vs H Q E h => ?_) (fun cdv A outer s H vs Q E hr h => ?_)
  · first
      | (obtain ⟨_, rfl, _⟩ := h; rfl)
      | (obtain ⟨_, _, rfl, _⟩ := h; rfl)
      | (obtain ⟨_, _, _, rfl, _⟩ := h; rfl)
      | (obtain ⟨_, _, _, _, rfl, _⟩ := h; rfl)
      | (obtain ⟨_, _, _, _, _, rfl, _⟩ := h; rfl)
      | (obtain ⟨_, _, _, _, _, _, rfl, _⟩ := h; rfl)
      | (obtain ⟨_, _, _, _, _, _, _, rfl, _⟩ := h; rfl)
      | (obtain ⟨_, _, _, _, _, _, _, _, rfl, _⟩ := h; rfl)
      | (obtain ⟨_, _, _, _, _, _, _, _, _, rfl, _⟩ := h; rfl)
      | (obtain ⟨_, _, _, _, _, _, _, _, _, _, rfl, _⟩ := h; rfl)
      | (obtain ⟨_, _, _, _, _, _, _, _, _, _, _, rfl, _⟩ := h; rfl)
      | (obtain ⟨_, _, _, _, _, _, _, _, _, _, _, _, rfl, _⟩ := h; rfl)
      | (obtain ⟨_, _, _, _, _, _, _, _, _, _, _, _, _, rfl, _⟩ := h; rfl)
      | (obtain ⟨_, _, _, _, _, _, _, _, _, _, _, _, _, _, rfl, _⟩ := h; rfl)
      | (obtain ⟨_, _, _, _, _, _, _, _, _, _, _, _, _, _, _, rfl, _⟩ := h; rfl)
      | (obtain ⟨_, _, _, _, _, _, _, _, _, _, _, _, _, _, _, _, rfl, _⟩ := h; rfl)
      | (obtain ⟨_, _, _, _, _, _, _, _, _, _, _, _, _, _, _, _, _, rfl, _⟩ := h; rfl)
      | (obtain ⟨_, _, _, _, _, _, _, _, _, _, _, _, _, _, _, _, _, _, rfl, _⟩ := h; rfl)
      | (obtain ⟨_, _, _, _, _, _, _, _, _, _, _, _, _, _, _, _, _, _, _, rfl, _⟩ := h; rfl)
  · obtain ⟨D, t, d, ps, ever, liv, ks, nb, prs, rfl, x0, z, he, hd, ndp, hl, k⟩ := h
    obtain ⟨dx0, lv0, nd0, ht⟩ := x0.ins
    have klen := z.klen
    have llen := z.llen
    have cl_Ties := T.cl_Ties
    have na_Ties_near := T.na_Ties_near
    have na_Ties_own_ever := T.na_Ties_own_ever
    have na_Ties_own_living := T.na_Ties_own_living
    refine ⟨_, (pss_cons (ps_set (i := 2) sc_the_keeping.nd rfl (Or.inr rfl) (pe_dc (own := [("world", 3)]) (g := (gName 3)) (tt := tYes) rfl sc_the_keeping.nd (k_plist (K := K) rfl (dm0 T.cl_Ties T.me_Ties_living (ok_Ties_living T) (hr.mono (by decide)) T.b_Ties_living passL (pv 0))) (blkOk_by (own := [("world", 3)]) (N := ["ties", "numbers", "found", "world"]) (sc := defScope s_the_keeping) (by decide +kernel)) (fun _ _ _ _ _ => (pg_name (i := 3) sc_the_keeping.nd rfl (Or.inl rfl))) (fun _ _ _ _ _ => pts_nil) (fun _ _ _ _ _ => (pv 3)) (fun _ _ _ _ _ => (pe_dget (u1 hr.r.units) (pv 1) (pv 3) (fun _ _ => rfl)))))
      (pss_cons (ps_for (passes_of rfl) rfl (k_plist (K := K) rfl (dm0 T.cl_Ties T.me_Ties_free (ok_Ties_free T) (hr.mono (by decide)) T.b_Ties_free passL (pv 0))) (pg_name (i := 3) sc_the_keeping.nd rfl (Or.inl rfl))
      (pss_one (ps_asg (pe_ix (k_ix (K := K) rfl) (d1 (ok_best_at T) (hr.mono (by decide)) (by rfl) T.m_best_at T.F_best_at.kp T.b_best_at passL (pa_cons (pv 0) (pa_cons (pv 2) (pa_cons (pv 3) pa_nil)))) pe_int (fun _ _ => rfl)) (pg_sub (pv 2) (pv 3) (set_dict (u1 hr.r.units))))))
      (pss_one (ps_ret (pe_dc (own := [("world", 3)]) (g := (gName 3)) (tt := tYes) rfl sc_the_keeping.nd (k_plist (K := K) rfl (pe_callB (k_sortedD rfl) (by rfl) T.n_sorted (by decide +kernel) (pa_cons (pv 2) pa_nil))) (blkOk_by (own := [("world", 3)]) (N := ["ties", "numbers", "found", "world"]) (sc := defScope s_the_keeping) (by decide +kernel)) (fun _ _ _ _ _ => (pg_name (i := 3) sc_the_keeping.nd rfl (Or.inl rfl))) (fun _ _ _ _ _ => pts_nil) (fun _ _ _ _ _ => (pv 3)) (fun _ _ _ _ _ => (pe_dget (u1 hr.r.units) (pv 2) (pv 3) (fun _ _ => rfl)))))))), ?_⟩
    dsimp only [cxOf, st_1, st_2, st_3, st_4, st_5, st_6, List.length_cons, List.length_nil, List.replicate_succ, List.replicate_zero, Nat.reduceAdd, Nat.reduceSub]
    walk_at "gs"
    refine i_dcL ?_
    walk_at "gs"
    refine ⟨t, ps, ever, liv, ks, nb, rfl, x0, fun L fL => ?_⟩
    have kL := Kp.new (ws := []) (o := HO.lst (liv.map V.int)) fL
    have hL := fresh_at (o := HO.lst (liv.map V.int)) fL
    have hdL := kL.at_ _ _ hd not_nil
    refine i_dlistG (SqL.of hL) (fun R i H' => Kp [] (upd H L (.lst (liv.map V.int))) H' ∧ H' R = some (.dK (((liv.take i).map fun x => (x, look prs x)).map kN))) ?_ ?_ ?_ ?_
    · intro R fR
      exact ⟨Kp.new fR, upd_same⟩
    · rintro R i H' fR _ ⟨kk, _⟩
      exact kk.seqL not_nil (SqL.of hL)
    · rintro R i y H' fR hy ⟨kk, hR⟩
      obtain ⟨x, hx, e⟩ := map_get hy
      subst e
      have hil := (List.getElem?_eq_some_iff.mp hx).1
      have hxl := hl x (List.mem_of_getElem? hx)
      walk_at "gs"
      refine i_dg (kk.at_ _ _ hdL not_nil) (look_mem hxl).2 ?_
      refine ⟨_, .inl x, rfl, hR, small_sz (by rw [List.length_map, List.length_map, List.length_take]; omega), Kp.upd kk fR, ?_⟩
      rw [put_kN (n := look prs x) (by
        rw [List.map_map, show ((fun q : Int × Int => q.1) ∘ fun x : Int => (x, look prs x)) = id from rfl, List.map_id]
        intro m
        obtain ⟨i2, hi2⟩ := List.getElem?_of_mem m
        have l2 := (List.getElem?_eq_some_iff.mp hi2).1
        rw [List.length_take] at l2
        rw [List.getElem?_take_of_lt (by omega)] at hi2
        have := (List.getElem?_inj hil z.nl).mp (hx.trans hi2.symm)
        omega), take_map_snoc hx]
      exact upd_same
    rintro F H1 fF ⟨k1, hF⟩
    rw [List.length_map, List.take_length] at hF
    have fF0 : Fr H F := kL.free fF
    have k01 := Kp.trans kL k1
    have ht1 := k01.at_ _ _ ht not_nil
    obtain ⟨p0, ep0⟩ : ∃ p0, p0 = liv.map fun x => (x, look prs x) := ⟨_, rfl⟩
    rw [← ep0] at hF
    have kp0 : p0.map (·.1) = liv := by
      rw [ep0, List.map_map]
      exact List.map_id _
    have lp0 : p0.length = liv.length := by rw [← kp0, List.length_map]
    have look0 : ∀ x ∈ liv, look p0 x = look prs x := fun x hx => look_eq (by rw [kp0]; exact z.nl) (by rw [ep0]; exact List.mem_map.mpr ⟨x, hx, rfl⟩)
    walk_at "gs"
    refine ⟨t, ps, ever, liv, ks, nb, rfl, x0.kp0 k01, by omega, fun W fs H2 fW k2 hW fo => ?_⟩
    have nfs : fs.Nodup := fo.1.imp fun {a b} lt e => by omega
    have lfs : fs.length ≤ ks.length := sub_len nfs fun x hx => ((fo.2 x).mp hx).1
    have nall : (liv ++ fs).Nodup := List.nodup_append.mpr ⟨z.nl, nfs, fun x hx y hy e => ((fo.2 y).mp hy).2 (e ▸ hx)⟩
    have lall : (liv ++ fs).length ≤ ks.length := sub_len nall fun x hx => (List.mem_append.mp hx).elim (z.sub x) fun h => ((fo.2 x).mp h).1
    rw [List.length_append] at lall
    have k02 := Kp.trans k01 k2
    have hF2 := k2.at_ _ _ hF not_nil
    have nWF : W ≠ F := fun e => by
      rw [e, hF2] at hW
      cases hW
    have start : liv ≠ [] → ∀ nums, NumsOf p0 nums → NumsOf p0 nums ∧ KpOf nums ks nb liv.length p0 := fun _ nums h => ⟨h, by rw [← lp0]; exact KpOf.start⟩
    refine i_each (SqL.of hW) (fun i σ H' => ∃ (o3 : Option V) (pr : List (Int × Int)), σ = [some (.ref t), some (.ref d), some (.ref F), o3] ∧ Kp [F] H2 H' ∧ H' F = some (.dK (pr.map kN)) ∧ pr.map (·.1) = liv ++ fs.take i ∧ (∀ x ∈ liv, look pr x = look prs x) ∧
      (liv ≠ [] → ∀ nums, NumsOf p0 nums → NumsOf pr nums ∧ KpOf nums ks nb liv.length pr)) ?_ ?_ ?_ ?_
    · exact ⟨_, p0, rfl, Kp.refl, hF2, by rw [kp0, List.take_zero, List.append_nil], look0, start⟩
    · rintro i σ H' _ ⟨_, _, _, kk, _⟩
      exact kk.seqL (not_one nWF) (SqL.of hW)
    · rintro i y σ H3 hy ⟨o3, pr, rfl, k3, hF3, kpr, lkp, kpo⟩
      obtain ⟨w, hw, e⟩ := map_get hy
      subst e
      have hil := (List.getElem?_eq_some_iff.mp hw).1
      have hwf := (fo.2 w).mp (List.mem_of_getElem? hw)
      have nli : liv ≠ [] := fun e => by
        have e3 := z.red w hwf.1 hwf.2
        obtain ⟨y, hy⟩ := List.exists_mem_of_length_pos (show 0 < (nb w).length by omega)
        obtain ⟨v, hv, _⟩ := z.leaf hwf.1 hy
        rw [e] at hv
        cases hv
      have npr : w ∉ pr.map (·.1) := fun m => by
        rw [kpr] at m
        rcases List.mem_append.mp m with m | m
        · exact hwf.2 m
        · obtain ⟨i2, hi2⟩ := List.getElem?_of_mem m
          have l2 := (List.getElem?_eq_some_iff.mp hi2).1
          rw [List.length_take] at l2
          rw [List.getElem?_take_of_lt (by omega)] at hi2
          have := (List.getElem?_inj hil nfs).mp (hw.trans hi2.symm)
          omega
      have ndpr : (pr.map (·.1)).Nodup := by
        rw [kpr]
        exact nall.sublist (List.Sublist.append (.refl _) (List.take_sublist _ _))
      have lpr : pr.length = liv.length + i := by
        have := congrArg List.length kpr
        rw [List.length_map, List.length_append, List.length_take] at this
        omega
      have nepr : pr ≠ [] := fun e => by
        rw [e] at lpr
        have := List.length_pos_iff.mpr nli
        simp only [List.length_nil] at lpr
        omega
      have hlp : ∀ x ∈ liv, x ∈ pr.map (·.1) := fun x hx => by rw [kpr]; exact List.mem_append.mpr (.inl hx)
      have k03 : Kp [] H H3 := Kp.dropAll (Kp.trans k02.wide k3) fun b hb => .inr (by rw [List.mem_singleton.mp hb]; exact fF0)
      walk_at "gs"
      refine ⟨D, t, F, ps, ever, liv, ks, nb, w, pr, rfl, x0.kp0 k03, z, by omega, hwf.1, hF3, ndpr, nepr, by omega, fun R nums G ns H4 nof is fR k4 hR pw mem => ?_⟩
      have tw : tl pr w = none := by
        unfold tl
        rw [if_neg npr]
      have ev : vals (tl pr) nums w = nums := by
        unfold vals
        rw [tw]
      obtain ⟨s1, s2⟩ := minL_spec (l := (vals (tl pr) nums w).map (G.low (tl pr) nums)) (fun e => vals_ne (told := tl pr) (nof.ne nepr) w (List.map_eq_nil_iff.mp e))
      obtain ⟨b, hb1, hb2⟩ := List.mem_map.mp s1
      have hbn : b ∈ ns := (mem b).mpr ⟨hb1, hb2⟩
      obtain ⟨n, ns', ens⟩ : ∃ n l, ns = n :: l := by
        cases ns with
        | nil => cases hbn
        | cons a l => exact ⟨a, l, rfl⟩
      have hn := (mem n).mp (by rw [ens]; exact List.mem_cons_self)
      rw [ev] at hn
      have least : ∀ n' ∈ ns, n ≤ n' := fun n' hn' => by
        rw [ens] at hn' pw
        rcases List.mem_cons.mp hn' with e | h
        · omega
        · have := List.rel_of_pairwise_cons pw h
          omega
      have hat : atI (ns.map V.int) 0 = some (.int n) := by
        rw [ens]
        exact at_zero
      refine i_ixL (SqL.of hR) hat ?_
      have hF4 := k4.at_ _ _ hF3 not_nil
      walk_at "gs"
      refine i_setK hF4 (by rw [List.length_map]; omega) ?_
      rw [put_kN npr]
      have bstL : ∀ rs, RowsOf ks nb rs → Lst (tl pr) nums ks rs (G.bst (tl pr) nums w) := fun rs ro => is.lst z hwf.1 hlp nepr nof ro
      have lowL : ∀ n', n' ∈ nums → ∀ rs, RowsOf ks nb rs → Lst (tell1 (tl pr) w n') nums ks rs (G.low (tl pr) nums n') := fun n' hn' rs ro => is.lown z hwf.1 (fun x hx => tl_none (hlp x hx)) nof.tn (nof.ne nepr) (pw_ltQ_nd ro.1) ro.2 tw hn'
      refine ⟨_, pr ++ [(w, n)], rfl, Kp.trans k3 (Kp.trans k4.wide (kp_set hF4 (fun z => z))), upd_same, ?_, fun x hx => ?_, fun nl nums' h0 => ?_⟩
      · rw [List.map_append, kpr, List.take_add_one, hw]
        simp
      · rw [look_app (hlp x hx)]
        exact lkp x hx
      · obtain ⟨h1, h2⟩ := kpo nl nums' h0
        have en := h1.uniq nof
        subst en
        refine ⟨⟨h1.1, fun m => ?_⟩, h2.go npr hn.1 (fun rs ro m hm => ?_) fun n' hn' lt rs ro m hm hm' => ?_⟩
        · rw [List.map_append, List.mem_append, h1.2]
          exact ⟨.inl, fun h => h.elim id fun h => by
            rw [List.map_cons, List.map_nil, List.mem_singleton] at h
            rw [h]
            exact (h1.2 n).mp hn.1⟩
        · have e := hm.uniq (bstL rs ro)
          rw [e, ← hn.2]
          exact lowL n hn.1 rs ro
        · have e1 := hm.uniq (bstL rs ro)
          have e2 := hm'.uniq (lowL n' hn' rs ro)
          have := least n' ((mem n').mpr ⟨by rw [ev]; exact hn', by omega⟩)
          omega
    rintro σ H3 ⟨o3, pr, rfl, k3, hF3, kpr, lkp, kpo⟩
    rw [List.length_map, List.take_length] at kpr
    have k03 : Kp [] H H3 := Kp.dropAll (Kp.trans k02.wide k3) fun b hb => .inr (by rw [List.mem_singleton.mp hb]; exact fF0)
    have ndpr : (pr.map (·.1)).Nodup := by
      rw [kpr]
      exact nall
    walk_at "gs"
    refine i_dcL ?_
    walk_at "gs"
    refine i_sortedN hF3 fun ss S pm pw fS => ?_
    have kS := Kp.new (ws := []) (o := HO.lst (ss.map V.int)) fS
    have hS := fresh_at (o := HO.lst (ss.map V.int)) fS
    have hFS := kS.at_ _ _ hF3 not_nil
    have nss : ss.Nodup := pm.nodup_iff.mpr ndpr
    have lss := pm.length_eq
    rw [kpr, List.length_append] at lss
    have mss : ∀ x, x ∈ ss ↔ x ∈ ks := fun x => by
      rw [pm.mem_iff, kpr, List.mem_append, fo.2]
      exact ⟨fun h => h.elim (z.sub x) fun h => h.1, fun h => by
        by_cases c : x ∈ liv
        · exact .inl c
        · exact .inr ⟨h, c⟩⟩
    refine i_dlistG (SqL.of hS) (fun R i H' => Kp [] (upd H3 S (.lst (ss.map V.int))) H' ∧ H' R = some (.dK (((ss.take i).map fun x => (x, look pr x)).map kN))) ?_ ?_ ?_ ?_
    · intro R fR
      exact ⟨Kp.new fR, upd_same⟩
    · rintro R i H' fR _ ⟨kk, _⟩
      exact kk.seqL not_nil (SqL.of hS)
    · rintro R i y H' fR hy ⟨kk, hR⟩
      obtain ⟨x, hx, e⟩ := map_get hy
      subst e
      have hil := (List.getElem?_eq_some_iff.mp hx).1
      have hxl : x ∈ pr.map (·.1) := pm.mem_iff.mp (List.mem_of_getElem? hx)
      walk_at "gs"
      refine i_dg (kk.at_ _ _ hFS not_nil) (look_mem hxl).2 ?_
      refine ⟨_, .inl x, rfl, hR, small_sz (by rw [List.length_map, List.length_map, List.length_take]; omega), Kp.upd kk fR, ?_⟩
      rw [put_kN (n := look pr x) (by
        rw [List.map_map, show ((fun q : Int × Int => q.1) ∘ fun x : Int => (x, look pr x)) = id from rfl, List.map_id]
        intro m
        obtain ⟨i2, hi2⟩ := List.getElem?_of_mem m
        have l2 := (List.getElem?_eq_some_iff.mp hi2).1
        rw [List.length_take] at l2
        rw [List.getElem?_take_of_lt (by omega)] at hi2
        have := (List.getElem?_inj hil nss).mp (hx.trans hi2.symm)
        omega), take_map_snoc hx]
      exact upd_same
    rintro R H5 fR ⟨k5, hR⟩
    rw [List.length_map, List.take_length] at hR
    have k05 := Kp.trans k03 (Kp.trans kS k5)
    have kout : (ss.map fun x => (x, look pr x)).map (·.1) = ss := by
      rw [List.map_map]
      exact List.map_id _
    refine k R fs pr _ H5 ((Kp.trans k03 kS).free fR) k05 hR fo kpr lkp (fun nl nums h => kpo nl nums (by rw [ep0]; exact h)) ?_ ?_ ?_
    · rw [kout]
      exact strict_of (.refl _) nss pw
    · rw [kout]
      exact mss
    · intro x hx
      exact look_eq (by rw [kout]; exact nss) (List.mem_map.mpr ⟨x, (mss x).mpr hx, rfl⟩)

/-! ### papers -/
def stepsI (xs : List Int) : List (Int × Int) := xs.zip (xs.drop 1)
def lastI (xs : List Int) : Int := xs.getD (xs.length - 1) 0
/-- over one tie the same way about, and unlike aims -/
def Fits (num : Int → Int) (xs ys : List Int) : Prop := ∀ q ∈ stepsI xs, (q.2, q.1) ∉ stepsI ys ∧ (q ∈ stepsI ys → num (lastI xs) ≠ num (lastI ys))
def PapI (liv ks : List Int) (nb : Int → List Int) (num : Int → Int) (ws : List (List Int)) : Prop := (∀ xs ∈ ws, WayI liv ks nb num xs) ∧ ws.Pairwise (Fits num)
def waysD (ws : List (List Int)) : List PyData := ws.map fun xs => .tuple (xs.map PyData.int)
def LstI (d : PyData) (P : List (List Int) → Prop) : Prop := ∃ ws : List (List Int), d = .list (waysD ws) ∧ P ws
theorem waysD_inj : ∀ {us ws : List (List Int)}, waysD us = waysD ws → us = ws
  | [], [], _ => rfl
  | u :: us, w :: ws, h => by
    unfold waysD at h
    rw [List.map_cons, List.map_cons] at h
    injection h with h1 h2
    injection h1 with h1
    rw [ints_inj h1, waysD_inj h2]
  | [], _ :: _, h => by cases h
  | _ :: _, [], h => by cases h
theorem LstI.of {ws : List (List Int)} {P : List (List Int) → Prop} : LstI (.list (waysD ws)) P ↔ P ws := by
  constructor
  · rintro ⟨ys, e, p⟩
    injection e with e
    rw [waysD_inj e]
    exact p
  · exact fun p => ⟨ws, rfl, p⟩
/-- all are tuples of numbers -/
theorem tups_of {P : List Int → Prop} : ∀ {ds : List PyData}, (∀ e ∈ ds, TupI e P) → ∃ ws : List (List Int), ds = waysD ws ∧ ∀ xs ∈ ws, P xs
  | [], _ => ⟨[], rfl, fun x h => nomatch h⟩
  | d :: ds, h => by
    obtain ⟨xs, rfl, p⟩ := h d List.mem_cons_self
    obtain ⟨ws, rfl, q⟩ := tups_of fun e he => h e (List.mem_cons_of_mem _ he)
    refine ⟨xs :: ws, rfl, fun ys hy => ?_⟩
    rcases List.mem_cons.mp hy with rfl | hy
    · exact p
    · exact q ys hy
theorem dx_tup_ints {K : PySem.W.Frag} {H : Hp} {ws : List Addr} {v : V} {xs : List Int} (h : Dx K H ws v (.tuple (xs.map PyData.int))) : ∃ a, v = .ref a ∧ SqT K H a (xs.map V.int) := by
  cases h with
  | tup hs ha =>
    refine ⟨_, rfl, ?_⟩
    have : ∀ {xs : List Int} {vs : List V}, DxAll K H ws vs (xs.map PyData.int) → vs = xs.map V.int := by
      intro xs
      induction xs with
      | nil =>
        intro vs h
        cases h
        rfl
      | cons x xs ih =>
        intro vs h
        rw [List.map_cons] at h
        cases h with
        | cons h1 h2 =>
          cases h1
          rw [ih h2]
          rfl
    rw [this ha] at hs
    exact hs
theorem last_at {xs : List Int} (h : 1 ≤ xs.length) : xs[xs.length - 1]? = some (lastI xs) := by
  unfold lastI
  rw [List.getD_eq_getElem?_getD, List.getElem?_eq_getElem (by omega)]
  rfl
theorem mem_stepsI {xs : List Int} {q : Int × Int} : q ∈ stepsI xs ↔ ∃ i : Nat, xs[i]? = some q.1 ∧ xs[i + 1]? = some q.2 := by
  constructor
  · intro h
    obtain ⟨i, hi⟩ := List.getElem?_of_mem h
    exact ⟨i, zip_step.mp hi⟩
  · rintro ⟨i, h1, h2⟩
    exact List.mem_of_getElem? (zip_step.mpr ⟨h1, h2⟩)
/-! a dict from ties to aims -/
def k2 (q : Int × Int) : List Key := [.inl q.1, .inl q.2]
theorem k2_inj {p q : Int × Int} (h : k2 p = k2 q) : p = q := by
  unfold k2 at h
  injection h with h1 h2
  injection h2 with h2 _
  injection h1 with h1
  injection h2 with h2
  exact Prod.ext h1 h2
theorem k2_kV (q : Int × Int) : (k2 q).map kV = [.int q.1, .int q.2] := rfl
def kL (r : (Int × Int) × Addr × List Int) : List Key × V := (k2 r.1, .ref r.2.1)
theorem valT_none {q : Int × Int} : ∀ {rep : List ((Int × Int) × Addr × List Int)}, q ∉ rep.map (·.1) → valV (rep.map kL) (k2 q) = none
  | [], _ => rfl
  | r :: rep, h => by
    rw [List.map_cons, List.mem_cons, not_or] at h
    rw [List.map_cons, valV_neg (fun z => h.1 (k2_inj z).symm)]
    exact valT_none h.2
theorem valT_some {r : (Int × Int) × Addr × List Int} : ∀ {rep : List ((Int × Int) × Addr × List Int)}, (rep.map (·.1)).Nodup → r ∈ rep → valV (rep.map kL) (k2 r.1) = some (.ref r.2.1)
  | [], _, h => nomatch h
  | p :: rep, nd, h => by
    rw [List.map_cons, List.nodup_cons] at nd
    rcases List.mem_cons.mp h with e | h
    · rw [e, List.map_cons, valV_pos (show (kL p).1 = k2 p.1 from rfl)]
      rfl
    · rw [List.map_cons, valV_neg (fun z => nd.1 (by rw [show p.1 = r.1 from k2_inj z]; exact List.mem_map.mpr ⟨r, h, rfl⟩))]
      exact valT_some nd.2 h
structure Aims (H : Hp) (A : Addr) (L : List ((Int × Int) × Int)) (rep : List ((Int × Int) × Addr × List Int)) : Prop where
  at_ : H A = some (.dT (rep.map kL))
  nd : (rep.map (·.1)).Nodup
  ls : ∀ r ∈ rep, H r.2.1 = some (.lst (r.2.2.map V.int))
  keys : ∀ q, q ∈ rep.map (·.1) ↔ q ∈ L.map (·.1)
  vals : ∀ r ∈ rep, ∀ n, n ∈ r.2.2 ↔ (r.1, n) ∈ L
  len : rep.length ≤ L.length
  lens : ∀ r ∈ rep, r.2.2.length ≤ L.length
section
variable {H H' : Hp} {A : Addr} {L : List ((Int × Int) × Int)} {rep : List ((Int × Int) × Addr × List Int)}
theorem Aims.kp0 (a : Aims H A L rep) (k : Kp [] H H') : Aims H' A L rep :=
  ⟨k.at_ _ _ a.at_ not_nil, a.nd, fun r hr => k.at_ _ _ (a.ls r hr) not_nil, a.keys, a.vals, a.len, a.lens⟩
theorem putT_old {r : (Int × Int) × Addr × List Int} {l : Addr} {ns : List Int} : ∀ {rep : List ((Int × Int) × Addr × List Int)}, r ∈ rep → putK (rep.map kL) (k2 r.1) (.ref l) = (rep.map fun p => if p.1 = r.1 then (p.1, l, ns) else p).map kL := by
  intro rep hr
  unfold putK
  have an : ((rep.map kL).any fun kv => decide (kv.1 = k2 r.1)) = true := List.any_eq_true.mpr ⟨kL r, List.mem_map.mpr ⟨r, hr, rfl⟩, decide_eq_true rfl⟩
  rw [if_pos an, List.map_map, List.map_map]
  refine List.map_congr_left fun p _ => ?_
  show (if k2 p.1 = k2 r.1 then (k2 p.1, V.ref l) else kL p) = kL (if p.1 = r.1 then (p.1, l, ns) else p)
  by_cases c : p.1 = r.1
  · rw [if_pos (congrArg k2 c), if_pos c]
    rfl
  · rw [if_neg (fun z => c (k2_inj z)), if_neg c]
/-- one more aim over a tie that was gone before -/
theorem Aims.old {l : Addr} {n : Int} {r : (Int × Int) × Addr × List Int} (a : Aims H A L rep) (hr : r ∈ rep) (fl : Fr H l) :
    Aims (upd (upd H l (.lst ((r.2.2 ++ [n]).map V.int))) A (.dT (putK (rep.map kL) (k2 r.1) (.ref l)))) A (L ++ [(r.1, n)]) (rep.map fun p => if p.1 = r.1 then (p.1, l, r.2.2 ++ [n]) else p) := by
  have fst : ∀ p : (Int × Int) × Addr × List Int, (if p.1 = r.1 then (p.1, l, r.2.2 ++ [n]) else p).1 = p.1 := fun p => by split <;> rfl
  have nA : l ≠ A := Ne.symm (fr_ne a.at_ fl)
  have em : (rep.map fun p => if p.1 = r.1 then (p.1, l, r.2.2 ++ [n]) else p).map (·.1) = rep.map (·.1) := by
    rw [List.map_map]
    exact List.map_congr_left fun p _ => fst p
  have one : ∀ p ∈ rep, p.1 = r.1 → p = r := fun p hp e => by
    obtain ⟨i, hi⟩ := List.getElem?_of_mem hp
    obtain ⟨j, hj⟩ := List.getElem?_of_mem hr
    have li := (List.getElem?_eq_some_iff.mp hi).1
    have := (List.getElem?_inj (i := i) (j := j) (by rw [List.length_map]; exact li) a.nd).mp (by rw [List.getElem?_map, List.getElem?_map, hi, hj]; exact congrArg some e)
    rw [this, hj] at hi
    exact (Option.some.inj hi).symm
  refine ⟨by rw [putT_old hr (ns := r.2.2 ++ [n])]; exact upd_same, by rw [em]; exact a.nd, fun p hp => ?_, fun q => ?_, fun p hp m => ?_, by rw [List.length_map, List.length_append]; have := a.len; omega, fun p hp => ?_⟩
  · obtain ⟨p0, hp0, rfl⟩ := List.mem_map.mp hp
    by_cases c : p0.1 = r.1
    · rw [if_pos c, upd_ne nA]
      exact upd_same
    · have h := a.ls p0 hp0
      rw [if_neg c, upd_ne (fun z => by rw [z, a.at_] at h; cases h), upd_ne (fr_ne h fl)]
      exact h
  · rw [em, a.keys, List.map_append]
    constructor
    · exact fun h => List.mem_append_left _ h
    · intro h
      rcases List.mem_append.mp h with h | h
      · exact h
      · rw [List.mem_singleton.mp h, ← a.keys]
        exact List.mem_map.mpr ⟨r, hr, rfl⟩
  · obtain ⟨p0, hp0, rfl⟩ := List.mem_map.mp hp
    by_cases c : p0.1 = r.1
    · have e := one p0 hp0 c
      subst e
      rw [if_pos rfl]
      show m ∈ p0.2.2 ++ [n] ↔ (p0.1, m) ∈ _
      rw [List.mem_append, List.mem_append, a.vals p0 hp0, List.mem_singleton, List.mem_singleton]
      constructor
      · rintro (h | h)
        · exact .inl h
        · exact .inr (by rw [h])
      · rintro (h | h)
        · exact .inl h
        · exact .inr (congrArg Prod.snd h)
    · rw [if_neg c, a.vals p0 hp0, List.mem_append, List.mem_singleton]
      exact ⟨.inl, fun h => h.resolve_right fun e => c (Prod.mk.inj e).1⟩
  · obtain ⟨p0, hp0, rfl⟩ := List.mem_map.mp hp
    rw [List.length_append, List.length_singleton]
    by_cases c : p0.1 = r.1
    · rw [if_pos c]
      show (r.2.2 ++ [n]).length ≤ _
      rw [List.length_append, List.length_singleton]
      have := a.lens r hr
      omega
    · rw [if_neg c]
      have := a.lens p0 hp0
      omega
/-- the first aim over a tie -/
theorem Aims.new {l : Addr} {n : Int} {q : Int × Int} (a : Aims H A L rep) (hq : q ∉ rep.map (·.1)) (fl : Fr H l) :
    Aims (upd (upd H l (.lst ([n].map V.int))) A (.dT (putK (rep.map kL) (k2 q) (.ref l)))) A (L ++ [(q, n)]) (rep ++ [(q, l, [n])]) := by
  have nA : l ≠ A := Ne.symm (fr_ne a.at_ fl)
  have nL : q ∉ L.map (·.1) := fun h => hq ((a.keys q).mpr h)
  refine ⟨by rw [putK_new _ (valT_none hq), List.map_append]; exact upd_same, ?_, fun p hp => ?_, fun p => ?_, fun p hp m => ?_, by rw [List.length_append, List.length_append]; have := a.len; show rep.length + 1 ≤ L.length + 1; omega, fun p hp => ?_⟩
  · rw [List.map_append]
    exact List.nodup_append.mpr ⟨a.nd, by simp, fun x hx y hy e => hq (by have e2 : y = q := List.mem_singleton.mp hy; rw [← e2, ← e]; exact hx)⟩
  · rcases List.mem_append.mp hp with h | h
    · have e := a.ls p h
      rw [upd_ne (fun z => by rw [z, a.at_] at e; cases e), upd_ne (fr_ne e fl)]
      exact e
    · rw [List.mem_singleton.mp h, upd_ne nA]
      exact upd_same
  · rw [List.map_append, List.map_append, List.mem_append, List.mem_append, a.keys]
    exact Iff.rfl
  · rcases List.mem_append.mp hp with h | h
    · rw [a.vals p h, List.mem_append, List.mem_singleton]
      refine ⟨.inl, fun h2 => h2.resolve_right fun e => hq ?_⟩
      have e2 : p.1 = q := (Prod.mk.inj e).1
      rw [← e2]
      exact List.mem_map.mpr ⟨p, h, rfl⟩
    · rw [List.mem_singleton.mp h]
      show m ∈ [n] ↔ (q, m) ∈ _
      rw [List.mem_singleton, List.mem_append, List.mem_singleton]
      constructor
      · intro e
        exact .inr (by rw [e])
      · rintro (h2 | h2)
        · exact absurd (List.mem_map.mpr ⟨_, h2, rfl⟩) nL
        · exact congrArg Prod.snd h2
  · rw [List.length_append, List.length_singleton]
    rcases List.mem_append.mp hp with h | h
    · have := a.lens p h
      omega
    · rw [List.mem_singleton.mp h]
      show 1 ≤ _
      omega
end

theorem i_dnewT {σ : L2.St} {H : Hp} {Q : VK} (h : New H fun p => Q (.ref p) (upd H p (.dT []))) : tDNewT σ H Q := h
theorem tg_lst {K : PySem.W.Frag} {H : Hp} {ws : List Addr} {v : V} {d : PyData} (t : Tg K H ws v d) (h : kLst d = true) : ∃ a xs ds, v = .ref a ∧ d = .list ds ∧ a ∉ ws ∧ H a = some (.lst xs) ∧ DxAll K H ws xs ds := by
  rcases t with t | ⟨rfl, _⟩
  · cases t with
    | lst n hs ha => exact ⟨_, _, _, rfl, rfl, n, hs, ha⟩
    | non => cases h
    | bl => cases h
    | int => cases h
    | str => cases h
    | tup => cases h
  · cases h
def aimsL (num : Int → Int) (us : List (List Int)) : List ((Int × Int) × Int) := us.flatMap fun u => (stepsI u).map fun q => (q, num (lastI u))
theorem mem_aimsL {num : Int → Int} {us : List (List Int)} {q : Int × Int} {n : Int} : (q, n) ∈ aimsL num us ↔ ∃ w ∈ us, q ∈ stepsI w ∧ num (lastI w) = n := by
  unfold aimsL
  rw [List.mem_flatMap]
  constructor
  · rintro ⟨w, hw, h⟩
    obtain ⟨p, hp, e⟩ := List.mem_map.mp h
    obtain ⟨e1, e2⟩ := Prod.mk.inj e
    exact ⟨w, hw, by rw [← e1]; exact hp, e2⟩
  · rintro ⟨w, hw, h, e⟩
    exact ⟨w, hw, List.mem_map.mpr ⟨q, h, by rw [e]⟩⟩
theorem key_aimsL {num : Int → Int} {us : List (List Int)} {q : Int × Int} : q ∈ (aimsL num us).map (·.1) ↔ ∃ w ∈ us, q ∈ stepsI w := by
  rw [List.mem_map]
  constructor
  · rintro ⟨⟨p, n⟩, h, rfl⟩
    obtain ⟨w, hw, h, _⟩ := mem_aimsL.mp h
    exact ⟨w, hw, h⟩
  · rintro ⟨w, hw, h⟩
    exact ⟨(q, num (lastI w)), mem_aimsL.mpr ⟨w, hw, h, rfl⟩, rfl⟩
theorem aimsL_len {num : Int → Int} {m : Nat} : ∀ {us : List (List Int)}, (∀ w ∈ us, w.length ≤ m) → (aimsL num us).length ≤ us.length * m
  | [], _ => Nat.zero_le _
  | u :: us, h => by
    have ih := aimsL_len (num := num) (us := us) fun w hw => h w (List.mem_cons_of_mem _ hw)
    have e : aimsL num (u :: us) = ((stepsI u).map fun q => (q, num (lastI u))) ++ aimsL num us := by
      unfold aimsL
      rw [List.flatMap_cons]
    have h1 := h u List.mem_cons_self
    have h2 : (stepsI u).length ≤ u.length := by
      unfold stepsI
      rw [zip_len]
      omega
    rw [e, List.length_append, List.length_map, List.length_cons, Nat.add_mul, Nat.one_mul]
    omega
theorem aimsL_snoc {num : Int → Int} {us : List (List Int)} {u : List Int} : aimsL num (us ++ [u]) = aimsL num us ++ (stepsI u).map fun q => (q, num (lastI u)) := by
  unfold aimsL
  rw [List.flatMap_append]
  simp
theorem fits_snoc {num : Int → Int} {us : List (List Int)} {u : List Int} (p : us.Pairwise (Fits num)) (h : ∀ q ∈ stepsI u, ∀ w ∈ us, (q.2, q.1) ∉ stepsI w ∧ (q ∈ stepsI w → num (lastI w) ≠ num (lastI u))) : (us ++ [u]).Pairwise (Fits num) := by
  refine List.pairwise_append.mpr ⟨p, List.pairwise_singleton _ _, fun w hw v hv => ?_⟩
  rw [List.mem_singleton.mp hv]
  exact fun q hq => ⟨fun h2 => (h _ h2 w hw).1 hq, fun h2 => (h q h2 w hw).2 hq⟩
theorem fits_get {num : Int → Int} {us : List (List Int)} {i : Nat} {u w : List Int} (p : us.Pairwise (Fits num)) (hu : us[i]? = some u) (hw : w ∈ us.take i) : Fits num w u := by
  have e : us = us.take i ++ us.drop i := (List.take_append_drop i us).symm
  rw [e] at p
  refine (List.pairwise_append.mp p).2.2 w hw u (List.mem_of_getElem? (i := 0) ?_)
  rw [List.getElem?_drop]
  exact hu
def sp_ispaper (K : PySem.W.Frag) (C : Addr) : Sp := fun vs H Q _ => ∃ (D : Int → Int → Int) (t : Addr) (ps : List Addr) (ever : Int) (liv ks : List Int) (nb : Int → List Int) (v : V) (d : PyData) (ws : List Addr) (dn : Addr) (prs : List (Int × Int)), vs = [.ref t, .ref dn, v] ∧ TiesAt C H t ps ever liv ks nb ∧ Tr3 D ever liv ks nb ∧ ever ≤ 200 ∧ Tg K H ws v d ∧ (∀ ds, d = .list ds → ds.length ≤ 200 ∧ ∀ e ∈ ds, ∀ es, e = .tuple es → es.length ≤ 1000) ∧
  H dn = some (.dK (prs.map kN)) ∧ prs.map (·.1) = liv ∧ ∀ b H', Kp [] H H' → (b = true ↔ LstI d (PapI liv ks nb (look prs))) → Q (.bl b) H'
theorem sc_is_paper : FnScope ["ties", "numbers", "thing", "aims", "way", "aim", "one", "other", "step"] ["ties", "numbers", "thing"] (defScope s_is_paper) :=
  ⟨rfl, rfl, rfl, by decide +kernel, rfl, by decide +kernel, by decide +kernel⟩
theorem ok_is_paper {P : Program} {w : World} {K : PySem.W.Frag} {mg : Str → Option Value} {base : Heap} (T : Txt K mg) :
    FnG P w K mg base 6 T.a_is_paper T.d_is_paper ["ties", "numbers", "thing"] (sp_ispaper K T.c_Ties) := by
  refine okD T.F_is_paper sc_is_paper (fun vs H Q E h => ?_) (fun cdv A outer s H vs Q E hr h => ?_)
  · first
      | (obtain ⟨_, rfl, _⟩ := h; rfl)
      | (obtain ⟨_, _, rfl, _⟩ := h; rfl)
      | (obtain ⟨_, _, _, rfl, _⟩ := h; rfl)
      | (obtain ⟨_, _, _, _, rfl, _⟩ := h; rfl)
      | (obtain ⟨_, _, _, _, _, rfl, _⟩ := h; rfl)
      | (obtain ⟨_, _, _, _, _, _, rfl, _⟩ := h; rfl)
      | (obtain ⟨_, _, _, _, _, _, _, rfl, _⟩ := h; rfl)
      | (obtain ⟨_, _, _, _, _, _, _, _, rfl, _⟩ := h; rfl)
      | (obtain ⟨_, _, _, _, _, _, _, _, _, rfl, _⟩ := h; rfl)
      | (obtain ⟨_, _, _, _, _, _, _, _, _, _, rfl, _⟩ := h; rfl)
      | (obtain ⟨_, _, _, _, _, _, _, _, _, _, _, rfl, _⟩ := h; rfl)
      | (obtain ⟨_, _, _, _, _, _, _, _, _, _, _, _, rfl, _⟩ := h; rfl)
      | (obtain ⟨_, _, _, _, _, _, _, _, _, _, _, _, _, rfl, _⟩ := h; rfl)
      | (obtain ⟨_, _, _, _, _, _, _, _, _, _, _, _, _, _, rfl, _⟩ := h; rfl)
      | (obtain ⟨_, _, _, _, _, _, _, _, _, _, _, _, _, _, _, rfl, _⟩ := h; rfl)
      | (obtain ⟨_, _, _, _, _, _, _, _, _, _, _, _, _, _, _, _, rfl, _⟩ := h; rfl)
      | (obtain ⟨_, _, _, _, _, _, _, _, _, _, _, _, _, _, _, _, _, rfl, _⟩ := h; rfl)
      | (obtain ⟨_, _, _, _, _, _, _, _, _, _, _, _, _, _, _, _, _, _, rfl, _⟩ := h; rfl)
      | (obtain ⟨_, _, _, _, _, _, _, _, _, _, _, _, _, _, _, _, _, _, _, rfl, _⟩ := h; rfl)
  · obtain ⟨D, t, ps, ever, liv, ks, nb, v, d, ws, dn, prs, rfl, x, z, he, tg, small, hdn, kp, k⟩ := h
    have no : ∀ {P : Prop}, ¬ P → (false = true ↔ P) := fun {P} n => ⟨fun z => (nomatch z), fun p => absurd p n⟩
    have cl_Ties := T.cl_Ties
    have na_Ties_near := T.na_Ties_near
    have na_Ties_own_ever := T.na_Ties_own_ever
    have na_Ties_own_living := T.na_Ties_own_living
    refine ⟨_, (pss_cons (ps_if (PW.pt (pw_or (pt_not (pt_val (pe_callB (k_isi (K := K) rfl) (by rfl) T.n_isinstance (by decide +kernel) (pa_cons (pv 2) (pa_cons (pe_bltn (v := .ty "list") (by rfl) T.n_list (by decide +kernel) rfl) pa_nil))))) (pw_or1 (pt_not (pt_val (pe_callB (k_all (K := K) rfl rfl) (by rfl) T.n_all (by decide +kernel) (pa_cons (pe_lc (own := [("way", 4)]) (g := (gName 4)) (tt := tYes) rfl sc_is_paper.nd (k_plist (K := K) rfl (pv 2)) (blkOk_by (own := [("way", 4)]) (N := ["ties", "numbers", "thing", "aims", "way", "aim", "one", "other", "step"]) (sc := defScope s_is_paper) (by decide +kernel)) (fun _ _ _ _ _ => (pg_name (i := 4) sc_is_paper.nd rfl (Or.inl rfl))) (fun _ _ _ _ _ => pts_nil) (fun _ _ _ _ _ => (d1 (ok_is_way T) (hr.mono (by decide)) (by rfl) T.m_is_way T.F_is_way.kp T.b_is_way passL (pa_cons (pv 0) (pa_cons (pv 1) (pa_cons (pv 4) pa_nil)))))) pa_nil))))))) (pss_one (ps_ret pe_bl)) pss_nil)
      (pss_cons (ps_set (i := 3) sc_is_paper.nd rfl (Or.inl rfl) pe_dnewT)
      (pss_cons (ps_for (passes_of rfl) rfl (k_plist (K := K) rfl (pv 2)) (pg_name (i := 4) sc_is_paper.nd rfl (Or.inl rfl))
      (pss_cons (ps_set (i := 5) sc_is_paper.nd rfl (Or.inl rfl) (pe_dget (u1 hr.r.units) (pv 1) (pe_ix (k_ix (K := K) rfl) (pv 4) (pe_un un_neg pe_int) (fun _ _ => rfl)) (fun _ _ => rfl)))
      (pss_cons (ps_for (passes_of rfl) rfl (k_plist (K := K) rfl (d1 (ok_steps_of T) (hr.mono (by decide)) (by rfl) T.m_steps_of T.F_steps_of.kp T.b_steps_of passL (pa_cons (pv 4) pa_nil))) (k_gtup (K := K) 2 rfl rfl (pgs_cons (pg_name (i := 6) sc_is_paper.nd rfl (Or.inl rfl)) (pgs_cons (pg_name (i := 7) sc_is_paper.nd rfl (Or.inl rfl)) pgs_nil)))
      (pss_one (ps_if (PW.pt (pw_or (pt_cmp (pc_din (u1 hr.r.units) (pe_tup (pa_cons (pv 7) (pa_cons (pv 6) pa_nil))) (pv 3))) (pw_or1 (pt_cmpR (k_in (K := K) rfl) (pv 5) (pe_dget2 (u1 hr.r.units) (pv 3) (pe_tup (pa_cons (pv 6) (pa_cons (pv 7) pa_nil))) (pe_lst pa_nil) ⟨rfl, rfl, rfl, rfl⟩) (rfl))))) (pss_one (ps_ret pe_bl)) pss_nil)))
      (pss_one (ps_for (passes_of rfl) rfl (k_plist (K := K) rfl (d1 (ok_steps_of T) (hr.mono (by decide)) (by rfl) T.m_steps_of T.F_steps_of.kp T.b_steps_of passL (pa_cons (pv 4) pa_nil))) (pg_name (i := 8) sc_is_paper.nd rfl (Or.inl rfl))
      (pss_one (ps_asg (pe_op (k_add (K := K) rfl) (pe_dget2 (u1 hr.r.units) (pv 3) (pv 8) (pe_lst pa_nil) ⟨rfl, rfl, rfl, rfl⟩) (pe_lst (pa_cons (pv 5) pa_nil))) (pg_sub (pv 3) (pv 8) (set_dict (u1 hr.r.units))))))))))
      (pss_one (ps_ret pe_bl))))), ?_⟩
    dsimp only [cxOf, st_1, st_2, st_3, st_4, st_5, st_6, List.length_cons, List.length_nil, List.replicate_succ, List.replicate_zero, Nat.reduceAdd, Nat.reduceSub]
    walk_at "gs"
    refine i_isA (Any.tg tg) (kit_lst d) ?_
    walk_at "gs"
    refine i_boN (fun c => ?_) (fun c => ?_)
    · walk_at "gs"
      exact k false H Kp.refl (no fun ⟨xs, e, _⟩ => by rw [e] at c; cases c)
    obtain ⟨a, xs, ds, rfl, rfl, _, hs, da⟩ := tg_lst tg c
    obtain ⟨sm, sm2⟩ := small ds rfl
    have lx := dxa_len da
    walk_at "gs"
    refine i_elts (SqL.of hs) (fun G i H' => Kp [] H H' ∧ ∃ bs : List Bool, H' G = some (.lst (bs.map V.bl)) ∧ bs.length = i ∧ ∀ (j : Nat) b e, bs[j]? = some b → ds[j]? = some e → (b = true ↔ TupI e (WayI liv ks nb (look prs)))) ?_ ?_ ?_ ?_
    · intro G fG
      exact ⟨Kp.new fG, [], upd_same, rfl, fun j b e h => by simp at h⟩
    · rintro G i H' fG _ ⟨kk, _⟩
      exact SqL.of (kk.at_ _ _ hs not_nil)
    · rintro G i y H' fG hy ⟨kk, bs, hG, lb, hb⟩
      obtain ⟨e, he2, hdx⟩ := dxa_get da hy
      have il := (List.getElem?_eq_some_iff.mp he2).1
      walk_at "gs"
      refine ⟨D, t, ps, ever, liv, ks, nb, y, e, ws, dn, prs, rfl, x.kp0 kk, z, he, .inl (hdx.kp kk.wide), sm2 e (List.mem_of_getElem? he2), kk.at_ _ _ hdn not_nil, kp, fun b H2 k2 hb2 => ?_⟩
      have hG2 := k2.at_ _ _ hG not_nil
      walk_at "gs"
      refine ⟨_, hG2, small_sz (by rw [List.length_map]; omega), Kp.upd (Kp.trans kk k2) fG, bs ++ [b], by rw [List.map_append]; exact upd_same, by rw [List.length_append, lb]; rfl, fun j b' e' h1 h2 => ?_⟩
      by_cases c3 : j < bs.length
      · rw [List.getElem?_append_left c3] at h1
        exact hb j b' e' h1 h2
      · rw [List.getElem?_append_right (by omega)] at h1
        have j0 : j = bs.length := by
          have := (List.getElem?_eq_some_iff.mp h1).1
          rw [List.length_singleton] at this
          omega
        rw [j0, Nat.sub_self] at h1
        cases h1
        rw [j0, lb, he2] at h2
        cases h2
        exact hb2
    rintro G H1 fG ⟨k1, bs, hG, lb, hb⟩
    walk_at "gs"
    refine i_all (SqL.of hG) ?_
    have alls : (bs.all id = true) ↔ ∀ e ∈ ds, TupI e (WayI liv ks nb (look prs)) := by
      rw [List.all_eq_true]
      constructor
      · intro h e he2
        obtain ⟨j, hj⟩ := List.getElem?_of_mem he2
        have lj := (List.getElem?_eq_some_iff.mp hj).1
        have hb1 : bs[j]? = some bs[j] := List.getElem?_eq_getElem (by omega)
        exact (hb j _ e hb1 hj).mp (h _ (List.mem_of_getElem? hb1))
      · intro h b hm
        obtain ⟨j, hj⟩ := List.getElem?_of_mem hm
        have lj := (List.getElem?_eq_some_iff.mp hj).1
        have hd1 : ds[j]? = some ds[j] := List.getElem?_eq_getElem (by omega)
        exact (hb j b _ hj hd1).mpr (h _ (List.mem_of_getElem? hd1))
    walk_at "gs"
    refine i_boN (fun c2 => ?_) (fun c2 => ?_)
    · walk_at "gs"
      exact k false H1 k1 (no fun ⟨us, e, w⟩ => by
        injection e with e
        rw [alls.mpr fun e' he' => by
          rw [e] at he'
          obtain ⟨u, hu, rfl⟩ := List.mem_map.mp he'
          exact ⟨u, rfl, w.1 u hu⟩] at c2
        cases c2)
    obtain ⟨us, rfl, pw⟩ := tups_of (alls.mp c2)
    clear alls hb c2
    rw [LstI.of] at k
    have lus : (waysD us).length = us.length := List.length_map ..
    have item : ∀ (j : Nat) y, xs[j]? = some y → ∃ a u, y = .ref a ∧ us[j]? = some u ∧ SqT K H a (u.map V.int) := fun j y hy => by
      obtain ⟨e, he2, hdx⟩ := dxa_get da hy
      obtain ⟨u, hu, e2⟩ := map_get he2
      rw [e2] at hdx
      obtain ⟨a1, e3, h3⟩ := dx_tup_ints hdx
      exact ⟨a1, u, e3, hu, h3⟩
    have klen := z.klen
    have wlen : ∀ w ∈ us, w.length ≤ 200 := fun w hw => by
      have := sub_len (pw w hw).1.2.2.1 (pw w hw).1.2.1
      omega
    rw [lus] at lx sm
    walk_at "gs"
    refine i_dnewT (i_new fun A fA => ?_)
    have kA := Kp.new (ws := []) (o := HO.dT []) fA
    have hA := fresh_at (o := HO.dT []) fA
    obtain ⟨H2, e2⟩ : ∃ H2, H2 = upd H1 A (.dT []) := ⟨_, rfl⟩
    rw [← e2] at kA hA ⊢
    have k02 := Kp.trans k1 kA
    have hdn1 := k1.at_ _ _ hdn not_nil
    have hs1 := k1.at_ _ _ hs not_nil
    have nAd : dn ≠ A := fr_ne hdn1 fA
    have nAa : a ≠ A := fr_ne hs1 fA
    have hdn2 := k02.at_ _ _ hdn not_nil
    have hs2 := k02.at_ _ _ hs not_nil
    have drop : ∀ {H' : Hp}, Kp [A] H2 H' → Kp [] H H' := fun {H'} kk => Kp.trans k1 ((Kp.trans (kA.wide (ws := [A])) kk).dropAll fun b hb => .inr (by rw [List.mem_singleton.mp hb]; exact fA))
    walk_at "gs"
    refine i_each (SqL.of hs2) (fun i σ H' => ∃ (o4 o5 o6 o7 o8 : Option V) (rep : List ((Int × Int) × Addr × List Int)), σ = [some (.ref t), some (.ref dn), some (.ref a), some (.ref A), o4, o5, o6, o7, o8] ∧ Kp [A] H2 H' ∧ Aims H' A (aimsL (look prs) (us.take i)) rep ∧ (us.take i).Pairwise (Fits (look prs))) ?_ ?_ ?_ ?_
    · exact ⟨_, _, _, _, _, [], rfl, Kp.refl, ⟨hA, List.nodup_nil, fun r h => (nomatch h), fun q => Iff.rfl, fun r h => (nomatch h), Nat.le_refl _, fun r h => (nomatch h)⟩, .nil⟩
    · rintro i σ H' _ ⟨_, _, _, _, _, _, _, kk, _⟩
      exact SqL.of (kk.at_ _ _ hs2 (not_one nAa))
    · rintro i y σ H3 hy ⟨o4, o5, o6, o7, o8, rep, rfl, k3, am, pf⟩
      obtain ⟨a1, u, rfl, hu, hs0⟩ := item i y hy
      have il := (List.getElem?_eq_some_iff.mp hu).1
      have um := List.mem_of_getElem? hu
      have wu := pw u um
      have k03 := drop k3
      have hdn3 := k03.at_ _ _ hdn not_nil
      have hs3 := k03.seqT hs0
      have l2 := wu.1.1
      have at1 := atI_end (last_at (xs := u) (by omega))
      have lv := wu.2.2.1 _ (last_at (xs := u) (by omega))
      have v1 := (look_mem (w := lastI u) (ps := prs) (by rw [kp]; exact lv)).2
      have Ll := aimsL_len (num := look prs) (us := us.take i) fun w hw => wlen w (List.mem_of_mem_take hw)
      have Ll2 : (us.take i).length ≤ 200 := by rw [List.length_take]; omega
      have Ll3 : (aimsL (look prs) (us.take i)).length ≤ 40000 := Nat.le_trans Ll (Nat.le_trans (Nat.mul_le_mul_right 200 Ll2) (by decide))
      have lst : (stepsI u).length ≤ 200 := by
        have := wlen u um
        unfold stepsI
        rw [zip_len]
        omega
      have bad : ∀ {H' : Hp}, Kp [] H3 H' → (∃ q ∈ stepsI u, ∃ w ∈ us.take i, ((q.2, q.1) ∈ stepsI w ∨ (q ∈ stepsI w ∧ look prs (lastI w) = look prs (lastI u)))) → Q (.bl false) H' := fun {H'} kk ⟨q, hq, w, hw, h⟩ => k false H' (Kp.trans k03 kk) (no fun pap => by
        have f := fits_get pap.2 hu hw
        rcases h with h | ⟨h, e⟩
        · exact (f _ h).1 hq
        · exact (f q h).2 hq e)
      obtain ⟨aim, eaim⟩ : ∃ aim, aim = look prs (lastI u) := ⟨_, rfl⟩
      rw [← eaim] at v1 bad
      walk_at "gs"
      refine i_dg hdn3 v1 ?_
      walk_at "gs"
      refine ⟨a1, u, rfl, hs3, by have := wlen u um; omega, fun S H4 fS k4 _ ⟨ys, hS, pS⟩ => ?_⟩
      have am4 := am.kp0 k4
      have ly := pS.len
      walk_at "gs"
      refine i_each (SqL.of hS) (fun j σ H' => ∃ (o6 o7 : Option V), σ = [some (.ref t), some (.ref dn), some (.ref a), some (.ref A), some (.ref a1), some (.int aim), o6, o7, o8] ∧ Kp [] H4 H' ∧ ∀ q ∈ (stepsI u).take j, ∀ w ∈ us.take i, (q.2, q.1) ∉ stepsI w ∧ (q ∈ stepsI w → look prs (lastI w) ≠ aim)) ?_ ?_ ?_ ?_
      · exact ⟨_, _, rfl, Kp.refl, fun q h => by rw [List.take_zero] at h; cases h⟩
      · rintro j σ H' _ ⟨_, _, _, kk, _⟩
        exact SqL.of (kk.at_ _ _ hS not_nil)
      · rintro j y2 σ H5 hy2 ⟨o6, o7, rfl, k5, ok⟩
        obtain ⟨T0, q, hq, rfl, hT⟩ := prs_get (pS.kp k5) hy2
        have hqm : q ∈ stepsI u := List.mem_of_getElem? hq
        have hsT : SqT K H5 T0 [V.int q.1, V.int q.2] := SqT.of hT
        have am5 := am4.kp0 k5
        have k35 := Kp.trans k4 k5
        walk_at "gs"
        refine i_new fun U fU => ?_
        have kU := Kp.new (ws := []) (o := HO.tup [V.int q.2, V.int q.1]) fU
        have hU := fresh_at (o := HO.tup [V.int q.2, V.int q.1]) fU
        obtain ⟨H6, e6⟩ : ∃ H6, H6 = upd H5 U (.tup [V.int q.2, V.int q.1]) := ⟨_, rfl⟩
        rw [← e6] at kU hU ⊢
        have am6 := am5.kp0 kU
        walk_at "gs"
        refine ⟨A, _, rfl, DGet.t (k := k2 (q.2, q.1)) am6.at_ hU, ?_⟩
        by_cases c3 : (q.2, q.1) ∈ rep.map (·.1)
        · obtain ⟨r, hr, e⟩ := List.mem_map.mp c3
          rw [← e, valT_some am6.nd hr, Option.isSome_some]
          walk_at "gs"
          obtain ⟨w, hw, h⟩ := key_aimsL.mp ((am6.keys _).mp c3)
          exact bad (Kp.trans k35 kU) ⟨q, hqm, w, hw, .inl h⟩
        rw [valT_none c3, Option.isSome_none]
        have nw : ∀ w ∈ us.take i, (q.2, q.1) ∉ stepsI w := fun w hw h => c3 ((am6.keys _).mpr (key_aimsL.mpr ⟨w, hw, h⟩))
        walk_at "gs"
        refine i_dget2 ?_
        walk_at "gs"
        refine ⟨A, rfl, .inr ⟨_, Rd.of am6.at_⟩, ?_⟩
        walk_at "gs"
        refine i_new fun U2 fU2 => ?_
        have kU2 := Kp.new (ws := []) (o := HO.tup [V.int q.1, V.int q.2]) fU2
        have hU2 := fresh_at (o := HO.tup [V.int q.1, V.int q.2]) fU2
        obtain ⟨H7, e7⟩ : ∃ H7, H7 = upd H6 U2 (.tup [V.int q.1, V.int q.2]) := ⟨_, rfl⟩
        rw [← e7] at kU2 hU2 ⊢
        walk_at "gs"
        refine i_new fun E fE => ?_
        have kE := Kp.new (ws := []) (o := HO.lst []) fE
        have hE := fresh_at (o := HO.lst []) fE
        have hU3 := kE.at_ _ _ hU2 not_nil
        obtain ⟨H8, e8⟩ : ∃ H8, H8 = upd H7 E (.lst []) := ⟨_, rfl⟩
        rw [← e8] at kE hE hU3 ⊢
        have am8 := am6.kp0 (Kp.trans kU2 kE)
        have k38 := Kp.trans k35 (Kp.trans kU (Kp.trans kU2 kE))
        have k48 := Kp.trans k5 (Kp.trans kU (Kp.trans kU2 kE))
        refine ⟨_, DGet.t (k := k2 q) am8.at_ hU3, ?_⟩
        have fin : (∀ w ∈ us.take i, q ∈ stepsI w → look prs (lastI w) ≠ aim) → ∀ q' ∈ (stepsI u).take (j + 1), ∀ w ∈ us.take i, (q'.2, q'.1) ∉ stepsI w ∧ (q' ∈ stepsI w → look prs (lastI w) ≠ aim) := fun h q' hq' w hw => by
          rw [List.take_add_one, show (stepsI u)[j]? = some q from hq] at hq'
          rcases List.mem_append.mp hq' with h1 | h1
          · exact ok q' h1 w hw
          · rw [List.mem_singleton.mp h1]
            exact ⟨nw w hw, h w hw⟩
        by_cases c4 : q ∈ rep.map (·.1)
        · obtain ⟨r, hr, e⟩ := List.mem_map.mp c4
          subst e
          rw [valT_some am8.nd hr]
          have hl := am8.ls r hr
          show rIn K false (V.int aim) (.ref r.2.1) H8 _
          refine i_inI (SqL.of hl) ?_
          walk_at "gs"
          refine i_dec (fun c5 => ?_) (fun c5 => ?_)
          · walk_at "gs"
            obtain ⟨w, hw, h, e⟩ := mem_aimsL.mp ((am8.vals r hr aim).mp c5)
            exact bad k38 ⟨r.1, hqm, w, hw, .inr ⟨h, e⟩⟩
          · walk_at "gs"
            exact ⟨_, _, rfl, k48, fin fun w hw h e => c5 ((am8.vals r hr aim).mpr (mem_aimsL.mpr ⟨w, hw, h, e⟩))⟩
        · rw [valT_none c4]
          show rIn K false (V.int aim) (.ref E) H8 _
          refine i_inI (ns := []) (SqL.of hE) ?_
          walk_at "gs"
          refine i_dec (fun c5 => (nomatch c5)) (fun c5 => ?_)
          walk_at "gs"
          exact ⟨_, _, rfl, k48, fin fun w hw h => absurd ((am8.keys _).mpr (key_aimsL.mpr ⟨w, hw, h⟩)) c4⟩
      · rintro σ H5 ⟨o6, o7, rfl, k5, ok⟩
        rw [ly, show (u.zip (u.drop 1)) = stepsI u from rfl, List.take_length] at ok
        have k35 := Kp.trans k4 k5
        walk_at "gs"
        refine ⟨a1, u, rfl, k35.seqT hs3, by have := wlen u um; omega, fun S2 H6 fS2 k6 _ ⟨ys2, hS2, pS2⟩ => ?_⟩
        have k36 := Kp.trans k35 k6
        have am6 := am.kp0 k36
        have ly2 := pS2.len
        have nS2 : S2 ≠ A := Ne.symm (fr_ne (am.kp0 k35).at_ fS2)
        walk_at "gs"
        refine i_each (SqL.of hS2) (fun j σ H' => ∃ (o8 : Option V) (rep : List ((Int × Int) × Addr × List Int)), σ = [some (.ref t), some (.ref dn), some (.ref a), some (.ref A), some (.ref a1), some (.int aim), o6, o7, o8] ∧ Kp [A] H6 H' ∧ Aims H' A (aimsL (look prs) (us.take i) ++ ((stepsI u).take j).map fun q => (q, aim)) rep) ?_ ?_ ?_ ?_
        · exact ⟨_, rep, rfl, Kp.refl, by rw [List.take_zero, List.map_nil, List.append_nil]; exact am6⟩
        · rintro j σ H' _ ⟨_, _, _, kk, _⟩
          exact SqL.of (kk.at_ _ _ hS2 (not_one nS2))
        · rintro j y2 σ H7 hy2 ⟨o8, rep, rfl, k7, am7⟩
          obtain ⟨T0, q, hq, rfl, hT⟩ := prs_get (pS2.kp k7) hy2
          have jl := (List.getElem?_eq_some_iff.mp hq).1
          have hsT : SqT K H7 T0 [V.int q.1, V.int q.2] := SqT.of hT
          have Lj : (aimsL (look prs) (us.take i) ++ ((stepsI u).take j).map fun q => (q, aim)).length ≤ 41000 := by
            rw [List.length_append, List.length_map, List.length_take]
            omega
          have step : aimsL (look prs) (us.take i) ++ ((stepsI u).take (j + 1)).map (fun q => (q, aim)) = (aimsL (look prs) (us.take i) ++ ((stepsI u).take j).map fun q => (q, aim)) ++ [(q, aim)] := by
            rw [List.take_add_one, show (stepsI u)[j]? = some q from hq, Option.toList_some, List.map_append, List.append_assoc]
            rfl
          walk_at "gs"
          refine i_dget2 ?_
          walk_at "gs"
          refine ⟨A, rfl, .inr ⟨_, Rd.of am7.at_⟩, ?_⟩
          walk_at "gs"
          refine i_new fun E fE => ?_
          have kE := Kp.new (ws := []) (o := HO.lst []) fE
          have hE := fresh_at (o := HO.lst []) fE
          have hT8 := kE.at_ _ _ hT not_nil
          obtain ⟨H8, e8⟩ : ∃ H8, H8 = upd H7 E (.lst []) := ⟨_, rfl⟩
          rw [← e8] at kE hE hT8 ⊢
          have am8 := am7.kp0 kE
          refine ⟨_, DGet.t (k := k2 q) am8.at_ hT8, ?_⟩
          by_cases c4 : q ∈ rep.map (·.1)
          · obtain ⟨r, hr, e⟩ := List.mem_map.mp c4
            subst e
            rw [valT_some am8.nd hr, Option.getD_some]
            have lr := am8.lens r hr
            have rl := am8.len
            walk_at "gs"
            refine i_new fun B fB => ?_
            have kB := Kp.new (ws := []) (o := HO.lst [V.int aim]) fB
            have hB := fresh_at (o := HO.lst [V.int aim]) fB
            have hT9 := kB.at_ _ _ hT8 not_nil
            obtain ⟨H9, e9⟩ : ∃ H9, H9 = upd H8 B (.lst [V.int aim]) := ⟨_, rfl⟩
            rw [← e9] at kB hB hT9 ⊢
            have am9 := am8.kp0 kB
            have hl9 := am9.ls r hr
            walk_at "gs"
            refine i_new fun N fN => ?_
            rw [snoc_int']
            have kN := Kp.new (ws := []) (o := HO.lst ((r.2.2 ++ [aim]).map V.int)) fN
            have amN := am9.kp0 kN
            have hTN := kN.at_ _ _ hT9 not_nil
            have res := am9.old hr fN (n := aim)
            walk_at "gs"
            refine ⟨A, _, rfl, DPut.t (k := k2 r.1) amN.at_ hTN (small_sz (by rw [List.length_map]; omega)), ?_⟩
            exact ⟨_, _, rfl, Kp.trans k7 (Kp.trans kE.wide (Kp.trans kB.wide (Kp.trans kN.wide (Kp.mut amN.at_ (fun z => z) (List.mem_singleton.mpr rfl))))), by rw [step]; exact res⟩
          · rw [valT_none c4, Option.getD_none]
            have rl := am8.len
            walk_at "gs"
            refine i_new fun B fB => ?_
            have kB := Kp.new (ws := []) (o := HO.lst [V.int aim]) fB
            have hB := fresh_at (o := HO.lst [V.int aim]) fB
            have hT9 := kB.at_ _ _ hT8 not_nil
            have hE9 := kB.at_ _ _ hE not_nil
            obtain ⟨H9, e9⟩ : ∃ H9, H9 = upd H8 B (.lst [V.int aim]) := ⟨_, rfl⟩
            rw [← e9] at kB hB hT9 hE9 ⊢
            have am9 := am8.kp0 kB
            walk_at "gs"
            refine i_new fun N fN => ?_
            rw [List.nil_append]
            have kN := Kp.new (ws := []) (o := HO.lst ([aim].map V.int)) fN
            have amN := am9.kp0 kN
            have hTN := kN.at_ _ _ hT9 not_nil
            have res := am9.new c4 fN (n := aim)
            walk_at "gs"
            refine ⟨A, _, rfl, DPut.t (k := k2 q) amN.at_ hTN (small_sz (by rw [List.length_map]; omega)), ?_⟩
            exact ⟨_, _, rfl, Kp.trans k7 (Kp.trans kE.wide (Kp.trans kB.wide (Kp.trans kN.wide (Kp.mut amN.at_ (fun z => z) (List.mem_singleton.mpr rfl))))), by rw [step]; exact res⟩
        · rintro σ H7 ⟨o8, rep, rfl, k7, am7⟩
          rw [ly2, show (u.zip (u.drop 1)) = stepsI u from rfl, List.take_length] at am7
          have et : us.take (i + 1) = us.take i ++ [u] := by rw [List.take_add_one, hu]; rfl
          walk_at "gs"
          refine ⟨_, _, _, _, _, rep, rfl, Kp.trans k3 (Kp.trans k36.wide k7), by rw [et, aimsL_snoc, ← eaim]; exact am7, ?_⟩
          rw [et]
          exact fits_snoc pf (by rw [← eaim]; exact ok)
    · rintro σ H3 ⟨o4, o5, o6, o7, o8, rep, rfl, k3, am, pf⟩
      walk_at "gs"
      refine k true H3 (drop k3) ⟨fun _ => ⟨pw, ?_⟩, fun _ => rfl⟩
      rw [lx, List.take_length] at pf
      exact pf

/-! ### sorted of a list of tuples of numbers, of any lengths: in some order -/
section
open PySem.Calls PyProof.Rows PySem.W
theorem vals_refs : ∀ {ls : List Addr} {us : List Value}, Vals (ls.map V.ref) us → us = ls.map Value.ref
  | [], _, h => by cases h; rfl
  | _ :: _, _, h => by
    cases h with
    | cons h1 h2 =>
      obtain rfl := h1
      rw [vals_refs h2]
      rfl
theorem refs_vals : ∀ ls : List Addr, Vals (ls.map V.ref) (ls.map Value.ref)
  | [] => .nil
  | _ :: ls => .cons rfl (refs_vals ls)
theorem each_refs : ∀ ls : List Addr, EachIs (fun (v : Value) (b : Addr) => v = Value.ref b) (ls.map Value.ref) ls
  | [] => .nil
  | _ :: ls => .cons rfl (each_refs ls)
theorem each_back : ∀ {us : List Value} {ls : List Addr}, EachIs (fun (v : Value) (b : Addr) => v = Value.ref b) us ls → us = ls.map Value.ref
  | _, _, .nil => rfl
  | _, _, .cons h r => by rw [h, each_back r]; rfl
theorem each_of {P : Addr → Prop} {R : Value → Addr → Prop} (h : ∀ l, P l → R (Value.ref l) l) : ∀ {ls : List Addr}, (∀ l ∈ ls, P l) → EachIs R (ls.map Value.ref) ls
  | [], _ => .nil
  | l :: ls, z => .cons (h l (z l List.mem_cons_self)) (each_of h fun m hm => z m (List.mem_cons_of_mem _ hm))
theorem dp_tints {K : PySem.W.Frag} {H : Hp} {a : Addr} {ns : List Int} (h : SqT K H a (ns.map V.int)) : Dp K H (.ref a) (.tuple (ns.map PyData.int)) := by
  refine .tup h ?_
  have : ∀ ns : List Int, DpAll K H (ns.map V.int) (ns.map PyData.int) := fun ns => by
    induction ns with
    | nil => exact .nil
    | cons n ns ih => exact .cons (.int n) ih
  exact this ns
def rSortedTs (K : PySem.W.Frag) : List V → Hp → VK → Prop := fun vs H Q => ∃ (a : Addr) (ls : List Addr) (h0 : Addr → Int) (k : Addr → List Int), vs = [.ref a] ∧ SqL K H a (ls.map V.ref) ∧ (∀ l ∈ ls, SqT K H l ((h0 l :: k l).map V.int)) ∧
  ∀ (ms : List Addr) (p : Addr), ms.Perm ls → Fr H p → Q (.ref p) (upd H p (.lst (ms.map V.ref)))
theorem k_sortedTs {X : Cx} {K : PySem.W.Frag} (hK : X.K = K) (hu : X.A.units + 64 < cLine) : CallR X (.builtin "sorted") (rSortedTs K) := by
  subst hK
  intro pins s σ H vs us Q I r h
  obtain ⟨a, ls, h0, k, rfl, hs, hx, q⟩ := h
  obtain ⟨its, rv, hl, hz⟩ := I.list hs
  obtain ⟨u, rfl, ru⟩ := vals1 r
  obtain rfl : u = Value.ref a := ru
  obtain rfl := vals_refs rv
  rw [List.length_map] at hz
  refine sorted_data (R := fun (v : Value) (b : Addr) => v = Value.ref b) (bs := ls) (enc := fun l => PyData.tuple ((h0 l :: k l).map PyData.int)) hl.isList (each_refs ls) (each_of (P := fun l => l ∈ ls) (fun l hm => ?_) fun l hm => hm) (AllAlike.of fun b b' => ?_) (Sortable.tuples fun b => ⟨_, _, rfl⟩) hz (fun b _ => ?_) fun out ho eo => ?_
  · exact Dp.reads I _ (.ref l) _ (dp_tints (hx l hm)) rfl
  · show alikeAll ((h0 b :: k b).map .int) ((h0 b' :: k b').map .int) = true
    exact alike_ints _ _
  · have hd : (PyData.tuple ((h0 b :: k b).map PyData.int)).depth ≤ 2 := by
      simp only [PyData.depth]
      have : ∀ l : List Int, PyData.depthAll (l.map PyData.int) ≤ 1 := by
        intro l
        induction l with
        | nil => exact Nat.zero_le _
        | cons a l ih =>
          simp only [List.map_cons, PyData.depthAll, PyData.depth]
          omega
      have := this (h0 b :: k b)
      omega
    omega
  · generalize hm0 : ls.mergeSort (dataLe false fun l => PyData.tuple ((h0 l :: k l).map PyData.int)) = ms at eo
    have pm : ms.Perm ls := by
      rw [← hm0]
      exact List.mergeSort_perm _ _
    obtain rfl := each_back eo
    obtain ⟨e, he⟩ := sortedAll_at s.heap (ls.map Value.ref) (ms.map Value.ref).toArray
    have fr : H (s.heap.objs.size + 1) = none := I.hok.fresh (Nat.le_succ _)
    have hm : (ms.map V.ref).length ≤ sizeLine := by
      rw [List.length_map, pm.length_eq]
      exact hz
    have I2 := I.laid (o := .lst (ms.map V.ref)) (t' := s.toks) (fun b u hb => sortedAll_old hb) (Nat.le_succ _) ⟨hm, ms.map Value.ref, e, refs_vals _, he⟩
    exact ⟨.ref (s.heap.objs.size + 1), _, I2, rfl, q ms _ pm ⟨fr⟩⟩
end

/-! ### lists of tuples of numbers -/
def TupsAt (K : PySem.W.Frag) (H : Hp) : List V → List (List Int) → Prop
  | [], [] => True
  | x :: xs, r :: rs => (∃ a, x = .ref a ∧ SqT K H a (r.map V.int)) ∧ TupsAt K H xs rs
  | _, _ => False
section
variable {K : PySem.W.Frag} {H H' : Hp} {ws : List Addr}
theorem TupsAt.len : ∀ {xs : List V} {rs : List (List Int)}, TupsAt K H xs rs → xs.length = rs.length
  | [], [], _ => rfl
  | _ :: _, _ :: _, h => by rw [List.length_cons, List.length_cons, TupsAt.len h.2]
  | [], _ :: _, h => h.elim
  | _ :: _, [], h => h.elim
theorem TupsAt.kp (k : Kp ws H H') : ∀ {xs : List V} {rs : List (List Int)}, TupsAt K H xs rs → TupsAt K H' xs rs
  | [], [], _ => trivial
  | _ :: _, _ :: _, ⟨⟨a, e, h⟩, r⟩ => ⟨⟨a, e, k.seqT h⟩, TupsAt.kp k r⟩
  | [], _ :: _, h => h.elim
  | _ :: _, [], h => h.elim
theorem TupsAt.snoc {a : Addr} {r : List Int} (e : SqT K H a (r.map V.int)) : ∀ {xs : List V} {rs : List (List Int)}, TupsAt K H xs rs → TupsAt K H (xs ++ [.ref a]) (rs ++ [r])
  | [], [], _ => ⟨⟨a, rfl, e⟩, trivial⟩
  | _ :: _, _ :: _, ⟨b, q⟩ => ⟨b, TupsAt.snoc e q⟩
  | [], _ :: _, h => h.elim
  | _ :: _, [], h => h.elim
theorem TupsAt.split {r : List Int} : ∀ {xs : List V} {rs : List (List Int)}, TupsAt K H xs (rs ++ [r]) → ∃ ys a, xs = ys ++ [.ref a] ∧ TupsAt K H ys rs ∧ SqT K H a (r.map V.int)
  | [], [], h => h.elim
  | [], _ :: _, h => h.elim
  | x :: xs, [], h => by
    obtain ⟨⟨a, e, h1⟩, h2⟩ := h
    cases xs with
    | nil => exact ⟨[], a, by rw [e]; rfl, trivial, h1⟩
    | cons y ys => exact h2.elim
  | x :: xs, p :: rs, ⟨h1, h2⟩ => by
    obtain ⟨ys, a, e, b, c⟩ := TupsAt.split h2
    exact ⟨x :: ys, a, by rw [e]; rfl, ⟨h1, b⟩, c⟩
theorem TupsAt.get : ∀ {xs : List V} {rs : List (List Int)} {i : Nat} {v : V}, TupsAt K H xs rs → xs[i]? = some v → ∃ a r, rs[i]? = some r ∧ v = .ref a ∧ SqT K H a (r.map V.int)
  | [], _, _, _, _, e => by simp at e
  | _ :: _, [], _, _, h, _ => h.elim
  | _ :: _, r :: _, 0, v, ⟨⟨a, e, h⟩, _⟩, ev => by
    rw [List.getElem?_cons_zero] at ev
    cases ev
    exact ⟨a, r, rfl, e, h⟩
  | _ :: xs, _ :: rs, i + 1, v, ⟨_, h⟩, ev => by
    rw [List.getElem?_cons_succ] at ev ⊢
    exact TupsAt.get h ev
theorem TupsAt.dpa : ∀ {xs : List V} {rs : List (List Int)}, TupsAt K H xs rs → DpAll K H xs (rs.map fun r => .tuple (r.map PyData.int))
  | [], [], _ => .nil
  | _ :: _, r :: _, ⟨⟨a, e, h⟩, q⟩ => by
    subst e
    exact .cons (dp_tints h) (TupsAt.dpa q)
  | [], _ :: _, h => h.elim
  | _ :: _, [], h => h.elim
end
theorem imms_tups : ∀ rs : List (List Int), imms (rs.map fun r => .tuple (r.map PyData.int)) = true
  | [] => rfl
  | r :: rs => by
    simp only [List.map_cons, imms, G.imm, imms_ints r, imms_tups rs]
    rfl
theorem canLay_tups : ∀ rs : List (List Int), PyData.canLayAll0 (rs.map fun r => .tuple (r.map PyData.int)) = true
  | [] => rfl
  | r :: rs => by
    simp only [List.map_cons, PyData.canLayAll0, PyData.canLay0, canLay_ints r, canLay_tups rs]
    rfl
theorem depth_tups : ∀ rs : List (List Int), PyData.depthAll (rs.map fun r => .tuple (r.map PyData.int)) ≤ 1
  | [] => Nat.zero_le _
  | r :: rs => by
    simp only [List.map_cons, PyData.depthAll, PyData.depth]
    have h1 := depth_ints r
    have h2 := depth_tups rs
    omega
theorem shaped_tups (rs : List (List Int)) : SeqAt.shaped (.list (rs.map fun r => .tuple (r.map PyData.int))) = true := by
  refine shaped_of ?_ ?_
  · simp only [PyData.canLay0]
    exact canLay_tups rs
  · simp only [PyData.depth]
    have := depth_tups rs
    omega
/-- tuples of few of some numbers -/
def TwsAt (K : PySem.W.Frag) (H : Hp) (ks : List Int) (vs : List V) : Prop := ∀ y ∈ vs, ∃ (a : Addr) (xs : List Int), y = .ref a ∧ SqT K H a (xs.map V.int) ∧ (∀ n ∈ xs, n ∈ ks) ∧ 1 ≤ xs.length ∧ xs.length ≤ 30
theorem TwsAt.kp {K : PySem.W.Frag} {H H' : Hp} {ks : List Int} {vs : List V} {ws : List Addr} (w : TwsAt K H ks vs) (k : Kp ws H H') : TwsAt K H' ks vs := fun y hy => by
  obtain ⟨a, xs, e, h, r⟩ := w y hy
  exact ⟨a, xs, e, k.seqT h, r⟩
theorem TwsAt.sub {K : PySem.W.Frag} {H : Hp} {ks : List Int} {vs us : List V} (w : TwsAt K H ks vs) (h : ∀ y ∈ us, y ∈ vs) : TwsAt K H ks us := fun y hy => w y (h y hy)
theorem i_ninT {K : PySem.W.Frag} {H : Hp} {Q : VK} {l : Addr} {ns : List Int} {k : Int} (hl : SqT K H l (ns.map V.int)) (q : Q (.bl (!decide (k ∈ ns))) H) : rIn K true (.int k) (.ref l) H Q := by
  refine ⟨l, _, rfl, .inr hl, rfl, flat_ints ns, ?_⟩
  rw [inV_ints]
  exact q

/-! ### simple ways from a world, told backwards -/
inductive Trail (D : Int → Int → Int) (nb : Int → List Int) (one : Int) : List Int → Prop
  | start : Trail D nb one [one]
  | go {x p : Int} {t : List Int} : Trail D nb one (p :: t) → x ∈ nb p → Btw D x p one → Trail D nb one (x :: p :: t)
section
variable {D : Int → Int → Int} {ever : Int} {liv ks : List Int} {nb : Int → List Int} {one x u : Int} {r t t' : List Int}
theorem Trail.ne (h : Trail D nb one r) : r ≠ [] := by
  cases h <;> exact fun e => nomatch e
theorem Trail.mem (h : Trail D nb one r) (z : Tr3 D ever liv ks nb) (h1 : one ∈ ks) : ∀ y ∈ r, y ∈ ks := by
  induction h with
  | start => exact fun y hy => by rw [List.mem_singleton.mp hy]; exact h1
  | go h hx _ ih =>
    intro y hy
    rcases List.mem_cons.mp hy with e | hy
    · rw [e]
      exact ((z.rp.adj _ (ih _ List.mem_cons_self) _).mp hx).1
    · exact ih y hy
theorem Trail.last (h : Trail D nb one r) : ∃ s, r = s ++ [one] := by
  induction h with
  | start => exact ⟨[], rfl⟩
  | go h _ _ ih =>
    obtain ⟨s, e⟩ := ih
    exact ⟨_ :: s, by rw [e]; rfl⟩
theorem Trail.uniq (z : Tr3 D ever liv ks nb) (h1 : one ∈ ks) : ∀ (t t' : List Int) (x : Int), Trail D nb one (x :: t) → Trail D nb one (x :: t') → t = t'
  | [], t', x, h, h' => by
    cases h
    cases h' with
    | start => rfl
    | go g hx hb =>
      rename_i p s
      have hp := g.mem z h1 p List.mem_cons_self
      have ad := (z.rp.adj p hp one).mp hx
      have hU := z.hU
      exact absurd hb (fun hb => by
        have e : D one one = 0 := z.t.self _ (hU _ h1)
        have pos := z.t.pos (hU _ h1) (hU _ hp) ad.2.1
        have nn := z.t.nn p one (hU _ hp) (hU _ h1)
        unfold Btw at hb
        omega)
  | p :: s, t', x, h, h' => by
    cases h with
    | go g hx hb =>
      have hp := g.mem z h1 p List.mem_cons_self
      have hxk := ((z.rp.adj p hp x).mp hx).1
      cases h' with
      | start =>
        have ad := (z.rp.adj p hp one).mp hx
        have hU := z.hU
        exact absurd hb (fun hb => by
          have e : D one one = 0 := z.t.self _ (hU _ h1)
          have pos := z.t.pos (hU _ h1) (hU _ hp) ad.2.1
          have nn := z.t.nn p one (hU _ hp) (hU _ h1)
          unfold Btw at hb
          omega)
      | go g' hx' hb' =>
        rename_i p' s'
        have hp' := g'.mem z h1 p' List.mem_cons_self
        have e : p = p' := z.one_way h1 hxk (z.rp.sym z.t z.hU hp hx) (z.rp.sym z.t z.hU hp' hx') hb hb'
        subst e
        rw [Trail.uniq z h1 s s' p g g']
theorem Trail.ext (z : Tr3 D ever liv ks nb) (h1 : one ∈ ks) (h : Trail D nb one (x :: t)) (hu : u ∈ nb x) (n : u ∉ x :: t) : Trail D nb one (u :: x :: t) := by
  have hx := h.mem z h1 x List.mem_cons_self
  refine .go h hu (z.back h1 hx hu ?_)
  cases h with
  | start => exact .inl rfl
  | go g hx' hb =>
    rename_i p s
    have hp := g.mem z h1 p List.mem_cons_self
    exact .inr ⟨p, z.rp.sym z.t z.hU hp hx', hb, fun e => n (by rw [e]; exact List.mem_cons_of_mem _ List.mem_cons_self)⟩
/-- those gone, those left, those found -/
structure GrowT (D : Int → Int → Int) (nb : Int → List Int) (liv : List Int) (done left found : List (List Int)) : Prop where
  nd : (done ++ left ++ found).Nodup
  tr : ∀ r ∈ done ++ left ++ found, (∃ one ∈ liv, Trail D nb one r) ∧ r.Nodup
  par : ∀ o t, (o :: t) ∈ done ++ left ++ found → t ≠ [] → t ∈ done
def codeT (ever : Int) (r : List Int) : Int := (r.getLast?.getD 0) * ever + r.headD 0
theorem mul_bound {e a b : Int} (ha : 0 ≤ a) (ha1 : a < e) (hb : 0 ≤ b) (hb1 : b < e) : 0 ≤ a * e + b ∧ a * e + b < e * e := by
  have h1 : 0 ≤ a * e := Int.mul_nonneg ha (by omega)
  have h2 : (a + 1) * e ≤ e * e := Int.mul_le_mul_of_nonneg_right (by omega) (by omega)
  rw [Int.add_mul, Int.one_mul] at h2
  omega
theorem mul_inj {e a b a' b' : Int} (hb : 0 ≤ b) (hb1 : b < e) (hb' : 0 ≤ b') (hb1' : b' < e) (h : a * e + b = a' * e + b') : a = a' ∧ b = b' := by
  have e0 : 0 < e := by omega
  have d1 : (a * e + b) / e = a := by
    rw [Int.add_comm, Int.add_mul_ediv_right _ _ (by omega), Int.ediv_eq_zero_of_lt hb hb1, Int.zero_add]
  have d2 : (a' * e + b') / e = a' := by
    rw [Int.add_comm, Int.add_mul_ediv_right _ _ (by omega), Int.ediv_eq_zero_of_lt hb' hb1', Int.zero_add]
  have : a = a' := by rw [← d1, ← d2, h]
  subst this
  exact ⟨rfl, by omega⟩
theorem Trail.code (h : Trail D nb one r) (ever : Int) : codeT ever r = one * ever + r.headD 0 := by
  obtain ⟨s, e⟩ := h.last
  unfold codeT
  rw [e, List.getLast?_concat]
  rfl
theorem GrowT.len {done left found : List (List Int)} (g : GrowT D nb liv done left found) (z : Tr3 D ever liv ks nb) : done.length + left.length + found.length ≤ (ever * ever).toNat := by
  have e : done.length + left.length + found.length = ((done ++ left ++ found).map (codeT ever)).length := by
    rw [List.length_map, List.length_append, List.length_append]
  rw [e]
  have head : ∀ {r : List Int} {one : Int}, one ∈ liv → Trail D nb one r → Un ever (r.headD 0) := fun {r one} ho h => by
    cases r with
    | nil => exact absurd rfl h.ne
    | cons a s => exact z.hU _ (h.mem z (z.sub _ ho) a List.mem_cons_self)
  refine un_len (ever := ever * ever) ?_ fun x hx => ?_
  · refine List.pairwise_map.mpr (g.nd.imp_of_mem fun {a b} ha hb n e => n ?_)
    obtain ⟨⟨o1, h1, t1⟩, _⟩ := g.tr a ha
    obtain ⟨⟨o2, h2, t2⟩, _⟩ := g.tr b hb
    rw [t1.code, t2.code] at e
    have ua := head h1 t1
    have ub := head h2 t2
    obtain ⟨e1, e2⟩ := mul_inj ua.1 ua.2 ub.1 ub.2 e
    subst e1
    cases a with
    | nil => exact absurd rfl t1.ne
    | cons x s =>
      cases b with
      | nil => exact absurd rfl t2.ne
      | cons y s' =>
        have e3 : x = y := e2
        subst e3
        rw [Trail.uniq z (z.sub _ h1) _ _ _ t1 t2]
  · obtain ⟨r, hr, rfl⟩ := List.mem_map.mp hx
    obtain ⟨⟨o1, h1, t1⟩, _⟩ := g.tr r hr
    rw [t1.code]
    have ua := head h1 t1
    have uo := z.hU _ (z.sub _ h1)
    exact mul_bound uo.1 uo.2 ua.1 ua.2
theorem GrowT.start (nl : liv.Nodup) : GrowT D nb liv [] (liv.map fun x => [x]) [] := by
  refine ⟨?_, fun r hr => ?_, fun o t ht n => ?_⟩
  · rw [List.nil_append, List.append_nil]
    exact List.pairwise_map.mpr (nl.imp fun {a b} n e => n (by injection e))
  · rw [List.nil_append, List.append_nil] at hr
    obtain ⟨x, hx, rfl⟩ := List.mem_map.mp hr
    exact ⟨⟨x, hx, .start⟩, by simp⟩
  · rw [List.nil_append, List.append_nil] at ht
    obtain ⟨x, hx, e⟩ := List.mem_map.mp ht
    injection e with _ e
    exact absurd e.symm n
theorem GrowT.pop {done left found : List (List Int)} (g : GrowT D nb liv done (left ++ [r]) found) : GrowT D nb liv (r :: done) left found ∧ ∀ o, (o :: r) ∉ (r :: done) ++ left ++ found := by
  have pm : (done ++ (left ++ [r]) ++ found).Perm ((r :: done) ++ left ++ found) := by
    have e1 : done ++ (left ++ [r]) ++ found = (done ++ left) ++ ([r] ++ found) := by simp
    have e2 : (r :: done) ++ left ++ found = [r] ++ ((done ++ left) ++ found) := by simp
    rw [e1, e2]
    exact (List.perm_append_comm_assoc _ _ _)
  have mem : ∀ c, c ∈ (r :: done) ++ left ++ found ↔ c ∈ done ++ (left ++ [r]) ++ found := fun c => pm.mem_iff.symm
  have nd2 := pm.nodup_iff.mp g.nd
  have rnd : r ∉ done := fun h => by
    rw [List.append_assoc, List.cons_append, List.nodup_cons] at nd2
    exact nd2.1 (List.mem_append_left _ h)
  have rm : r ∈ done ++ (left ++ [r]) ++ found := (mem r).mp (by simp)
  obtain ⟨⟨one, _, tr⟩, _⟩ := g.tr r rm
  refine ⟨⟨nd2, fun c hc => g.tr c ((mem c).mp hc), fun o t ht n => List.mem_cons_of_mem _ (g.par o t ((mem _).mp ht) n)⟩, fun o ho => rnd (g.par o r ((mem _).mp ho) tr.ne)⟩
theorem GrowT.push {done left found left' found' : List (List Int)} {o : Int} (g : GrowT D nb liv done left found) (z : Tr3 D ever liv ks nb) (hr : r ∈ done) (ho : o ∈ nb (r.headD 0)) (n : o ∉ r) (nc : (o :: r) ∉ done ++ left ++ found) (pm : (done ++ left' ++ found').Perm ((o :: r) :: (done ++ left ++ found))) : GrowT D nb liv done left' found' := by
  obtain ⟨⟨one, h1, tr⟩, ndr⟩ := g.tr r (List.mem_append_left _ (List.mem_append_left _ hr))
  refine ⟨pm.nodup_iff.mpr (List.nodup_cons.mpr ⟨nc, g.nd⟩), fun c hc => ?_, fun o' t ht ne => ?_⟩
  · rcases List.mem_cons.mp (pm.mem_iff.mp hc) with e | hc
    · rw [e]
      refine ⟨⟨one, h1, ?_⟩, List.nodup_cons.mpr ⟨n, ndr⟩⟩
      cases r with
      | nil => exact absurd rfl tr.ne
      | cons x t => exact Trail.ext z (z.sub _ h1) tr ho n
    · exact g.tr c hc
  · rcases List.mem_cons.mp (pm.mem_iff.mp ht) with e | h
    · injection e with _ e
      rw [e]
      exact hr
    · exact g.par o' t h ne
end

def sp_allways (K : PySem.W.Frag) : Sp := fun vs H Q _ => ∃ (Te L F W dn : Addr) (ever : Int) (liv fs : List Int) (rs : List (Int × Int)) (prs : List (Int × Int)), vs = [.ref Te, .ref dn] ∧ SqT K H Te [.int ever, .ref L, .ref F, .ref W] ∧ H L = some (.lst (liv.map V.int)) ∧ H F = some (.lst (fs.map V.int)) ∧ LD K H W (rs.map d2) ∧ Drawn ever liv fs rs ∧ liv.length + fs.length ≤ 30 ∧ rs.length ≤ 100 ∧ ever ≤ 60 ∧ H dn = some (.dK (prs.map kN)) ∧ prs.map (·.1) = liv ∧
  ∀ R ys H', Fr H R → Kp [] H H' → H' R = some (.lst ys) → TwsAt K H' (liv ++ fs) ys → ys.length ≤ 4000 → Q (.ref R) H'
theorem sc_law_all_ways : FnScope ["_law_tree_here", "_law_given_here", "_law_found", "_law_left", "_law_here", "_law_other", "_law_label"] ["_law_tree_here", "_law_given_here"] (defScope s_law_all_ways) :=
  ⟨rfl, rfl, rfl, by decide +kernel, rfl, by decide +kernel, by decide +kernel⟩
theorem ok_law_all_ways {P : Program} {w : World} {K : PySem.W.Frag} {mg : Str → Option Value} {base : Heap} (T : Txt K mg) :
    FnG P w K mg base 2 T.a_law_all_ways T.d_law_all_ways ["_law_tree_here", "_law_given_here"] (sp_allways K) := by
  refine okD T.F_law_all_ways sc_law_all_ways (fun vs H Q E h => ?_) (fun cdv A outer s H vs Q E hr h => ?_)
  · first
      | (obtain ⟨_, rfl, _⟩ := h; rfl)
      | (obtain ⟨_, _, rfl, _⟩ := h; rfl)
      | (obtain ⟨_, _, _, rfl, _⟩ := h; rfl)
      | (obtain ⟨_, _, _, _, rfl, _⟩ := h; rfl)
      | (obtain ⟨_, _, _, _, _, rfl, _⟩ := h; rfl)
      | (obtain ⟨_, _, _, _, _, _, rfl, _⟩ := h; rfl)
      | (obtain ⟨_, _, _, _, _, _, _, rfl, _⟩ := h; rfl)
      | (obtain ⟨_, _, _, _, _, _, _, _, rfl, _⟩ := h; rfl)
      | (obtain ⟨_, _, _, _, _, _, _, _, _, rfl, _⟩ := h; rfl)
      | (obtain ⟨_, _, _, _, _, _, _, _, _, _, rfl, _⟩ := h; rfl)
      | (obtain ⟨_, _, _, _, _, _, _, _, _, _, _, rfl, _⟩ := h; rfl)
      | (obtain ⟨_, _, _, _, _, _, _, _, _, _, _, _, rfl, _⟩ := h; rfl)
      | (obtain ⟨_, _, _, _, _, _, _, _, _, _, _, _, _, rfl, _⟩ := h; rfl)
      | (obtain ⟨_, _, _, _, _, _, _, _, _, _, _, _, _, _, rfl, _⟩ := h; rfl)
      | (obtain ⟨_, _, _, _, _, _, _, _, _, _, _, _, _, _, _, rfl, _⟩ := h; rfl)
      | (obtain ⟨_, _, _, _, _, _, _, _, _, _, _, _, _, _, _, _, rfl, _⟩ := h; rfl)
      | (obtain ⟨_, _, _, _, _, _, _, _, _, _, _, _, _, _, _, _, _, rfl, _⟩ := h; rfl)
      | (obtain ⟨_, _, _, _, _, _, _, _, _, _, _, _, _, _, _, _, _, _, rfl, _⟩ := h; rfl)
      | (obtain ⟨_, _, _, _, _, _, _, _, _, _, _, _, _, _, _, _, _, _, _, rfl, _⟩ := h; rfl)
  · obtain ⟨Te, L, F, W, dn, ever, liv, fs, rs, prs, rfl, hT, hL, hF, ldW, dr, ll, lr, he, hdn, kp, k⟩ := h
    obtain ⟨D, z⟩ := dr.ex
    have ne : ∀ q ∈ rs, q.1 ≠ q.2 := fun q hq => by
      have := ((dr.ro.2 q).mp hq).2.2
      omega
    have e0 := z.e0
    have ev2 : (ever * ever).toNat ≤ 3600 := by
      have h1 : ever * ever ≤ 60 * 60 := Int.le_trans (Int.mul_le_mul_of_nonneg_right he (by omega)) (Int.mul_le_mul_of_nonneg_left he (by decide))
      omega
    have cl_Ties := T.cl_Ties
    have na_Ties_near := T.na_Ties_near
    have na_Ties_own_ever := T.na_Ties_own_ever
    have na_Ties_own_living := T.na_Ties_own_living
    refine ⟨_, (pss_cons (ps_par (i := 2) (j := 3) (by rfl) sc_law_all_ways.nd rfl rfl (by decide) rfl rfl (pa_cons (pe_lst pa_nil) (pa_cons (pe_lc (own := [("_law_label", 6)]) (g := (gName 6)) (tt := tYes) rfl sc_law_all_ways.nd (k_plist (K := K) rfl (pe_ix (k_ix (K := K) rfl) (pv 0) pe_int (fun _ _ => rfl))) (blkOk_by (own := [("_law_label", 6)]) (N := ["_law_tree_here", "_law_given_here", "_law_found", "_law_left", "_law_here", "_law_other", "_law_label"]) (sc := defScope s_law_all_ways) (by decide +kernel)) (fun _ _ _ _ _ => (pg_name (i := 6) sc_law_all_ways.nd rfl (Or.inl rfl))) (fun _ _ _ _ _ => pts_nil) (fun _ _ _ _ _ => (pe_tup (pa_cons (pv 6) pa_nil)))) pa_nil)) (by rfl))
      (pss_cons (ps_while (passes_of rfl) (pt_cmpR (k_ne (K := K) rfl hr.r.units) (pv 3) (pe_lst pa_nil) (nomark _)) (pss_cons (ps_set (i := 4) sc_law_all_ways.nd rfl (Or.inl rfl) (pe_bm0 PySem.F.plainAttrs_list PySem.F.slot_list_pop PySem.F.type_list_pop mt_pop (pv 3)))
      (pss_one (ps_for (passes_of rfl) rfl (k_plist (K := K) rfl (d1 (ok_law_near T) (hr.mono (by decide)) (by rfl) T.m_law_near T.F_law_near.kp T.b_law_near passL (pa_cons (pv 0) (pa_cons (pe_ix (k_ix (K := K) rfl) (pv 4) (pe_un un_neg pe_int) (fun _ _ => rfl)) pa_nil)))) (pg_name (i := 5) sc_law_all_ways.nd rfl (Or.inl rfl))
      (pss_one (ps_if (PW.pt (pw_and (pt_cmpR (k_nin (K := K) rfl) (pv 5) (pv 4) (rfl)) (pw_and1 (pt_cmpR (k_in (K := K) rfl) (pv 5) (pe_ix (k_ix (K := K) rfl) (pv 0) pe_int (fun _ _ => rfl)) (rfl))))) (pss_one (ps_expr (pe_bm PySem.F.plainAttrs_list PySem.F.slot_list_append PySem.F.type_list_append mt_append (pv 3) (pa_cons (pe_op (k_catA (K := K) rfl) (pv 4) (pe_tup (pa_cons (pv 5) pa_nil))) pa_nil)))) (pss_one (ps_if (PW.pt (pw_and (pt_cmpR (k_nin (K := K) rfl) (pv 5) (pv 4) (rfl)) (pw_and1 (pt_cmpR (k_ne (K := K) rfl hr.r.units) (pe_dget (u1 hr.r.units) (pv 1) (pv 5) (fun _ _ => rfl)) (pe_dget (u1 hr.r.units) (pv 1) (pe_ix (k_ix (K := K) rfl) (pv 4) pe_int (fun _ _ => rfl)) (fun _ _ => rfl)) (nomark _))))) (pss_one (ps_expr (pe_bm PySem.F.plainAttrs_list PySem.F.slot_list_append PySem.F.type_list_append mt_append (pv 2) (pa_cons (pe_op (k_catA (K := K) rfl) (pv 4) (pe_tup (pa_cons (pv 5) pa_nil))) pa_nil)))) pss_nil))))))))
      (pss_one (ps_ret (pe_callB (k_sortedTs (K := K) rfl hr.r.units) (by rfl) T.n_sorted (by decide +kernel) (pa_cons (pv 2) pa_nil)))))), ?_⟩
    dsimp only [cxOf, st_1, st_2, st_3, st_4, st_5, st_6, List.length_cons, List.length_nil, List.replicate_succ, List.replicate_zero, Nat.reduceAdd, Nat.reduceSub]
    walk_at "gs"
    refine i_new fun Fo fFo => ?_
    have kFo := Kp.new (ws := []) (o := HO.lst []) fFo
    have hFo := fresh_at (o := HO.lst []) fFo
    have hT1 := kFo.seqT hT
    have hL1 := kFo.at_ _ _ hL not_nil
    obtain ⟨H1, e1⟩ : ∃ H1, H1 = upd H Fo (.lst []) := ⟨_, rfl⟩
    rw [← e1] at kFo hFo hT1 hL1 ⊢
    walk_at "gs"
    refine i_elts (SqL.of hL1) (fun G i H' => Kp [] H1 H' ∧ ∃ xs, H' G = some (.lst xs) ∧ TupsAt K H' xs ((liv.take i).map fun x => [x])) ?_ ?_ ?_ ?_
    · intro G fG
      exact ⟨Kp.new fG, [], upd_same, trivial⟩
    · rintro G i H' fG _ ⟨kk, _⟩
      exact SqL.of (kk.at_ _ _ hL1 not_nil)
    · rintro G i y H' fG hy ⟨kk, xs, hG, tx⟩
      obtain ⟨n, hn, e⟩ := map_get hy
      subst e
      have il := (List.getElem?_eq_some_iff.mp hn).1
      have lx := tx.len
      rw [List.length_map, List.length_take] at lx
      walk_at "gs"
      refine i_new fun U fU => ?_
      have kU := Kp.new (ws := []) (o := HO.tup [V.int n]) fU
      have hU := fresh_at (o := HO.tup [V.int n]) fU
      obtain ⟨H4, e4⟩ : ∃ H4, H4 = upd H' U (.tup [V.int n]) := ⟨_, rfl⟩
      rw [← e4] at kU hU ⊢
      have hG4 := kU.at_ _ _ hG not_nil
      have kG : Kp [G] H4 (upd H4 G (.lst (xs ++ [V.ref U]))) := kp_set hG4 (fun z => z)
      walk_at "gs"
      refine ⟨_, hG4, small_sz (by omega), Kp.upd (Kp.trans kk kU) fG, _, upd_same, ?_⟩
      rw [List.take_add_one, hn, Option.toList_some, List.map_append]
      exact TupsAt.snoc (r := [n]) (SqT.of (kG.fix _ _ hU trivial)) ((tx.kp kU).kp kG)
    rintro Lf H2 fLf ⟨k2, xs0, hLf, tx0⟩
    rw [List.length_map, List.take_length] at tx0
    have nFL : Fo ≠ Lf := fr_ne hFo fLf
    have hFo2 := k2.at_ _ _ hFo not_nil
    have k02 := Kp.trans kFo k2
    have nF1 : F ≠ Fo := fr_ne hF fFo
    have nF2 : F ≠ Lf := fr_ne (kFo.at_ _ _ hF not_nil) fLf
    have nW1 : W ≠ Fo := ldW.ne fFo
    have nW2 : W ≠ Lf := (ldW.kp kFo (imms_d2 _) not_nil).ne fLf
    have nD1 : dn ≠ Fo := fr_ne hdn fFo
    have nD2 : dn ≠ Lf := fr_ne (kFo.at_ _ _ hdn not_nil) fLf
    have hT2 := k02.seqT hT
    have hF2 := k02.at_ _ _ hF not_nil
    have ldW2 := ldW.kp k02 (imms_d2 _) not_nil
    have hdn2 := k02.at_ _ _ hdn not_nil
    have mem2 : ∀ b ∈ [Fo, Lf], b ∈ ([] : List Addr) ∨ Fr H b := fun b hb => by
      rcases List.mem_cons.mp hb with e | hb
      · exact .inr (by rw [e]; exact fFo)
      · exact .inr (by rw [List.mem_singleton.mp hb]; exact kFo.free fLf)
    have drop : ∀ {H' : Hp}, Kp [Fo, Lf] H2 H' → Kp [] H H' := fun {H'} kk => (Kp.trans (k02.wide (ws := [Fo, Lf])) kk).dropAll mem2
    walk_at "gs"
    refine i_while (fun m σ H' => ∃ (o4 o5 : Option V) (done lf fo : List (List Int)) (xs ys : List V), σ = [some (.ref Te), some (.ref dn), some (.ref Fo), some (.ref Lf), o4, o5, none] ∧ Kp [Fo, Lf] H2 H' ∧ H' Lf = some (.lst xs) ∧ H' Fo = some (.lst ys) ∧ TupsAt K H' xs (lf.map List.reverse) ∧ TupsAt K H' ys (fo.map List.reverse) ∧ GrowT D (nbR rs) liv done lf fo ∧ m + done.length = (ever * ever).toNat) ((ever * ever).toNat) ?_ ?_
    · exact ⟨_, _, [], liv.map fun x => [x], [], xs0, [], rfl, Kp.refl, hLf, hFo2, by rw [List.map_map]; exact tx0, trivial, GrowT.start z.nl, rfl⟩
    · rintro m σ H3 ⟨o4, o5, done, lf, fo, xs, ys, rfl, k3, hLf3, hFo3, tx, ty, gr, em⟩
      have glen := gr.len z
      have lx := tx.len
      have ly := ty.len
      rw [List.length_map] at lx ly
      walk_at "gs"
      refine i_new fun E fE => ?_
      have ldL : LD K H3 Lf ((lf.map List.reverse).map fun r => .tuple (r.map PyData.int)) := ⟨xs, hLf3, tx.dpa⟩
      refine ne_nil ldL (imms_tups _) (shaped_tups _) fE ?_
      have kE := Kp.new (ws := []) (o := HO.lst []) fE
      have hLf4 := kE.at_ _ _ hLf3 not_nil
      have hFo4 := kE.at_ _ _ hFo3 not_nil
      obtain ⟨H4, e4⟩ : ∃ H4, H4 = upd H3 E (.lst []) := ⟨_, rfl⟩
      rw [← e4] at kE hLf4 hFo4 ⊢
      have tx4 := tx.kp kE
      have ty4 := ty.kp kE
      have k24 : Kp [Fo, Lf] H2 H4 := Kp.trans k3 kE.wide
      walk_at "gs"
      refine i_boN (fun c => ?_) (fun c => ?_)
      · obtain ⟨lf0, r, elf⟩ := list_last (l := lf) (fun e => by rw [e] at c; cases c)
        subst elf
        obtain ⟨gr1, nochild⟩ := gr.pop
        rw [List.map_append] at tx4
        obtain ⟨xs1, ar, exs, tx5, hr0⟩ := tx4.split
        subst exs
        rw [List.length_append, List.length_singleton] at lx glen
        obtain ⟨⟨one, h1, tr⟩, ndr⟩ := gr1.tr r (List.mem_append_left _ (List.mem_append_left _ List.mem_cons_self))
        obtain ⟨s1, er1⟩ := tr.last
        have kL5 : Kp [Lf] H4 (upd H4 Lf (.lst xs1)) := kp_set hLf4 (fun z => z)
        have hLf5 : upd H4 Lf (.lst xs1) Lf = some (.lst xs1) := upd_same
        have hFo5 := kL5.at_ _ _ hFo4 (not_one nFL)
        have tx6 := tx5.kp kL5
        have ty6 := ty4.kp kL5
        have hr1 := kL5.seqT hr0
        have k25 : Kp [Fo, Lf] H2 (upd H4 Lf (.lst xs1)) := Kp.trans k24 (kL5.mono fun b hb => by rw [List.mem_singleton.mp hb]; exact List.mem_cons_of_mem _ List.mem_cons_self)
        obtain ⟨H5, e5⟩ : ∃ H5, H5 = upd H4 Lf (.lst xs1) := ⟨_, rfl⟩
        obtain ⟨a, s2, er2⟩ : ∃ a s2, r = a :: s2 := by
          cases r with
          | nil => exact absurd rfl tr.ne
          | cons a s2 => exact ⟨a, s2, rfl⟩
        have ha := tr.mem z (z.sub _ h1) a (by rw [er2]; exact List.mem_cons_self)
        have rlen : r.length ≤ 30 := by
          have := sub_len ndr (tr.mem z (z.sub _ h1))
          rw [List.length_append] at this
          omega
        have atl : atI (r.reverse.map V.int) (-1) = some (.int a) := by
          rw [er2, List.reverse_cons, List.map_append]
          exact atI_last _ _
        have at0 : atI (r.reverse.map V.int) 0 = some (.int one) := by
          rw [er1, List.reverse_append]
          exact at_zero
        refine i_loop ?_
        walk_at "gs"
        refine i_popV hLf4 ?_
        rw [← e5] at kL5 hLf5 hFo5 tx6 ty6 hr1 k25 ⊢
        have hT5 := k25.seqT hT2
        have ldW5 := ldW2.kp k25 (imms_d2 _) (not_two nW1 nW2)
        walk_at "gs"
        refine ⟨Te, L, F, W, ever, a, rs, rfl, hT5, ldW5, lr, ne, fun S H6 fS k6 hS => ?_⟩
        have nSF : S ≠ Fo := Ne.symm (fr_ne hFo5 fS)
        have nSL : S ≠ Lf := Ne.symm (fr_ne hLf5 fS)
        have nbnd := z.rp.nd a ha
        walk_at "gs"
        refine i_each (SqL.of hS) (fun j σ H' => ∃ (o5 : Option V) (lf' fo' : List (List Int)) (xs' ys' : List V), σ = [some (.ref Te), some (.ref dn), some (.ref Fo), some (.ref Lf), some (.ref ar), o5, none] ∧ Kp [Fo, Lf] H6 H' ∧ H' Lf = some (.lst xs') ∧ H' Fo = some (.lst ys') ∧ TupsAt K H' xs' (lf'.map List.reverse) ∧ TupsAt K H' ys' (fo'.map List.reverse) ∧ GrowT D (nbR rs) liv (r :: done) lf' fo' ∧ ∀ o, o ∉ (nbR rs a).take j → (o :: r) ∉ (r :: done) ++ lf' ++ fo') ?_ ?_ ?_ ?_
        · exact ⟨_, lf0, fo, xs1, ys, rfl, Kp.refl, k6.at_ _ _ hLf5 not_nil, k6.at_ _ _ hFo5 not_nil, tx6.kp k6, ty6.kp k6, gr1, fun o _ => nochild o⟩
        · rintro j σ H' _ ⟨_, _, _, _, _, _, kk, _⟩
          exact SqL.of (kk.at_ _ _ hS (not_two nSF nSL))
        · rintro j y σ H7 hy ⟨o5, lf', fo', xs', ys', rfl, k7, hLf7, hFo7, tx7, ty7, gr7, nc7⟩
          obtain ⟨u, hu, e⟩ := map_get hy
          subst e
          have um := List.mem_of_getElem? hu
          have uk := ((z.rp.adj a ha u).mp um).1
          have k27 : Kp [Fo, Lf] H2 H7 := Kp.trans k25 (Kp.trans k6.wide k7)
          have k57 : Kp [Fo, Lf] H5 H7 := Kp.trans k6.wide k7
          have hr7 := k57.seqT hr1
          have hF7 := k27.at_ _ _ hF2 (not_two nF1 nF2)
          have hdn7 := k27.at_ _ _ hdn2 (not_two nD1 nD2)
          have g7 := gr7.len z
          have lx7 := tx7.len
          have ly7 := ty7.len
          rw [List.length_map] at lx7 ly7
          have utk : u ∉ (nbR rs a).take j := fun h => nd_take.mp nbnd j u hu h
          have next : ∀ {H' : Hp} {lf2 fo2 : List (List Int)}, (u ∈ r ∨ True) → (∀ c, c ∈ (r :: done) ++ lf2 ++ fo2 ↔ c ∈ (r :: done) ++ lf' ++ fo' ∨ c = u :: r) → ∀ o, o ∉ (nbR rs a).take (j + 1) → (o :: r) ∉ (r :: done) ++ lf2 ++ fo2 := fun {H' lf2 fo2} _ hm o ho hc => by
            rw [List.take_add_one, hu, Option.toList_some, List.mem_append, List.mem_singleton, not_or] at ho
            rcases (hm _).mp hc with h | h
            · exact nc7 o ho.1 h
            · injection h with h _
              exact ho.2 h
          have nonew : ∀ o, o ∉ (nbR rs a).take (j + 1) → (o :: r) ∉ (r :: done) ++ lf' ++ fo' := fun o ho => nc7 o fun h => ho (by rw [List.take_add_one]; exact List.mem_append_left _ h)
          have urev : decide (u ∈ r.reverse) = decide (u ∈ r) := decide_eq_decide.mpr List.mem_reverse
          have ureach : u ∈ nbR rs (r.headD 0) := by rw [er2]; exact um
          walk_at "gs"
          refine i_ninT hr7 ?_
          rw [urev]
          walk_at "gs"
          refine i_decN (fun c2 => ?_) (fun c2 => ?_)
          · walk_at "gs"
            refine i_dec (fun c3 => ?_) (fun c3 => ?_)
            · walk_at "gs"
              refine i_new fun U fU => ?_
              have kU := Kp.new (ws := []) (o := HO.tup [V.int u]) fU
              have hU := fresh_at (o := HO.tup [V.int u]) fU
              have hLf8 := kU.at_ _ _ hLf7 not_nil
              have hr8 := kU.seqT hr7
              obtain ⟨H8, e8⟩ : ∃ H8, H8 = upd H7 U (.tup [V.int u]) := ⟨_, rfl⟩
              rw [← e8] at kU hU hLf8 hr8 ⊢
              have hsU : SqT K H8 U ([u].map V.int) := SqT.of hU
              walk_at "gs"
              refine i_catA hr8 hsU (by rw [List.length_map, List.length_reverse]; show r.length + 1 ≤ _; omega) fun q H9 k9 hq => ?_
              rw [← List.map_append] at hq
              have hLf9 := k9.at_ _ _ hLf8 not_nil
              have hFo9 := (Kp.trans kU k9).at_ _ _ hFo7 not_nil
              have hz9 : xs'.length < sizeLine := small_sz (by rw [List.length_cons] at g7; omega)
              have kL : Kp [Lf] H9 (upd H9 Lf (.lst (xs' ++ [.ref q]))) := kp_set hLf9 (fun z => z)
              have k79 := Kp.trans kU k9
              walk_at "gs"
              have pm : ((r :: done) ++ (lf' ++ [u :: r]) ++ fo').Perm ((u :: r) :: ((r :: done) ++ lf' ++ fo')) := by
                have e1 : (r :: done) ++ (lf' ++ [u :: r]) ++ fo' = ((r :: done) ++ lf') ++ ((u :: r) :: fo') := by simp
                rw [e1]
                exact List.perm_middle
              refine ⟨_, lf' ++ [u :: r], fo', xs' ++ [.ref q], ys', rfl, Kp.trans k7 (Kp.trans k79.wide (kL.mono fun b hb => by rw [List.mem_singleton.mp hb]; exact List.mem_cons_of_mem _ List.mem_cons_self)), upd_same, kL.at_ _ _ hFo9 (not_one nFL), ?_, (ty7.kp k79).kp kL, gr7.push z List.mem_cons_self ureach c2 (nc7 u utk) pm, next (H' := H) (.inr trivial) fun c => by rw [pm.mem_iff, List.mem_cons]; exact or_comm⟩
              rw [List.map_append]
              exact TupsAt.snoc (r := (u :: r).reverse) (by rw [List.reverse_cons]; exact kL.seqT hq) ((tx7.kp k79).kp kL)
            · walk_at "gs"
              refine i_ninT hr7 ?_
              rw [urev]
              walk_at "gs"
              refine i_decN (fun _ => ?_) (fun c4 => absurd c4 c2)
              have ul : u ∈ liv := (List.mem_append.mp uk).resolve_right c3
              have v1 := (look_mem (w := u) (ps := prs) (by rw [kp]; exact ul)).2
              have v2 := (look_mem (w := one) (ps := prs) (by rw [kp]; exact h1)).2
              walk_at "gs"
              refine i_dg hdn7 v1 ?_
              walk_at "gs"
              refine i_dg hdn7 v2 ?_
              walk_at "gs"
              refine i_decN (fun c5 => ?_) (fun c5 => ?_)
              · walk_at "gs"
                refine i_new fun U fU => ?_
                have kU := Kp.new (ws := []) (o := HO.tup [V.int u]) fU
                have hU := fresh_at (o := HO.tup [V.int u]) fU
                have hFo8 := kU.at_ _ _ hFo7 not_nil
                have hr8 := kU.seqT hr7
                obtain ⟨H8, e8⟩ : ∃ H8, H8 = upd H7 U (.tup [V.int u]) := ⟨_, rfl⟩
                rw [← e8] at kU hU hFo8 hr8 ⊢
                have hsU : SqT K H8 U ([u].map V.int) := SqT.of hU
                walk_at "gs"
                refine i_catA hr8 hsU (by rw [List.length_map, List.length_reverse]; show r.length + 1 ≤ _; omega) fun q H9 k9 hq => ?_
                rw [← List.map_append] at hq
                have hFo9 := k9.at_ _ _ hFo8 not_nil
                have hLf9 := (Kp.trans kU k9).at_ _ _ hLf7 not_nil
                have hz9 : ys'.length < sizeLine := small_sz (by rw [List.length_cons] at g7; omega)
                have kL : Kp [Fo] H9 (upd H9 Fo (.lst (ys' ++ [.ref q]))) := kp_set hFo9 (fun z => z)
                have k79 := Kp.trans kU k9
                walk_at "gs"
                have pm : ((r :: done) ++ lf' ++ (fo' ++ [u :: r])).Perm ((u :: r) :: ((r :: done) ++ lf' ++ fo')) := by
                  have e1 : (r :: done) ++ lf' ++ (fo' ++ [u :: r]) = ((r :: done) ++ lf' ++ fo') ++ [u :: r] := by simp
                  rw [e1]
                  exact List.perm_append_singleton _ _
                refine ⟨_, lf', fo' ++ [u :: r], xs', ys' ++ [.ref q], rfl, Kp.trans k7 (Kp.trans k79.wide (kL.mono fun b hb => by rw [List.mem_singleton.mp hb]; exact List.mem_cons_self)), kL.at_ _ _ hLf9 (not_one (Ne.symm nFL)), upd_same, (tx7.kp k79).kp kL, ?_, gr7.push z List.mem_cons_self ureach c2 (nc7 u utk) pm, next (H' := H) (.inr trivial) fun c => by rw [pm.mem_iff, List.mem_cons]; exact or_comm⟩
                rw [List.map_append]
                exact TupsAt.snoc (r := (u :: r).reverse) (by rw [List.reverse_cons]; exact kL.seqT hq) ((ty7.kp k79).kp kL)
              · walk_at "gs"
                exact ⟨_, lf', fo', xs', ys', rfl, k7, hLf7, hFo7, tx7, ty7, gr7, nonew⟩
          · walk_at "gs"
            refine i_ninT hr7 ?_
            rw [urev]
            walk_at "gs"
            refine i_decN (fun c4 => absurd c2 c4) (fun _ => ?_)
            walk_at "gs"
            exact ⟨_, lf', fo', xs', ys', rfl, k7, hLf7, hFo7, tx7, ty7, gr7, nonew⟩
        · rintro σ H7 ⟨o5, lf', fo', xs', ys', rfl, k7, hLf7, hFo7, tx7, ty7, gr7, nc7⟩
          have g7 := gr7.len z
          walk_at "gs"
          refine ⟨m - 1, ?_, _, _, r :: done, lf', fo', xs', ys', rfl, Kp.trans k25 (Kp.trans k6.wide k7), hLf7, hFo7, tx7, ty7, gr7, ?_⟩
          · rw [List.length_cons] at g7
            omega
          · rw [List.length_cons] at g7 ⊢
            omega
      · walk_at "gs"
        have item : ∀ y ∈ ys, ∃ b hd tl, y = .ref b ∧ SqT K H4 b ((hd :: tl).map V.int) ∧ (∀ n ∈ hd :: tl, n ∈ liv ++ fs) ∧ (hd :: tl).length ≤ 30 := fun y hy => by
          obtain ⟨i, hi⟩ := List.getElem?_of_mem hy
          obtain ⟨b, r', hr', e, hs⟩ := ty4.get hi
          obtain ⟨r, hr, rfl⟩ := map_get hr'
          obtain ⟨⟨one, h1, tr⟩, ndr⟩ := gr.tr r (List.mem_append_right _ (List.mem_of_getElem? hr))
          have mm := tr.mem z (z.sub _ h1)
          have := sub_len ndr mm
          rw [List.length_append] at this
          obtain ⟨s1, er1⟩ := tr.last
          have er : r.reverse = one :: s1.reverse := by rw [er1, List.reverse_append]; rfl
          refine ⟨b, one, s1.reverse, e, by rw [← er]; exact hs, fun n hn => mm n (by rw [← er] at hn; exact List.mem_reverse.mp hn), ?_⟩
          rw [← er, List.length_reverse]
          omega
        obtain ⟨lsA, els⟩ : ∃ lsA : List Addr, ys = lsA.map V.ref := by
          have : ∀ l : List V, (∀ y ∈ l, ∃ b : Addr, y = .ref b) → ∃ lsA : List Addr, l = lsA.map V.ref := fun l => by
            induction l with
            | nil => exact fun _ => ⟨[], rfl⟩
            | cons y l ih =>
              intro h
              obtain ⟨b, e⟩ := h y List.mem_cons_self
              obtain ⟨q, e2⟩ := ih fun x hx => h x (List.mem_cons_of_mem _ hx)
              exact ⟨b :: q, by rw [e, e2]; rfl⟩
          exact this ys fun y hy => by
            obtain ⟨b, _, _, e, _⟩ := item y hy
            exact ⟨b, e⟩
        subst els
        have ch : ∀ l : Addr, ∃ p : Int × List Int, l ∈ lsA → SqT K H4 l ((p.1 :: p.2).map V.int) := fun l => by
          by_cases c : l ∈ lsA
          · obtain ⟨b, hd, tl, e, h, _⟩ := item (.ref l) (List.mem_map.mpr ⟨l, c, rfl⟩)
            cases e
            exact ⟨(hd, tl), fun _ => h⟩
          · exact ⟨(0, []), fun h => absurd h c⟩
        obtain ⟨f, hf⟩ := Classical.axiomOfChoice ch
        refine ⟨Fo, lsA, fun l => (f l).1, fun l => (f l).2, rfl, SqL.of hFo4, fun l hl => hf l hl, fun ms P pm fP => ?_⟩
        have kP := Kp.new (ws := []) (o := HO.lst (ms.map V.ref)) fP
        have kf : Kp [] H H4 := drop k24
        have ly2 := pm.length_eq
        rw [List.length_map] at ly
        refine k P _ _ (kf.free fP) (Kp.trans kf kP) upd_same (fun y hy => ?_) (by rw [List.length_map]; omega)
        obtain ⟨l, hl, rfl⟩ := List.mem_map.mp hy
        obtain ⟨b, hd, tl, e, h, h2, h3⟩ := item (.ref l) (List.mem_map.mpr ⟨l, pm.mem_iff.mp hl, rfl⟩)
        exact ⟨b, hd :: tl, e, kP.seqT h, h2, by rw [List.length_cons]; omega, h3⟩

/-! ### repr of data, or of an empty dict -/
section
open PyProof.Rows
def rReprU (K : PySem.W.Frag) : List V → Hp → VK → Prop := fun xs H Q => rRepr K xs H Q ∨ ∃ a, xs = [.ref a] ∧ H a = some (.dK []) ∧ Q (.str (PyData.dict []).shown) H
theorem k_reprU {X : Cx} {K : PySem.W.Frag} (h : X.K = K) (hg : X.A.guards = some []) (hu : X.A.units + 64 < cLine) : CallR X (.builtin "repr") (rReprU K) := by
  intro pins s σ H xs us Q I r q
  rcases q with q | ⟨a, rfl, ha, q⟩
  · exact k_repr h hg hu pins s σ H xs us Q I r q
  · obtain ⟨u, rfl, rx⟩ := vals1 r
    cases rx
    obtain ⟨_, lo, vs, rel, o, es, ep, ho, hc, hd, _, hp, _⟩ := dk_of I.hok ha
    cases rel
    have e0 : es.toList = [] := by
      cases hq : es.toList with
      | nil => rfl
      | cons x y =>
        rw [hq] at hp
        cases hp
    have rd : Reads s.heap (.ref a) (.dict []) (a :: [] ++ []) := by
      refine .dict ho hc.1 hd ?_ ?_
      · rw [e0]
        exact .nil
      · rw [e0]
        exact .nil
    refine repr_of_reads' rd rfl (fun _ hm => ?_) hg ?_ (fun _ _ e => e) (fun h' u tk hk => ?_) (by decide +kernel)
    · simp only [List.append_nil, List.mem_singleton] at hm
      rw [← hm] at lo
      simp at lo
    · have : (PyData.dict []).depth ≤ 1 := by simp only [PyData.depth, PyData.depthKv]; omega
      omega
    · exact ⟨.str _, H, I.kept hk, ⟨_, rfl⟩, q⟩
end

/-! ### things of any kind, that may be shown -/
def FineT (d : PyData) : Prop := d = .dict [] ∨ (shw d = true ∧ d.depth ≤ 20 ∧ cw d ≤ 1000000)
def Thing (K : PySem.W.Frag) (H : Hp) (p : Addr) (v : V) (d : PyData) : Prop := Tg K H [p] v d ∧ FineT d ∧ ∀ ds, d = .tuple ds → ds.length ≤ 1000
theorem Thing.kp {K : PySem.W.Frag} {H H' : Hp} {p : Addr} {v : V} {d : PyData} (h : Thing K H p v d) (k : Kp [p] H H') : Thing K H' p v d := ⟨h.1.kp k, h.2⟩
theorem i_reprT {K : PySem.W.Frag} {H : Hp} {Q : VK} {v : V} {d : PyData} {ws : List Addr} (t : Tg K H ws v d) (f : FineT d) (h : Q (.str d.shown) H) : rReprU K [v] H Q := by
  rcases t with t | ⟨rfl, b, rfl, hb, _⟩
  · rcases f with rfl | ⟨f1, f2, f3⟩
    · cases t
    · have big : (1000000 : Nat) ≤ sizeLine := by decide
      exact .inl (i_repr (t.dp _ _) f1 (by omega) (by omega) h)
  · exact .inr ⟨b, rfl, hb, h⟩
theorem shI {n : Int} (h : okI n) : shw (.int n) = true := by
  simp only [shw]
  exact decide_eq_true (show n.natAbs.log2 < 1920 from h)
theorem dxa_of_ints {K : PySem.W.Frag} {H : Hp} {ws : List Addr} : ∀ ns : List Int, DxAll K H ws (ns.map V.int) (ns.map PyData.int)
  | [] => .nil
  | n :: ns => .cons (.int n) (dxa_of_ints ns)
theorem shws_app : ∀ xs ys : List PyData, shws (xs ++ ys) = (shws xs && shws ys)
  | [], ys => by simp [shws]
  | x :: xs, ys => by simp only [List.cons_append, shws, shws_app xs ys, Bool.and_assoc]
theorem cws_app : ∀ xs ys : List PyData, cws (xs ++ ys) = cws xs + cws ys
  | [], ys => by simp [cws]
  | x :: xs, ys => by simp only [List.cons_append, cws, cws_app xs ys]; omega
theorem depth_app {n : Nat} : ∀ xs ys : List PyData, PyData.depthAll xs ≤ n → PyData.depthAll ys ≤ n → PyData.depthAll (xs ++ ys) ≤ n
  | [], ys, _, h => h
  | x :: xs, ys, h, h2 => by
    simp only [List.cons_append, PyData.depthAll] at h ⊢
    have ih := depth_app (n := n) xs ys (by omega) h2
    omega
theorem shwsI : ∀ {l : List Int}, (∀ x ∈ l, okI x) → shws (l.map PyData.int) = true
  | [], _ => rfl
  | a :: l, h => by
    simp only [List.map_cons, shws, shw, Bool.and_eq_true, decide_eq_true_eq]
    exact ⟨h a List.mem_cons_self, shwsI fun x hx => h x (List.mem_cons_of_mem _ hx)⟩
theorem cwsI : ∀ l : List Int, cws (l.map PyData.int) = 1932 * l.length
  | [] => rfl
  | a :: l => by
    simp only [List.map_cons, cws, cw, cwsI l, List.length_cons]
    omega
theorem thing_ints {K : PySem.W.Frag} {H : Hp} {p a : Addr} {ns : List Int} (h : SqT K H a (ns.map V.int)) (l : ns.length ≤ 100) (ok : ∀ n ∈ ns, okI n) : Thing K H p (.ref a) (.tuple (ns.map PyData.int)) := by
  refine ⟨.inl (.tup h (dxa_of_ints ns)), .inr ⟨shwsI ok, ?_, ?_⟩, fun ds e => ?_⟩
  · simp only [PyData.depth]
    have := depth_ints ns
    omega
  · simp only [cw]
    rw [cwsI]
    omega
  · injection e with e
    rw [← e, List.length_map]
    omega
theorem thing_mid {K : PySem.W.Frag} {H : Hp} {p a : Addr} {A B : List Int} {m : V} {d : PyData} (h : SqT K H a (A.map V.int ++ [m] ++ B.map V.int)) (hd : Dx K H [p] m d) (h1 : shw d = true) (h2 : d.depth ≤ 5) (h3 : cw d ≤ 10000) (lA : A.length ≤ 100) (lB : B.length ≤ 100) (oA : ∀ n ∈ A, okI n) (oB : ∀ n ∈ B, okI n) : Thing K H p (.ref a) (.tuple (A.map PyData.int ++ [d] ++ B.map PyData.int)) := by
  refine ⟨.inl (.tup h (dxa_app (dxa_app (dxa_of_ints A) (.cons hd .nil)) (dxa_of_ints B))), .inr ⟨?_, ?_, ?_⟩, fun ds e => ?_⟩
  · simp only [shw, shws_app, shws, shwsI oA, shwsI oB, h1, Bool.and_self]
  · simp only [PyData.depth]
    have i1 := depth_ints A
    have i2 := depth_ints B
    have := depth_app (n := 5) (A.map PyData.int ++ [d]) (B.map PyData.int) (depth_app _ _ (by omega) (by simp only [PyData.depthAll]; omega)) (by omega)
    omega
  · simp only [cw]
    rw [cws_app, cws_app, cwsI, cwsI]
    simp only [cws]
    omega
  · injection e with e
    rw [← e, List.length_append, List.length_append, List.length_map, List.length_map, List.length_singleton]
    omega
theorem cut_ints (ns : List Int) (lo hi : Option Int) : ∃ ms : List Int, cutV (ns.map V.int) lo hi = ms.map V.int ∧ (∀ m ∈ ms, m ∈ ns) ∧ ms.length ≤ ns.length := by
  unfold cutV
  refine ⟨(ns.drop _).take _, by rw [List.map_take, List.map_drop], fun m hm => List.mem_of_mem_drop (List.mem_of_mem_take hm), ?_⟩
  rw [List.length_take, List.length_drop]
  omega
theorem app_mem {A B ns : List Int} (hA : ∀ m ∈ A, m ∈ ns) (hB : ∀ m ∈ B, m ∈ ns) : ∀ m ∈ A ++ B, m ∈ ns := fun m hm => (List.mem_append.mp hm).elim (hA m) (hB m)

theorem TupsAt.dx {K : PySem.W.Frag} {H : Hp} {ws : List Addr} : ∀ {xs : List V} {rs : List (List Int)}, TupsAt K H xs rs → DxAll K H ws xs (waysD rs)
  | [], [], _ => .nil
  | _ :: _, r :: _, ⟨⟨a, e, h⟩, q⟩ => by
    subst e
    exact .cons (.tup h (dxa_of_ints r)) (TupsAt.dx q)
  | [], _ :: _, h => h.elim
  | _ :: _, [], h => h.elim
theorem TwsAt.tups {K : PySem.W.Frag} {H : Hp} {ks : List Int} : ∀ {vs : List V}, TwsAt K H ks vs → ∃ rs, TupsAt K H vs rs ∧ ∀ r ∈ rs, (∀ n ∈ r, n ∈ ks) ∧ 1 ≤ r.length ∧ r.length ≤ 30
  | [], _ => ⟨[], trivial, fun r h => nomatch h⟩
  | v :: vs, w => by
    obtain ⟨a, xs, e, h, p⟩ := w v List.mem_cons_self
    obtain ⟨rs, t, q⟩ := TwsAt.tups (vs := vs) (w.sub fun y hy => List.mem_cons_of_mem _ hy)
    refine ⟨xs :: rs, ⟨⟨a, e, h⟩, t⟩, fun r hr => ?_⟩
    rcases List.mem_cons.mp hr with e2 | hr
    · rw [e2]
      exact p
    · exact q r hr
theorem i_popAtV {H : Hp} {Q : VK} {l : Addr} {xs : List V} {k : Nat} {y : V} (hl : H l = some (.lst xs)) (hy : xs[k]? = some y) (hz : xs.length ≤ 1000000) (q : Q y (upd H l (.lst (xs.eraseIdx k)))) : rPopAt (.ref l) [.int (k : Nat)] H Q := by
  have hk := (List.getElem?_eq_some_iff.mp hy).1
  refine ⟨l, _, (k : Nat), k, y, rfl, rfl, hl, by omega, by omega, ?_, hy, q⟩
  have h0 : ¬ ((k : Nat) : Int) < 0 := by omega
  simp only [seqIndex?, if_neg h0]
  rw [if_pos (by simp; omega), Int.toNat_natCast]

def sp_grown53 (K : PySem.W.Frag) (C : Addr) : Sp := fun vs H Q _ => ∃ (D : Int → Int → Int) (p t dn Wl : Addr) (ps : List Addr) (ever : Int) (liv ks : List Int) (nb : Int → List Int) (prs : List (Int × Int)) (ws : List V), vs = [.ref p, .ref t, .ref dn, .ref Wl] ∧ PotAt H p ∧ TiesAt C H t ps ever liv ks nb ∧ Tr3 D ever liv ks nb ∧ p ∉ ps ∧ ever ≤ 200 ∧ H dn = some (.dK (prs.map kN)) ∧ dn ≠ p ∧ prs.map (·.1) = liv ∧ H Wl = some (.lst ws) ∧ Wl ≠ p ∧ TwsAt K H ks ws ∧ ws.length ≤ 4000 ∧
  ∀ R xs us H', Fr H R → PotAt H' p → Kp [p] H H' → H' R = some (.lst xs) → TupsAt K H' xs us → PapI liv ks nb (look prs) us → xs.length ≤ 40 → Q (.ref R) H'
theorem sc_law_grown : FnScope ["_law_pot_here", "_law_ties_here", "_law_given_here", "_law_ways", "_law_found", "_law_pool", "_law_turn", "_law_one"] ["_law_pot_here", "_law_ties_here", "_law_given_here", "_law_ways"] (defScope s_law_grown) :=
  ⟨rfl, rfl, rfl, by decide +kernel, rfl, by decide +kernel, by decide +kernel⟩
theorem ok_law_grown {P : Program} {w : World} {K : PySem.W.Frag} {mg : Str → Option Value} {base : Heap} (T : Txt K mg) :
    FnG P w K mg base 7 T.a_law_grown T.d_law_grown ["_law_pot_here", "_law_ties_here", "_law_given_here", "_law_ways"] (sp_grown53 K T.c_Ties) := by
  refine okD T.F_law_grown sc_law_grown (fun vs H Q E h => ?_) (fun cdv A outer s H vs Q E hr h => ?_)
  · first
      | (obtain ⟨_, rfl, _⟩ := h; rfl)
      | (obtain ⟨_, _, rfl, _⟩ := h; rfl)
      | (obtain ⟨_, _, _, rfl, _⟩ := h; rfl)
      | (obtain ⟨_, _, _, _, rfl, _⟩ := h; rfl)
      | (obtain ⟨_, _, _, _, _, rfl, _⟩ := h; rfl)
      | (obtain ⟨_, _, _, _, _, _, rfl, _⟩ := h; rfl)
      | (obtain ⟨_, _, _, _, _, _, _, rfl, _⟩ := h; rfl)
      | (obtain ⟨_, _, _, _, _, _, _, _, rfl, _⟩ := h; rfl)
      | (obtain ⟨_, _, _, _, _, _, _, _, _, rfl, _⟩ := h; rfl)
      | (obtain ⟨_, _, _, _, _, _, _, _, _, _, rfl, _⟩ := h; rfl)
      | (obtain ⟨_, _, _, _, _, _, _, _, _, _, _, rfl, _⟩ := h; rfl)
      | (obtain ⟨_, _, _, _, _, _, _, _, _, _, _, _, rfl, _⟩ := h; rfl)
      | (obtain ⟨_, _, _, _, _, _, _, _, _, _, _, _, _, rfl, _⟩ := h; rfl)
      | (obtain ⟨_, _, _, _, _, _, _, _, _, _, _, _, _, _, rfl, _⟩ := h; rfl)
      | (obtain ⟨_, _, _, _, _, _, _, _, _, _, _, _, _, _, _, rfl, _⟩ := h; rfl)
      | (obtain ⟨_, _, _, _, _, _, _, _, _, _, _, _, _, _, _, _, rfl, _⟩ := h; rfl)
      | (obtain ⟨_, _, _, _, _, _, _, _, _, _, _, _, _, _, _, _, _, rfl, _⟩ := h; rfl)
      | (obtain ⟨_, _, _, _, _, _, _, _, _, _, _, _, _, _, _, _, _, _, rfl, _⟩ := h; rfl)
      | (obtain ⟨_, _, _, _, _, _, _, _, _, _, _, _, _, _, _, _, _, _, _, rfl, _⟩ := h; rfl)
  · obtain ⟨D, p, t, dn, Wl, ps, ever, liv, ks, nb, prs, ws, rfl, hp, x, z, nps, he, hdn, npD, kp, hWl, npWl, wy, lw, k⟩ := h
    have cl_Ties := T.cl_Ties
    have na_Ties_near := T.na_Ties_near
    have na_Ties_own_ever := T.na_Ties_own_ever
    have na_Ties_own_living := T.na_Ties_own_living
    refine ⟨_, (pss_cons (ps_par (i := 4) (j := 5) (by rfl) sc_law_grown.nd rfl rfl (by decide) rfl rfl (pa_cons (pe_lst pa_nil) (pa_cons (pe_callTy (k_list (K := K) rfl) (by rfl) T.n_list (by decide +kernel) (pa_cons (pv 3) pa_nil)) pa_nil)) (by rfl))
      (pss_cons (ps_for (passes_of rfl) rfl (pi_range1 (by rfl) T.n_range (pa_cons pe_int pa_nil)) (pg_name (i := 6) sc_law_grown.nd rfl (Or.inl rfl))
      (pss_one (ps_if (pt_cmpR (k_ne (K := K) rfl hr.r.units) (pv 5) (pe_lst pa_nil) (nomark _)) (pss_cons (ps_set (i := 7) sc_law_grown.nd rfl (Or.inl rfl) (pe_bm PySem.F.plainAttrs_list PySem.F.slot_list_pop PySem.F.type_list_pop mt_popAt (pv 5) (pa_cons (d1 (ok_law_draw T) (hr.mono (by decide)) (by rfl) T.m_law_draw T.F_law_draw.kp T.b_law_draw passL (pa_cons (pv 0) (pa_cons (pe_callB (k_len (K := K) rfl) (by rfl) T.n_len (by decide +kernel) (pa_cons (pv 5) pa_nil)) pa_nil))) pa_nil)))
      (pss_one (ps_if (pt_val (d1 (ok_is_paper T) (hr.mono (by decide)) (by rfl) T.m_is_paper T.F_is_paper.kp T.b_is_paper passL (pa_cons (pv 1) (pa_cons (pv 2) (pa_cons (pe_op (k_add (K := K) rfl) (pv 4) (pe_lst (pa_cons (pv 7) pa_nil))) pa_nil))))) (pss_one (ps_expr (pe_bm PySem.F.plainAttrs_list PySem.F.slot_list_append PySem.F.type_list_append mt_append (pv 4) (pa_cons (pv 7) pa_nil)))) pss_nil))) pss_nil)))
      (pss_one (ps_ret (pv 4))))), ?_⟩
    dsimp only [cxOf, st_1, st_2, st_3, st_4, st_5, st_6, List.length_cons, List.length_nil, List.replicate_succ, List.replicate_zero, Nat.reduceAdd, Nat.reduceSub]
    walk_at "gs"
    refine i_new fun G fG => ?_
    have kG := Kp.new (ws := []) (o := HO.lst []) fG
    have hG := fresh_at (o := HO.lst []) fG
    have nGp : G ≠ p := Ne.symm (hp.ne fG)
    have hWl1 := kG.at_ _ _ hWl not_nil
    have hp1 := hp.kp kG not_nil
    obtain ⟨H1, e1⟩ : ∃ H1, H1 = upd H G (.lst []) := ⟨_, rfl⟩
    rw [← e1] at kG hG hWl1 hp1 ⊢
    walk_at "gs"
    refine i_new fun Pl fP0 => ?_
    have kP := Kp.new (ws := []) (o := HO.lst ws) fP0
    have hP0 := fresh_at (o := HO.lst ws) fP0
    have hG2 := kP.at_ _ _ hG not_nil
    have nlG : Pl ≠ G := Ne.symm (fr_ne hG fP0)
    have nlp : Pl ≠ p := Ne.symm (hp1.ne fP0)
    have hp2 := hp1.kp kP not_nil
    obtain ⟨H2, e2⟩ : ∃ H2, H2 = upd H1 Pl (.lst ws) := ⟨_, rfl⟩
    rw [← e2] at kP hP0 hG2 hp2 ⊢
    have k02 : Kp [] H H2 := Kp.trans kG kP
    have frPl : Fr H Pl := kG.free fP0
    have wP : ∀ {H' H'' : Hp}, Kp [p] H' H'' → Kp [p, G, Pl] H' H'' := fun kk => kk.mono fun b hb => by rw [List.mem_singleton.mp hb]; exact List.mem_cons_self
    have wG : ∀ {H' H'' : Hp}, Kp [G] H' H'' → Kp [p, G, Pl] H' H'' := fun kk => kk.mono fun b hb => by rw [List.mem_singleton.mp hb]; exact List.mem_cons_of_mem _ List.mem_cons_self
    have wL : ∀ {H' H'' : Hp}, Kp [Pl] H' H'' → Kp [p, G, Pl] H' H'' := fun kk => kk.mono fun b hb => by rw [List.mem_singleton.mp hb]; exact List.mem_cons_of_mem _ (List.mem_cons_of_mem _ List.mem_cons_self)
    have drop : ∀ {H' : Hp}, Kp [p, G, Pl] H2 H' → Kp [p] H H' := fun {H'} kk => (Kp.trans (k02.wide (ws := [p, G, Pl])) kk).dropAll fun b hb => by
      rcases List.mem_cons.mp hb with e | hb
      · exact .inl (by rw [e]; exact List.mem_cons_self)
      rcases List.mem_cons.mp hb with e | hb
      · exact .inr (by rw [e]; exact fG)
      · exact .inr (by rw [List.mem_singleton.mp hb]; exact frPl)
    walk_at "gs"
    refine i_turns (by decide) (by decide) (fun i σ H' => ∃ (o6 o7 : Option V) (pool xs : List V) (us : List (List Int)), σ = [some (.ref p), some (.ref t), some (.ref dn), some (.ref Wl), some (.ref G), some (.ref Pl), o6, o7] ∧ PotAt H' p ∧ Kp [p, G, Pl] H2 H' ∧ H' Pl = some (.lst pool) ∧ H' G = some (.lst xs) ∧ TwsAt K H' ks pool ∧ TupsAt K H' xs us ∧ PapI liv ks nb (look prs) us ∧ pool.length ≤ ws.length ∧ xs.length ≤ i) ?_ ?_ ?_
    · exact ⟨_, _, ws, [], [], rfl, hp2, Kp.refl, hP0, hG2, wy.kp k02, trivial, ⟨fun x h => (nomatch h), .nil⟩, Nat.le_refl _, Nat.le_refl _⟩
    · rintro i σ H3 hi ⟨o6, o7, pool, xs, us, rfl, hp3, k3, hPl, hG3, wp, tx, pp, lp, lx⟩
      obtain ⟨rsP, tp, _⟩ := wp.tups
      have lrs := tp.len
      walk_at "gs"
      refine i_new fun E fE => ?_
      have ldL : LD K H3 Pl (rsP.map fun r => .tuple (r.map PyData.int)) := ⟨pool, hPl, tp.dpa⟩
      refine ne_nil ldL (imms_tups _) (shaped_tups _) fE ?_
      have kE := Kp.new (ws := []) (o := HO.lst []) fE
      have hPl4 := kE.at_ _ _ hPl not_nil
      have hG4 := kE.at_ _ _ hG3 not_nil
      have hp4 := hp3.kp kE not_nil
      obtain ⟨H4, e4⟩ : ∃ H4, H4 = upd H3 E (.lst []) := ⟨_, rfl⟩
      rw [← e4] at kE hPl4 hG4 hp4 ⊢
      have k24 : Kp [p, G, Pl] H2 H4 := Kp.trans k3 kE.wide
      walk_at "gs"
      refine i_boN (fun c => ?_) (fun c => ?_)
      · have l0 : 0 < pool.length := by
          cases rsP with
          | nil => cases c
          | cons a l =>
            rw [lrs]
            exact Nat.succ_pos _
        have hsPl4 := SqL.of (K := K) hPl4
        walk_at "gs"
        refine use_draw hp4 (by omega) (by omega) (fun r H5 r0 r1 hp5 k5 => ?_)
        obtain ⟨r, rfl⟩ := Int.eq_ofNat_of_zero_le r0
        have hPl5 := k5.at_ _ _ hPl4 (not_one nlp)
        have hG5 := k5.at_ _ _ hG4 (not_one nGp)
        have rl : r < pool.length := by omega
        obtain ⟨y, hy⟩ : ∃ y, pool[r]? = some y := ⟨_, List.getElem?_eq_getElem rl⟩
        have ym := List.mem_of_getElem? hy
        have kPl : Kp [Pl] H5 (upd H5 Pl (.lst (pool.eraseIdx r))) := kp_set hPl5 (fun z => z)
        walk_at "gs"
        refine i_popAtV hPl5 hy (by omega) ?_
        have hPl6 : upd H5 Pl (.lst (pool.eraseIdx r)) Pl = some (.lst (pool.eraseIdx r)) := upd_same
        have hG6 := kPl.at_ _ _ hG5 (not_one (Ne.symm nlG))
        have hp6 := hp5.kp kPl (not_one (Ne.symm nlp))
        obtain ⟨H6, e6⟩ : ∃ H6, H6 = upd H5 Pl (.lst (pool.eraseIdx r)) := ⟨_, rfl⟩
        rw [← e6] at kPl hPl6 hG6 hp6 ⊢
        have k46 : Kp [p, G, Pl] H4 H6 := Kp.trans (wP k5) (wL kPl)
        have k36 : Kp [p, G, Pl] H3 H6 := Kp.trans kE.wide k46
        obtain ⟨a1, u1, rfl, hu1, um, ul1, ul2⟩ := wp y ym
        have hu6 := k36.seqT hu1
        have tx6 := tx.kp k36
        have wp6 : TwsAt K H6 ks (pool.eraseIdx r) := (wp.kp k36).sub fun y hy => List.mem_of_mem_eraseIdx hy
        have le := List.length_eraseIdx_of_lt rl
        have lt := tx.len
        walk_at "gs"
        refine i_new fun U fU => ?_
        have kU := Kp.new (ws := []) (o := HO.lst [.ref a1]) fU
        have hU := fresh_at (o := HO.lst [.ref a1]) fU
        have hG7 := kU.at_ _ _ hG6 not_nil
        obtain ⟨H7, e7⟩ : ∃ H7, H7 = upd H6 U (.lst [.ref a1]) := ⟨_, rfl⟩
        rw [← e7] at kU hU hG7 ⊢
        have lxs : xs.length ≤ 40 := by omega
        walk_at "gs"
        refine i_new fun B fB => ?_
        have kB := Kp.new (ws := []) (o := HO.lst (xs ++ [.ref a1])) fB
        have hB := fresh_at (o := HO.lst (xs ++ [.ref a1])) fB
        obtain ⟨H8, e8⟩ : ∃ H8, H8 = upd H7 B (.lst (xs ++ [.ref a1])) := ⟨_, rfl⟩
        rw [← e8] at kB hB ⊢
        have k68 := Kp.trans kU kB
        have k28 : Kp [p, G, Pl] H2 H8 := Kp.trans k24 (Kp.trans k46 k68.wide)
        have k08 := drop k28
        have tB : TupsAt K H8 (xs ++ [.ref a1]) (us ++ [u1]) := TupsAt.snoc (k68.seqT hu6) (tx6.kp k68)
        have uslen : ∀ u ∈ us, u.length ≤ 1000 := fun u hu => by
          have nd := (pp.1 u hu).1
          have := sub_len nd.2.2.1 nd.2.1
          have := z.klen
          omega
        walk_at "gs"
        refine ⟨D, t, ps, ever, liv, ks, nb, .ref B, .list (waysD (us ++ [u1])), [], dn, prs, rfl, x.kp k08 (x.apart nps), z, he, .inl (.lst not_nil hB tB.dx), fun ds e => ?_, k08.at_ _ _ hdn (not_one npD), kp, fun b H9 k9 hb => ?_⟩
        · injection e with e
          subst e
          refine ⟨by unfold waysD; rw [List.length_map, List.length_append, List.length_singleton]; omega, fun e he es e2 => ?_⟩
          obtain ⟨u, hu, rfl⟩ := List.mem_map.mp he
          injection e2 with e2
          rw [← e2, List.length_map]
          rcases List.mem_append.mp hu with hu | hu
          · exact uslen u hu
          · rw [List.mem_singleton.mp hu]
            omega
        · rw [LstI.of] at hb
          have k69 := Kp.trans k68 k9
          have hp9 := hp6.kp k69 not_nil
          have hG9 := k69.at_ _ _ hG6 not_nil
          have hPl9 := k69.at_ _ _ hPl6 not_nil
          have tx9 := tx6.kp k69
          have wp9 := wp6.kp k69
          have hu9 := k69.seqT hu6
          have k29 : Kp [p, G, Pl] H2 H9 := Kp.trans k28 k9.wide
          walk_at "gs"
          refine i_bool2 (fun c2 => ?_) (fun c2 => ?_)
          · have kG9 : Kp [G] H9 (upd H9 G (.lst (xs ++ [.ref a1]))) := kp_set hG9 (fun z => z)
            have hz9 : xs.length < sizeLine := small_sz (by omega)
            walk_at "gs"
            exact ⟨_, _, _, xs ++ [.ref a1], us ++ [u1], rfl, hp9.kp kG9 (not_one (Ne.symm nGp)), Kp.trans k29 (wG kG9), kG9.at_ _ _ hPl9 (not_one nlG), upd_same, wp9.kp kG9, TupsAt.snoc (kG9.seqT hu9) (tx9.kp kG9), hb.mp c2, by omega, by rw [List.length_append, List.length_singleton]; omega⟩
          · walk_at "gs"
            exact ⟨_, _, _, xs, us, rfl, hp9, k29, hPl9, hG9, wp9, tx9, pp, by omega, by omega⟩
      · walk_at "gs"
        exact ⟨_, _, pool, xs, us, rfl, hp4, k24, hPl4, hG4, wp.kp kE, tx.kp kE, pp, lp, by omega⟩
    · rintro σ H3 ⟨o6, o7, pool, xs, us, rfl, hp3, k3, hPl, hG3, wp, tx, pp, lp, lx⟩
      walk_at "gs"
      exact k G xs us H3 fG hp3 (drop k3) hG3 tx pp lx

/-! ### no paper has more ways than a keeping costs -/
theorem sub_lenG {α : Type} [DecidableEq α] : ∀ {l m : List α}, l.Nodup → (∀ x ∈ l, x ∈ m) → l.length ≤ m.length
  | [], _, _, _ => Nat.zero_le _
  | a :: l, m, n, h => by
    rw [List.nodup_cons] at n
    have ha := h a List.mem_cons_self
    have e := List.length_erase_of_mem ha
    have l0 := List.length_pos_of_mem ha
    have ih := sub_lenG n.2 (m := m.erase a) fun x hx => (List.mem_erase_of_ne (fun e => n.1 (by rw [← e]; exact hx))).mpr (h x (List.mem_cons_of_mem _ hx))
    rw [List.length_cons]
    omega
theorem turn_step {g : Int → Int} {c : Int} : ∀ {xs : List Int} {a b : Int}, xs[0]? = some a → xs[xs.length - 1]? = some b → g a ≠ c → g b = c → ∃ q ∈ stepsI xs, g q.1 ≠ c ∧ g q.2 = c
  | [], _, _, h, _, _, _ => by cases h
  | [x], a, b, h1, h2, h3, h4 => by
    cases h1
    have e : x = b := by simpa using h2
    exact absurd (by rw [e]; exact h4) h3
  | x :: y :: t, a, b, h1, h2, h3, h4 => by
    cases h1
    by_cases c1 : g y = c
    · exact ⟨(x, y), List.mem_cons_self, h3, c1⟩
    · obtain ⟨q, hq, h⟩ := turn_step (xs := y :: t) (a := y) (b := b) rfl (by
        rw [show (x :: y :: t).length - 1 = ((y :: t).length - 1) + 1 from rfl, List.getElem?_cons_succ] at h2
        exact h2) c1 h4
      exact ⟨q, List.mem_cons_of_mem _ hq, h⟩
theorem PapI.le {D : Int → Int → Int} {ever : Int} {liv ks : List Int} {nb : Int → List Int} {num g : Int → Int} {us : List (List Int)} {rs : List (Int × Int)} (pp : PapI liv ks nb num us) (z : Tr3 D ever liv ks nb) (ro : RowsOf ks nb rs) (hg : ∀ x ∈ liv, g x = num x) : us.length ≤ cst g rs := by
  have ch : ∀ u : List Int, ∃ q : Int × Int, u ∈ us → q ∈ stepsI u ∧ g q.1 ≠ num (lastI u) ∧ g q.2 = num (lastI u) := fun u => by
    by_cases c : u ∈ us
    · obtain ⟨⟨l2, hk, nd, st⟩, h0, h1, _, dif⟩ := pp.1 u c
      have e1 := last_at (xs := u) (by omega)
      obtain ⟨f0, g0⟩ : ∃ f0, u[0]? = some f0 := ⟨_, List.getElem?_eq_getElem (by omega)⟩
      obtain ⟨q, hq, a, b⟩ := turn_step (g := g) (c := num (lastI u)) g0 e1 (by rw [hg _ (h0 _ g0)]; exact dif _ _ g0 e1) (hg _ (h1 _ e1))
      exact ⟨q, fun _ => ⟨hq, a, b⟩⟩
    · exact ⟨(0, 0), fun h => absurd h c⟩
  obtain ⟨f, hf⟩ := Classical.axiomOfChoice ch
  have e : us.length = (us.map fun u => (min (f u).1 (f u).2, max (f u).1 (f u).2)).length := (List.length_map _).symm
  rw [e]
  unfold cst
  refine sub_lenG ?_ fun r hr => ?_
  · refine List.pairwise_map.mpr (pp.2.imp_of_mem fun {u w} hu hw ft e2 => ?_)
    obtain ⟨q1, a1, b1⟩ := hf u hu
    obtain ⟨q2, a2, b2⟩ := hf w hw
    obtain ⟨e3, e4⟩ := Prod.mk.inj e2
    have k : ((f u).1 = (f w).1 ∧ (f u).2 = (f w).2) ∨ ((f u).1 = (f w).2 ∧ (f u).2 = (f w).1) := by omega
    rcases k with ⟨k1, k2⟩ | ⟨k1, k2⟩
    · have eq : f u = f w := Prod.ext k1 k2
      exact (ft _ q1).2 (by rw [eq]; exact q2) (by rw [← b1, ← b2, eq])
    · refine (ft _ q1).1 ?_
      have eq : ((f u).2, (f u).1) = f w := Prod.ext k2 k1
      rw [eq]
      exact q2
  · obtain ⟨u, hu, rfl⟩ := List.mem_map.mp hr
    obtain ⟨q1, a1, b1⟩ := hf u hu
    obtain ⟨i, h1, h2⟩ := mem_stepsI.mp q1
    obtain ⟨⟨_, hk, _, st⟩, _⟩ := pp.1 u hu
    have k1 := hk _ (List.mem_of_getElem? h1)
    have k2 := hk _ (List.mem_of_getElem? h2)
    have n1 := st i _ _ h1 h2
    have n2 := z.rp.sym z.t z.hU k1 n1
    have ne : (f u).1 ≠ (f u).2 := fun e => a1 (by rw [e]; exact b1)
    refine List.mem_filter.mpr ⟨(ro.2 _).mpr ?_, ?_⟩
    · by_cases c : (f u).1 < (f u).2
      · rw [Int.min_eq_left (by omega), Int.max_eq_right (by omega)]
        exact ⟨k1, n1, c⟩
      · rw [Int.min_eq_right (by omega), Int.max_eq_left (by omega)]
        exact ⟨k2, n2, by show (f u).2 < (f u).1; omega⟩
    · have : ¬ g (min (f u).1 (f u).2) = g (max (f u).1 (f u).2) := fun e => by
        by_cases c : (f u).1 < (f u).2
        · rw [Int.min_eq_left (by omega), Int.max_eq_right (by omega), b1] at e
          exact a1 e
        · rw [Int.min_eq_right (by omega), Int.max_eq_left (by omega), b1] at e
          exact a1 e.symm
      rw [decide_eq_false this]
      rfl

instance red_i_pw55 {H : Hp} {Q : VK} : Red (rPow (.int 10) (.int 55) H Q) (Q (.int 10000000000000000000000000000000000000000000000000000000) H) := ⟨fun h => pow_go rfl (by decide) h⟩
theorem put_last {pr : List (Int × Int)} {w n m : Int} (h : w ∉ pr.map (·.1)) : putK ((pr ++ [(w, n)]).map kN) (.inl w) (.int m) = (pr ++ [(w, m)]).map kN := by
  unfold putK
  rw [if_pos (List.any_eq_true.mpr ⟨kN (w, n), List.mem_map.mpr ⟨_, List.mem_append_right _ (List.mem_singleton.mpr rfl), rfl⟩, decide_eq_true rfl⟩), List.map_map, List.map_append, List.map_append]
  congr 1
  · refine List.map_congr_left fun q hq => ?_
    show (if (kN q).1 = Sum.inl w then ((kN q).1, V.int m) else kN q) = kN q
    rw [if_neg]
    intro e
    have e : (Sum.inl q.1 : Key) = .inl w := e
    injection e with e
    exact h (by rw [← e]; exact List.mem_map.mpr ⟨q, hq, rfl⟩)
  · show [if (Sum.inl w : Key) = Sum.inl w then ((Sum.inl w : Key), V.int m) else kN (w, n)] = [((Sum.inl w : Key), V.int m)]
    rw [if_pos rfl]
theorem look_fst {prs ex : List (Int × Int)} {x : Int} (h : x ∈ prs.map (·.1)) : look (prs ++ ex) x = look prs x := by
  unfold look
  rw [List.find?_append]
  obtain ⟨q, hq, e⟩ := List.mem_map.mp h
  cases f : prs.find? fun q => decide (q.1 = x) with
  | none =>
    have := List.find?_eq_none.mp f q hq
    exact absurd (decide_eq_true e) (by simpa using this)
  | some y => rfl
def sp_kept53 (K : PySem.W.Frag) : Sp := fun vs H Q _ => ∃ (p Te L F W dn : Addr) (ever : Int) (liv fs : List Int) (prs : List (Int × Int)), vs = [.ref p, .ref Te, .ref dn] ∧ PotAt H p ∧ SqT K H Te [.int ever, .ref L, .ref F, .ref W] ∧ H L = some (.lst (liv.map V.int)) ∧ H F = some (.lst (fs.map V.int)) ∧ L ≠ p ∧ F ≠ p ∧ (liv ++ fs).Nodup ∧ liv ≠ [] ∧ liv.length + fs.length ≤ 100 ∧ H dn = some (.dK (prs.map kN)) ∧ dn ≠ p ∧ prs.map (·.1) = liv ∧
  ∀ R (out : List (Int × Int)) H', Fr H R → PotAt H' p → Kp [p] H H' → H' R = some (.dK (out.map kN)) → out.map (·.1) = liv ++ fs → (∀ x ∈ liv, look out x = look prs x) → Q (.ref R) H'
theorem sc_law_kept : FnScope ["_law_pot_here", "_law_tree_here", "_law_given_here", "_law_found", "_law_label", "_law_way"] ["_law_pot_here", "_law_tree_here", "_law_given_here"] (defScope s_law_kept) :=
  ⟨rfl, rfl, rfl, by decide +kernel, rfl, by decide +kernel, by decide +kernel⟩
theorem ok_law_kept {P : Program} {w : World} {K : PySem.W.Frag} {mg : Str → Option Value} {base : Heap} (T : Txt K mg) :
    FnG P w K mg base 2 T.a_law_kept T.d_law_kept ["_law_pot_here", "_law_tree_here", "_law_given_here"] (sp_kept53 K) := by
  refine okD T.F_law_kept sc_law_kept (fun vs H Q E h => ?_) (fun cdv A outer s H vs Q E hr h => ?_)
  · first
      | (obtain ⟨_, rfl, _⟩ := h; rfl)
      | (obtain ⟨_, _, rfl, _⟩ := h; rfl)
      | (obtain ⟨_, _, _, rfl, _⟩ := h; rfl)
      | (obtain ⟨_, _, _, _, rfl, _⟩ := h; rfl)
      | (obtain ⟨_, _, _, _, _, rfl, _⟩ := h; rfl)
      | (obtain ⟨_, _, _, _, _, _, rfl, _⟩ := h; rfl)
      | (obtain ⟨_, _, _, _, _, _, _, rfl, _⟩ := h; rfl)
      | (obtain ⟨_, _, _, _, _, _, _, _, rfl, _⟩ := h; rfl)
      | (obtain ⟨_, _, _, _, _, _, _, _, _, rfl, _⟩ := h; rfl)
      | (obtain ⟨_, _, _, _, _, _, _, _, _, _, rfl, _⟩ := h; rfl)
      | (obtain ⟨_, _, _, _, _, _, _, _, _, _, _, rfl, _⟩ := h; rfl)
      | (obtain ⟨_, _, _, _, _, _, _, _, _, _, _, _, rfl, _⟩ := h; rfl)
      | (obtain ⟨_, _, _, _, _, _, _, _, _, _, _, _, _, rfl, _⟩ := h; rfl)
      | (obtain ⟨_, _, _, _, _, _, _, _, _, _, _, _, _, _, rfl, _⟩ := h; rfl)
      | (obtain ⟨_, _, _, _, _, _, _, _, _, _, _, _, _, _, _, rfl, _⟩ := h; rfl)
      | (obtain ⟨_, _, _, _, _, _, _, _, _, _, _, _, _, _, _, _, rfl, _⟩ := h; rfl)
      | (obtain ⟨_, _, _, _, _, _, _, _, _, _, _, _, _, _, _, _, _, rfl, _⟩ := h; rfl)
      | (obtain ⟨_, _, _, _, _, _, _, _, _, _, _, _, _, _, _, _, _, _, rfl, _⟩ := h; rfl)
      | (obtain ⟨_, _, _, _, _, _, _, _, _, _, _, _, _, _, _, _, _, _, _, rfl, _⟩ := h; rfl)
  · obtain ⟨p, Te, L, F, W, dn, ever, liv, fs, prs, rfl, hp, hT, hL, hF, npL, npF, nd, ne, ll, hdn, npD, kp, k⟩ := h
    have lp : prs.length = liv.length := by rw [← kp, List.length_map]
    refine ⟨_, (pss_cons (ps_set (i := 3) sc_law_kept.nd rfl (Or.inl rfl) (pe_callTy call_dictD (by rfl) T.n_dict (by decide +kernel) (pa_cons (pv 2) pa_nil)))
      (pss_cons (ps_for (passes_of rfl) rfl (k_plist (K := K) rfl (pe_ix (k_ix (K := K) rfl) (pv 1) pe_int (fun _ _ => rfl))) (pg_name (i := 4) sc_law_kept.nd rfl (Or.inl rfl))
      (pss_cons (ps_set (i := 5) sc_law_kept.nd rfl (Or.inl rfl) (d1 (ok_law_draw T) (hr.mono (by decide)) (by rfl) T.m_law_draw T.F_law_draw.kp T.b_law_draw passL (pa_cons (pv 0) (pa_cons pe_int pa_nil))))
      (pss_cons (ps_asg (pe_op (k_add (K := K) rfl) (pe_op o_pow pe_int pe_int) (pv 5)) (pg_sub (pv 3) (pv 4) (set_dict (u1 hr.r.units))))
      (pss_one (ps_if (pt_cmpR op_gt (pv 5) pe_int (nomark _)) (pss_one (ps_asg (pe_dget (u1 hr.r.units) (pv 2) (pe_ix (k_ix (K := K) rfl) (pe_ix (k_ix (K := K) rfl) (pv 1) pe_int (fun _ _ => rfl)) (d1 (ok_law_draw T) (hr.mono (by decide)) (by rfl) T.m_law_draw T.F_law_draw.kp T.b_law_draw passL (pa_cons (pv 0) (pa_cons (pe_callB (k_len (K := K) rfl) (by rfl) T.n_len (by decide +kernel) (pa_cons (pe_ix (k_ix (K := K) rfl) (pv 1) pe_int (fun _ _ => rfl)) pa_nil)) pa_nil))) (fun _ _ => rfl)) (fun _ _ => rfl)) (pg_sub (pv 3) (pv 4) (set_dict (u1 hr.r.units))))) pss_nil)))))
      (pss_one (ps_ret (pv 3))))), ?_⟩
    dsimp only [cxOf, st_1, st_2, st_3, st_4, st_5, st_6, List.length_cons, List.length_nil, List.replicate_succ, List.replicate_zero, Nat.reduceAdd, Nat.reduceSub]
    walk_at "gs"
    refine ⟨dn, _, rfl, Rd.of hdn, fun R fR => ?_⟩
    have fR : Fr H R := ⟨fR⟩
    have kR := Kp.new (ws := []) (o := HO.dK (prs.map kN)) fR
    have hR := fresh_at (o := HO.dK (prs.map kN)) fR
    have npR : R ≠ p := Ne.symm (hp.ne fR)
    have nRD : dn ≠ R := fr_ne hdn fR
    have nRL : L ≠ R := fr_ne hL fR
    have nRF : F ≠ R := fr_ne hF fR
    have hp1 := hp.kp kR not_nil
    obtain ⟨H1, e1⟩ : ∃ H1, H1 = upd H R (.dK (prs.map kN)) := ⟨_, rfl⟩
    rw [← e1] at kR hR hp1 ⊢
    have hT1 := kR.seqT hT
    have hF1 := kR.at_ _ _ hF not_nil
    have wP : ∀ {H' H'' : Hp}, Kp [p] H' H'' → Kp [p, R] H' H'' := fun kk => kk.mono fun b hb => by rw [List.mem_singleton.mp hb]; exact List.mem_cons_self
    have wR : ∀ {H' H'' : Hp}, Kp [R] H' H'' → Kp [p, R] H' H'' := fun kk => kk.mono fun b hb => by rw [List.mem_singleton.mp hb]; exact List.mem_cons_of_mem _ List.mem_cons_self
    walk_at "gs"
    refine i_each (SqL.of hF1) (fun i σ H' => ∃ (o4 o5 : Option V) (ex : List (Int × Int)), σ = [some (.ref p), some (.ref Te), some (.ref dn), some (.ref R), o4, o5] ∧ PotAt H' p ∧ Kp [p, R] H1 H' ∧ H' R = some (.dK ((prs ++ ex).map kN)) ∧ ex.map (·.1) = fs.take i) ?_ ?_ ?_ ?_
    · exact ⟨_, _, [], rfl, hp1, Kp.refl, by rw [List.append_nil]; exact hR, rfl⟩
    · rintro i σ H' _ ⟨_, _, _, _, _, kk, _⟩
      exact SqL.of (kk.at_ _ _ hF1 (not_two npF nRF))
    · rintro i y σ H2 hy ⟨o4, o5, ex, rfl, hp2, k2, hR2, ek⟩
      obtain ⟨w, hw, e⟩ := map_get hy
      subst e
      have il := (List.getElem?_eq_some_iff.mp hw).1
      have keys : (prs ++ ex).map (·.1) = liv ++ fs.take i := by rw [List.map_append, kp, ek]
      have wn : w ∉ (prs ++ ex).map (·.1) := fun h => by
        rw [keys] at h
        rcases List.mem_append.mp h with h | h
        · exact (List.nodup_append.mp nd).2.2 w h w (List.mem_of_getElem? hw) rfl
        · exact nd_take.mp (List.nodup_append.mp nd).2.1 i w hw h
      have lex : ex.length = i := by
        have := congrArg List.length ek
        rw [List.length_map, List.length_take] at this
        omega
      walk_at "gs"
      refine use_draw hp2 (by decide) (by decide) (fun r H3 r0 r1 hp3 k3 => ?_)
      have hR3 := k3.at_ _ _ hR2 (not_one npR)
      have lR : ((prs ++ ex).map kN).length ≤ 1000000 := by rw [List.length_map, List.length_append]; omega
      walk_at "gs"
      refine i_setK hR3 lR ?_
      rw [put_kN wn]
      have kS : Kp [R] H3 (upd H3 R (.dK ((prs ++ ex ++ [(w, 10000000000000000000000000000000000000000000000000000000 + r)]).map kN))) := kp_set hR3 (fun z => z)
      have hR4 : upd H3 R (.dK ((prs ++ ex ++ [(w, 10000000000000000000000000000000000000000000000000000000 + r)]).map kN)) R = some (.dK ((prs ++ ex ++ [(w, 10000000000000000000000000000000000000000000000000000000 + r)]).map kN)) := upd_same
      have hp4 := hp3.kp kS (not_one (Ne.symm npR))
      obtain ⟨H4, e4⟩ : ∃ H4, H4 = upd H3 R (.dK ((prs ++ ex ++ [(w, 10000000000000000000000000000000000000000000000000000000 + r)]).map kN)) := ⟨_, rfl⟩
      rw [← e4] at kS hR4 hp4 ⊢
      have k14 : Kp [p, R] H1 H4 := Kp.trans k2 (Kp.trans (wP k3) (wR kS))
      have next : fs.take (i + 1) = fs.take i ++ [w] := by rw [List.take_add_one, hw]; rfl
      walk_at "gs"
      refine i_dec (fun c => ?_) (fun c => ?_)
      · have hT4 := k14.seqT hT1
        have hL4 := k14.at_ _ _ (kR.at_ _ _ hL not_nil) (not_two npL nRL)
        have hdn4 := k14.at_ _ _ (kR.at_ _ _ hdn not_nil) (not_two npD nRD)
        have hsL4 := SqL.of (K := K) hL4
        have lL : (liv.map V.int).length = liv.length := List.length_map ..
        have l0 := List.length_pos_iff.mpr ne
        walk_at "gs"
        refine use_draw hp4 (by omega) (by omega) (fun q H5 q0 q1 hp5 k5 => ?_)
        obtain ⟨v, hv, hm⟩ := at_in (l := liv.map V.int) q0 q1
        obtain ⟨b, hb, e⟩ := List.mem_map.mp hm
        subst e
        have hL5 := k5.at_ _ _ hL4 (not_one npL)
        have hsL5 := SqL.of (K := K) hL5
        have hdn5 := k5.at_ _ _ hdn4 (not_one npD)
        have hR5 := k5.at_ _ _ hR4 (not_one npR)
        have v1 := (look_mem (w := b) (ps := prs) (by rw [kp]; exact hb)).2
        walk_at "gs"
        refine i_dg hdn5 v1 ?_
        have lR5 : ((prs ++ ex ++ [(w, 10000000000000000000000000000000000000000000000000000000 + r)]).map kN).length ≤ 1000000 := by rw [List.length_map, List.length_append, List.length_append, List.length_singleton]; omega
        walk_at "gs"
        refine i_setK hR5 lR5 ?_
        rw [put_last wn]
        have kS2 : Kp [R] H5 (upd H5 R (.dK ((prs ++ ex ++ [(w, look prs b)]).map kN))) := kp_set hR5 (fun z => z)
        walk_at "gs"
        exact ⟨_, _, ex ++ [(w, look prs b)], rfl, hp5.kp kS2 (not_one (Ne.symm npR)), Kp.trans k14 (Kp.trans (wP k5) (wR kS2)), by rw [← List.append_assoc]; exact upd_same, by rw [List.map_append, ek, next]; rfl⟩
      · walk_at "gs"
        exact ⟨_, _, ex ++ [(w, 10000000000000000000000000000000000000000000000000000000 + r)], rfl, hp4, k14, by rw [← List.append_assoc]; exact hR4, by rw [List.map_append, ek, next]; rfl⟩
    · rintro σ H2 ⟨o4, o5, ex, rfl, hp2, k2, hR2, ek⟩
      rw [List.length_map, List.take_length] at ek
      walk_at "gs"
      refine k R (prs ++ ex) H2 fR hp2 ?_ hR2 (by rw [List.map_append, kp, ek]) (fun x hx => look_fst (by rw [kp]; exact hx))
      refine (Kp.trans (kR.wide (ws := [p, R])) k2).dropAll fun b hb => ?_
      rcases List.mem_cons.mp hb with e | hb
      · exact .inl (by rw [e]; exact List.mem_cons_self)
      · exact .inr (by rw [List.mem_singleton.mp hb]; exact fR)
def sp_lcost53 (K : PySem.W.Frag) : Sp := fun vs H Q _ => ∃ (Te L F W dn : Addr) (ever : Int) (rs : List (Int × Int)) (out : List (Int × Int)), vs = [.ref Te, .ref dn] ∧ SqT K H Te [.int ever, .ref L, .ref F, .ref W] ∧ LD K H W (rs.map d2) ∧ rs.length ≤ 1000 ∧ H dn = some (.dK (out.map kN)) ∧ (∀ q ∈ rs, q.1 ∈ out.map (·.1) ∧ q.2 ∈ out.map (·.1)) ∧
  ∀ H', Kp [] H H' → Q (.int (cst (look out) rs)) H'
theorem sc_law_cost : FnScope ["_law_tree_here", "_law_kept_here", "_law_row"] ["_law_tree_here", "_law_kept_here"] (defScope s_law_cost) :=
  ⟨rfl, rfl, rfl, by decide +kernel, rfl, by decide +kernel, by decide +kernel⟩
theorem ok_law_cost {P : Program} {w : World} {K : PySem.W.Frag} {mg : Str → Option Value} {base : Heap} (T : Txt K mg) :
    FnG P w K mg base 1 T.a_law_cost T.d_law_cost ["_law_tree_here", "_law_kept_here"] (sp_lcost53 K) := by
  refine okD T.F_law_cost sc_law_cost (fun vs H Q E h => ?_) (fun cdv A outer s H vs Q E hr h => ?_)
  · first
      | (obtain ⟨_, rfl, _⟩ := h; rfl)
      | (obtain ⟨_, _, rfl, _⟩ := h; rfl)
      | (obtain ⟨_, _, _, rfl, _⟩ := h; rfl)
      | (obtain ⟨_, _, _, _, rfl, _⟩ := h; rfl)
      | (obtain ⟨_, _, _, _, _, rfl, _⟩ := h; rfl)
      | (obtain ⟨_, _, _, _, _, _, rfl, _⟩ := h; rfl)
      | (obtain ⟨_, _, _, _, _, _, _, rfl, _⟩ := h; rfl)
      | (obtain ⟨_, _, _, _, _, _, _, _, rfl, _⟩ := h; rfl)
      | (obtain ⟨_, _, _, _, _, _, _, _, _, rfl, _⟩ := h; rfl)
      | (obtain ⟨_, _, _, _, _, _, _, _, _, _, rfl, _⟩ := h; rfl)
      | (obtain ⟨_, _, _, _, _, _, _, _, _, _, _, rfl, _⟩ := h; rfl)
      | (obtain ⟨_, _, _, _, _, _, _, _, _, _, _, _, rfl, _⟩ := h; rfl)
      | (obtain ⟨_, _, _, _, _, _, _, _, _, _, _, _, _, rfl, _⟩ := h; rfl)
      | (obtain ⟨_, _, _, _, _, _, _, _, _, _, _, _, _, _, rfl, _⟩ := h; rfl)
      | (obtain ⟨_, _, _, _, _, _, _, _, _, _, _, _, _, _, _, rfl, _⟩ := h; rfl)
      | (obtain ⟨_, _, _, _, _, _, _, _, _, _, _, _, _, _, _, _, rfl, _⟩ := h; rfl)
      | (obtain ⟨_, _, _, _, _, _, _, _, _, _, _, _, _, _, _, _, _, rfl, _⟩ := h; rfl)
      | (obtain ⟨_, _, _, _, _, _, _, _, _, _, _, _, _, _, _, _, _, _, rfl, _⟩ := h; rfl)
      | (obtain ⟨_, _, _, _, _, _, _, _, _, _, _, _, _, _, _, _, _, _, _, rfl, _⟩ := h; rfl)
  · obtain ⟨Te, L, F, W, dn, ever, rs, out, rfl, hT, ldW, lr, hdn, mem, k⟩ := h
    obtain ⟨vsW, hW, avW⟩ := id ldW
    have lW := dpa_len avW
    rw [List.length_map] at lW
    refine ⟨_, (pss_one (ps_ret (pe_callB (k_len (K := K) rfl) (by rfl) T.n_len (by decide +kernel) (pa_cons (pe_lc (own := [("_law_row", 2)]) (g := (gName 2)) rfl sc_law_cost.nd (k_plist (K := K) rfl (pe_ix (k_ix (K := K) rfl) (pv 0) pe_int (fun _ _ => rfl))) (blkOk_by (own := [("_law_row", 2)]) (N := ["_law_tree_here", "_law_kept_here", "_law_row"]) (sc := defScope s_law_cost) (by decide +kernel)) (fun _ _ _ _ _ => (pg_name (i := 2) sc_law_cost.nd rfl (Or.inl rfl))) (fun _ _ _ _ _ => (pts_one (pt_cmpR (k_ne (K := K) rfl hr.r.units) (pe_dget (u1 hr.r.units) (pv 1) (pe_ix (k_ix (K := K) rfl) (pv 2) pe_int (fun _ _ => rfl)) (fun _ _ => rfl)) (pe_dget (u1 hr.r.units) (pv 1) (pe_ix (k_ix (K := K) rfl) (pv 2) pe_int (fun _ _ => rfl)) (fun _ _ => rfl)) (nomark _)))) (fun _ _ _ _ _ => (pv 2))) pa_nil)))), ?_⟩
    dsimp only [cxOf, st_1, st_2, st_3, st_4, st_5, st_6, List.length_cons, List.length_nil, List.replicate_succ, List.replicate_zero, Nat.reduceAdd, Nat.reduceSub]
    walk_at "gs"
    refine i_elts (SqL.of hW) (fun G i H' => Kp [] H H' ∧ ∃ ys, H' G = some (.lst ys) ∧ ys.length = ((rs.take i).filter fun q => !decide (look out q.1 = look out q.2)).length) ?_ ?_ ?_ ?_
    · intro G fG
      exact ⟨Kp.new fG, [], upd_same, rfl⟩
    · rintro G i H' fG _ ⟨kk, _⟩
      exact SqL.of (kk.at_ _ _ hW not_nil)
    · rintro G i y H' fG hy ⟨kk, ys, hG, ly⟩
      obtain ⟨dd, hdd, hdp⟩ := dpa_getV avW hy
      obtain ⟨q, hq, rfl⟩ := map_get hdd
      obtain ⟨T0, rfl, hT0⟩ := dp_pair (dp_imm kk _ _ rfl hdp)
      obtain ⟨m1, m2⟩ := mem q (List.mem_of_getElem? hq)
      have v1 := (look_mem m1).2
      have v2 := (look_mem m2).2
      have hdn1 := kk.at_ _ _ hdn not_nil
      have lf := List.length_filter_le (fun q => !decide (look out q.1 = look out q.2)) (rs.take i)
      rw [List.length_take] at lf
      have at0 : atI [V.int q.1, V.int q.2] 0 = some (.int q.1) := rfl
      have at1 : atI [V.int q.1, V.int q.2] 1 = some (.int q.2) := rfl
      have fs1 := filter_step (f := fun q => !decide (look out q.1 = look out q.2)) hq
      walk_at "gs"
      refine i_dg hdn1 v1 ?_
      walk_at "gs"
      refine i_dg hdn1 v2 ?_
      walk_at "gs"
      refine i_decN (fun c => ?_) (fun c => ?_)
      · walk_at "gs"
        refine ⟨_, hG, small_sz (by omega), Kp.upd kk fG, _, upd_same, ?_⟩
        rw [fs1, if_pos (by rw [decide_eq_false c]; rfl), List.length_append, List.length_append, ly]
        rfl
      · refine ⟨kk, ys, hG, ?_⟩
        rw [fs1, if_neg (by rw [decide_eq_true c]; decide), List.append_nil]
        exact ly
    rintro G H1 fG ⟨k1, ys, hG, ly⟩
    rw [lW, List.take_length] at ly
    walk_at "gs"
    have e : ((ys.length : Nat) : Int) = (cst (look out) rs : Nat) := by rw [ly]; rfl
    rw [e]
    exact k H1 k1

theorem srt_lt {l : List Int} (nd : l.Nodup) : (srt l).Pairwise (· < ·) := by
  have p := srt_perm l
  refine strict_of (.refl _) (p.nodup_iff.mpr nd) ?_
  exact (List.pairwise_mergeSort (le := fun a b : Int => decide (a ≤ b)) (fun a b c h1 h2 => decide_eq_true (Int.le_trans (of_decide_eq_true h1) (of_decide_eq_true h2))) (fun a b => by
    by_cases c : a ≤ b
    · rw [decide_eq_true c]; rfl
    · rw [decide_eq_true (show b ≤ a by omega), Bool.or_true]) l).imp fun h => of_decide_eq_true h

theorem nums_ex (prs : List (Int × Int)) : ∃ nums, NumsOf prs nums := by
  refine ⟨srt ((prs.map (·.2)).foldl addK []), srt_lt (foldK_nd _ _ .nil), fun n => ?_⟩
  rw [(srt_perm _).mem_iff, mem_foldK]
  exact ⟨fun h => h.elim (fun h => nomatch h) id, .inr⟩

def sp_law (K : PySem.W.Frag) : Sp := fun vs H Q _ => ∃ (a : Addr) (ns : List Int),
  vs = [.ref a] ∧ SqL K H a (ns.map V.int) ∧ ns.length ≤ 63 ∧ ∀ H', Q (.bl true) H'
theorem sc_law : FnScope ["_law_script", "_law_k", "_law_pot_here", "_law_tree_here", "_law_given_here", "_law_ties_here", "_law_ways", "_law_papers", "_law_most", "_law_kept_here", "_law_due", "_law_turn", "_law_one"] ["_law_script"] (defScope s_law) :=
  ⟨rfl, rfl, rfl, by decide +kernel, rfl, by decide +kernel, by decide +kernel⟩
theorem ok_law {P : Program} {w : World} {K : PySem.W.Frag} {mg : Str → Option Value} {base : Heap} (T : Txt K mg) :
    FnG P w K mg base 8 T.a_law T.d_law ["_law_script"] (sp_law K) := by
  refine okD T.F_law sc_law (fun vs H Q E h => ?_) (fun cdv A outer s H vs Q E hr h => ?_)
  · first
      | (obtain ⟨_, rfl, _⟩ := h; rfl)
      | (obtain ⟨_, _, rfl, _⟩ := h; rfl)
      | (obtain ⟨_, _, _, rfl, _⟩ := h; rfl)
      | (obtain ⟨_, _, _, _, rfl, _⟩ := h; rfl)
      | (obtain ⟨_, _, _, _, _, rfl, _⟩ := h; rfl)
      | (obtain ⟨_, _, _, _, _, _, rfl, _⟩ := h; rfl)
      | (obtain ⟨_, _, _, _, _, _, _, rfl, _⟩ := h; rfl)
      | (obtain ⟨_, _, _, _, _, _, _, _, rfl, _⟩ := h; rfl)
      | (obtain ⟨_, _, _, _, _, _, _, _, _, rfl, _⟩ := h; rfl)
      | (obtain ⟨_, _, _, _, _, _, _, _, _, _, rfl, _⟩ := h; rfl)
      | (obtain ⟨_, _, _, _, _, _, _, _, _, _, _, rfl, _⟩ := h; rfl)
      | (obtain ⟨_, _, _, _, _, _, _, _, _, _, _, _, rfl, _⟩ := h; rfl)
      | (obtain ⟨_, _, _, _, _, _, _, _, _, _, _, _, _, rfl, _⟩ := h; rfl)
      | (obtain ⟨_, _, _, _, _, _, _, _, _, _, _, _, _, _, rfl, _⟩ := h; rfl)
      | (obtain ⟨_, _, _, _, _, _, _, _, _, _, _, _, _, _, _, rfl, _⟩ := h; rfl)
      | (obtain ⟨_, _, _, _, _, _, _, _, _, _, _, _, _, _, _, _, rfl, _⟩ := h; rfl)
      | (obtain ⟨_, _, _, _, _, _, _, _, _, _, _, _, _, _, _, _, _, rfl, _⟩ := h; rfl)
      | (obtain ⟨_, _, _, _, _, _, _, _, _, _, _, _, _, _, _, _, _, _, rfl, _⟩ := h; rfl)
      | (obtain ⟨_, _, _, _, _, _, _, _, _, _, _, _, _, _, _, _, _, _, _, rfl, _⟩ := h; rfl)
  · obtain ⟨s, ns, rfl, hsq, hns, k⟩ := h
    refine ⟨_, (pss_cons (ps_for (passes_of rfl) rfl (pi_range1 (by rfl) T.n_range (pa_cons (pe_callB (c_max2 rfl) (by rfl) T.n_max (by decide +kernel) (pa_cons pe_int (pa_cons (pe_callB (c_min2 rfl) (by rfl) T.n_min (by decide +kernel) (pa_cons (pe_callB (k_len (K := K) rfl) (by rfl) T.n_len (by decide +kernel) (pa_cons (pv 0) pa_nil)) (pa_cons pe_int pa_nil))) pa_nil))) pa_nil)) (pg_name (i := 1) sc_law.nd rfl (Or.inl rfl))
      (pss_cons (ps_set (i := 2) sc_law.nd rfl (Or.inr rfl) (d1 (ok_law_pot T) (hr.mono (by decide)) (by rfl) T.m_law_pot T.F_law_pot.kp T.b_law_pot passL (pa_cons (pv 0) (pa_cons (pv 1) pa_nil))))
      (pss_cons (ps_set (i := 3) sc_law.nd rfl (Or.inr rfl) (d1 (ok_law_tree T) (hr.mono (by decide)) (by rfl) T.m_law_tree T.F_law_tree.kp T.b_law_tree passL (pa_cons (pv 2) (pa_cons pe_int pa_nil))))
      (pss_cons (ps_set (i := 4) sc_law.nd rfl (Or.inr rfl) (d1 (ok_law_given T) (hr.mono (by decide)) (by rfl) T.m_law_given T.F_law_given.kp T.b_law_given passL (pa_cons (pv 2) (pa_cons (pv 3) pa_nil))))
      (pss_cons (ps_set (i := 5) sc_law.nd rfl (Or.inr rfl) (d1 (ok_ties_of T) (hr.mono (by decide)) (by rfl) T.m_ties_of T.F_ties_of.kp T.b_ties_of passL (pa_cons (pe_ix (k_ix (K := K) rfl) (pv 3) pe_int (fun _ _ => rfl)) (pa_cons (pe_callTy (k_list (K := K) rfl) (by rfl) T.n_list (by decide +kernel) (pa_cons (pe_ix (k_ix (K := K) rfl) (pv 3) pe_int (fun _ _ => rfl)) pa_nil)) (pa_cons (pe_callTy (k_list (K := K) rfl) (by rfl) T.n_list (by decide +kernel) (pa_cons (pe_ix (k_ix (K := K) rfl) (pv 3) pe_int (fun _ _ => rfl)) pa_nil)) (pa_cons (pe_callTy (k_list (K := K) rfl) (by rfl) T.n_list (by decide +kernel) (pa_cons (pe_ix (k_ix (K := K) rfl) (pv 3) pe_int (fun _ _ => rfl)) pa_nil)) pa_nil))))))
      (pss_cons (ps_set (i := 6) sc_law.nd rfl (Or.inr rfl) (d1 (ok_law_all_ways T) (hr.mono (by decide)) (by rfl) T.m_law_all_ways T.F_law_all_ways.kp T.b_law_all_ways passL (pa_cons (pv 3) (pa_cons (pv 4) pa_nil))))
      (pss_cons (ps_setLc (i := 7) (own := [("_law_turn", 11)]) (g := (gName 11)) (tt := tYes) rfl sc_law.nd rfl rfl (sw_true rfl rfl rfl (by decide +kernel)) (pi_range1 (by rfl) T.n_range (pa_cons pe_int pa_nil)) (blkOk_by (own := [("_law_turn", 11)]) (N := ["_law_script", "_law_k", "_law_pot_here", "_law_tree_here", "_law_given_here", "_law_ties_here", "_law_ways", "_law_papers", "_law_most", "_law_kept_here", "_law_due", "_law_turn", "_law_one"]) (sc := defScope s_law) (by decide +kernel)) (fun _ _ _ _ _ => (pg_name (i := 11) sc_law.nd rfl (Or.inl rfl))) (fun _ _ _ _ _ => pts_nil) (fun _ _ _ _ _ => (d1 (ok_law_grown T) (hr.mono (by decide)) (by rfl) T.m_law_grown T.F_law_grown.kp T.b_law_grown passL (pa_cons (pv 2) (pa_cons (pv 5) (pa_cons (pv 4) (pa_cons (pv 6) pa_nil)))))))
      (pss_cons (ps_set (i := 8) sc_law.nd rfl (Or.inl rfl) (pe_callB (k_max1 (K := K) rfl rfl) (by rfl) T.n_max (by decide +kernel) (pa_cons (pe_lc (own := [("_law_one", 12)]) (g := (gName 12)) (tt := tYes) rfl sc_law.nd (k_plist (K := K) rfl (pv 7)) (blkOk_by (own := [("_law_one", 12)]) (N := ["_law_script", "_law_k", "_law_pot_here", "_law_tree_here", "_law_given_here", "_law_ties_here", "_law_ways", "_law_papers", "_law_most", "_law_kept_here", "_law_due", "_law_turn", "_law_one"]) (sc := defScope s_law) (by decide +kernel)) (fun _ _ _ _ _ => (pg_name (i := 12) sc_law.nd rfl (Or.inl rfl))) (fun _ _ _ _ _ => pts_nil) (fun _ _ _ _ _ => (pe_callB (k_len (K := K) rfl) (by rfl) T.n_len (by decide +kernel) (pa_cons (pv 12) pa_nil)))) pa_nil)))
      (pss_cons (ps_if (pt_cmpR op_lt (d1 (ok_least_cost T) (hr.mono (by decide)) (by rfl) T.m_least_cost T.F_least_cost.kp T.b_least_cost passL (pa_cons (pv 5) (pa_cons (pv 4) pa_nil))) (pv 8) (nomark _)) (pss_one (ps_ret pe_bl)) pss_nil)
      (pss_one (ps_for (passes_of rfl) rfl (k_plist (K := K) rfl (pe_op (k_add (K := K) rfl) (pe_lc (own := [("_law_turn", 11)]) (g := (gName 11)) (tt := tYes) rfl sc_law.nd (pi_range1 (by rfl) T.n_range (pa_cons pe_int pa_nil)) (blkOk_by (own := [("_law_turn", 11)]) (N := ["_law_script", "_law_k", "_law_pot_here", "_law_tree_here", "_law_given_here", "_law_ties_here", "_law_ways", "_law_papers", "_law_most", "_law_kept_here", "_law_due", "_law_turn", "_law_one"]) (sc := defScope s_law) (by decide +kernel)) (fun _ _ _ _ _ => (pg_name (i := 11) sc_law.nd rfl (Or.inl rfl))) (fun _ _ _ _ _ => pts_nil) (fun _ _ _ _ _ => (d1 (ok_law_kept T) (hr.mono (by decide)) (by rfl) T.m_law_kept T.F_law_kept.kp T.b_law_kept passL (pa_cons (pv 2) (pa_cons (pv 3) (pa_cons (pv 4) pa_nil)))))) (pe_lst (pa_cons (d1 (ok_the_keeping T) (hr.mono (by decide)) (by rfl) T.m_the_keeping T.F_the_keeping.kp T.b_the_keeping passL (pa_cons (pv 5) (pa_cons (pv 4) pa_nil))) pa_nil)))) (pg_name (i := 9) sc_law.nd rfl (Or.inl rfl))
      (pss_cons (ps_set (i := 10) sc_law.nd rfl (Or.inl rfl) (d1 (ok_law_cost T) (hr.mono (by decide)) (by rfl) T.m_law_cost T.F_law_cost.kp T.b_law_cost passL (pa_cons (pv 3) (pa_cons (pv 9) pa_nil))))
      (pss_one (ps_if (PW.pt (pw_or (pt_cmpR op_lt (pv 10) (pv 8) (nomark _)) (pw_or1 (pt_cmpR (k_ne (K := K) rfl hr.r.units) (d1 (ok_cost_of T) (hr.mono (by decide)) (by rfl) T.m_cost_of T.F_cost_of.kp T.b_cost_of passL (pa_cons (pv 5) (pa_cons (pv 9) pa_nil))) (pv 10) (nomark _))))) (pss_one (ps_ret pe_bl)) pss_nil))))))))))))))
      (pss_one (ps_ret pe_bl))), ?_⟩
    dsimp only [cxOf, st_1, st_2, st_3, st_4, st_5, st_6, List.length_cons, List.length_nil, List.replicate_succ, List.replicate_zero, Nat.reduceAdd, Nat.reduceSub]
    walk_at "gs"
    rw [List.length_map]
    refine i_turns (by omega) (by omega) (fun i σ H' => ∃ (o1 o2 o3 o4 o5 o6 o7 o8 o9 o10 : Option V), σ = [some (.ref s), o1, o2, o3, o4, o5, o6, o7, o8, o9, o10, none, none] ∧ Kp [] H H') ?_ ?_ ?_
    · exact ⟨_, _, _, _, _, _, _, _, _, _, rfl, Kp.refl⟩
    · rintro i0 σ H1 hi ⟨o1, o2, o3, o4, o5, o6, o7, o8, o9, o10, rfl, k1⟩
      walk_at "gs"
      refine ⟨s, ns, i0, rfl, k1.seqL not_nil hsq, by omega, fun p H2 fp k2 hp2 => ?_⟩
      walk_at "gs"
      refine ⟨p, 12, rfl, hp2, by omega, fun R L F W ever liv fs rs H3 hp3 k3 hR hL hF ldW fR fL fF fW dr l12 lm le => ?_⟩
      have hsR : SqT K H3 R [.int ever, .ref L, .ref F, .ref W] := SqT.of hR
      obtain ⟨D, z⟩ := dr.ex
      have npL : L ≠ p := Ne.symm (hp2.ne fL)
      have npF : F ≠ p := Ne.symm (hp2.ne fF)
      have npW : W ≠ p := Ne.symm (hp2.ne fW)
      have rmax := rows_max z dr.ro
      rw [List.length_append] at rmax
      have e0 := z.e0
      walk_at "gs"
      refine ⟨p, R, L, F, W, ever, liv, rfl, hp3, hsR, hL, npL, z.nl, by omega, fun G prs H4 hp4 k4 fG hG kp okp => ?_⟩
      have npG : G ≠ p := Ne.symm (hp3.ne fG)
      have hsR4 := k4.seqT hsR
      have hL4 := k4.at_ _ _ hL (not_one npL)
      have hF4 := k4.at_ _ _ hF (not_one npF)
      have ldW4 := ldW.kp k4 (imms_d2 _) (not_one npW)
      obtain ⟨vsW, hW4, avW⟩ := id ldW4
      walk_at "gs"
      refine i_new fun L2_ fL2 => ?_
      have kA := Kp.new (ws := []) (o := HO.lst (liv.map V.int)) fL2
      have hL2 := fresh_at (o := HO.lst (liv.map V.int)) fL2
      obtain ⟨H5, e5⟩ : ∃ H5, H5 = upd H4 L2_ (.lst (liv.map V.int)) := ⟨_, rfl⟩
      rw [← e5] at kA hL2 ⊢
      have hsR5 := kA.seqT hsR4
      have hF5 := kA.at_ _ _ hF4 not_nil
      have hW5 := kA.at_ _ _ hW4 not_nil
      walk_at "gs"
      refine i_new fun F2 fF2 => ?_
      have kB := Kp.new (ws := []) (o := HO.lst (fs.map V.int)) fF2
      have hF2 := fresh_at (o := HO.lst (fs.map V.int)) fF2
      obtain ⟨H6, e6⟩ : ∃ H6, H6 = upd H5 F2 (.lst (fs.map V.int)) := ⟨_, rfl⟩
      rw [← e6] at kB hF2 ⊢
      have hsR6 := kB.seqT hsR5
      have hW6 := kB.at_ _ _ hW5 not_nil
      walk_at "gs"
      refine i_new fun W2 fW2 => ?_
      have kC := Kp.new (ws := []) (o := HO.lst vsW) fW2
      have hW2 := fresh_at (o := HO.lst vsW) fW2
      obtain ⟨H7, e7⟩ : ∃ H7, H7 = upd H6 W2 (.lst vsW) := ⟨_, rfl⟩
      rw [← e7] at kC hW2 ⊢
      have k47 := Kp.trans kA (Kp.trans kB kC)
      have ldW2 : LD K H7 W2 (rs.map d2) := ⟨vsW, hW2, dpa_imm k47 _ _ (imms_d2 _) avW⟩
      walk_at "gs"
      refine ⟨D, ever, L2_, F2, W2, liv, fs, liv ++ fs, rs, nbR rs, rfl, (Kp.trans kB kC).at_ _ _ hL2 not_nil, kC.at_ _ _ hF2 not_nil, ldW2, z, dr.sl, dr.fo, dr.ro, by omega, fun t ps nb H8 ft fps k8 x8 z8 => ?_⟩
      have k48 := Kp.trans k47 k8
      have hG8 := k48.at_ _ _ hG not_nil
      have hp8 := hp4.kp k48 not_nil
      have nps : p ∉ ps := fun h => by
        obtain ⟨_, _, e, _⟩ := hp4.kp k47 not_nil
        have := (fps p h).e
        rw [e] at this
        cases this
      have lp : prs.length = liv.length := by rw [← kp, List.length_map]
      have hsR8 := k48.seqT hsR4
      have hL8 := k48.at_ _ _ hL4 not_nil
      have hF8 := k48.at_ _ _ hF4 not_nil
      have ldW8 := ldW4.kp k48 (imms_d2 _) not_nil
      obtain ⟨same1, same2⟩ := z8.same z fun _ => Iff.rfl
      have ro8 : RowsOf (liv ++ fs) nb rs := ⟨dr.ro.1, fun q => by
        rw [dr.ro.2]
        constructor
        · rintro ⟨u1, u2, u3⟩
          exact ⟨u1, (same2 _ u1 _).mpr u2, u3⟩
        · rintro ⟨u1, u2, u3⟩
          exact ⟨u1, (same2 _ u1 _).mp u2, u3⟩⟩
      have ndp : (prs.map (·.1)).Nodup := by rw [kp]; exact z.nl
      have hlp : ∀ x ∈ liv, x ∈ prs.map (·.1) := fun x hx => by rw [kp]; exact hx
      walk_at "gs"
      refine ⟨R, L, F, W, G, ever, liv, fs, rs, prs, rfl, hsR8, hL8, hF8, ldW8, dr, by omega, by omega, by omega, hG8, kp, fun Wy ways H9 fWy k9 hWy wyW lW => ?_⟩
      have hp9 := hp8.kp k9 not_nil
      have npWy : Wy ≠ p := Ne.symm (hp8.ne fWy)
      have hG9 := k9.at_ _ _ hG8 not_nil
      have x9 := x8.kp0 k9
      obtain ⟨Okn, eOk⟩ : ∃ Okn : Nat → Prop, Okn = fun n => ∃ us : List (List Int), us.length = n ∧ PapI liv (liv ++ fs) nb (look prs) us := ⟨_, rfl⟩
      have dual : ∀ (g : Int → Int) (n : Nat), (∀ x ∈ liv, g x = look prs x) → Okn n → n ≤ cst g rs := fun g n hg ho => by
        rw [eOk] at ho
        obtain ⟨us, rfl, pp⟩ := ho
        exact pp.le z8 ro8 hg
      walk_at "gs"
      refine i_reps (by decide) (by decide) (fun Dl i H' => PotAt H' p ∧ Kp [p] H9 H' ∧ ∃ ys, H' Dl = some (.lst ys) ∧ ys.length = i ∧ ∀ y ∈ ys, ∃ (Ls : Addr) (xs : List V), y = .ref Ls ∧ H' Ls = some (.lst xs) ∧ Ls ≠ p ∧ Ls ≠ Dl ∧ Okn xs.length) ?_ ?_ ?_
      · intro Dl fD
        exact ⟨hp9.kp (Kp.new (ws := []) fD) not_nil, Kp.new fD, [], upd_same, rfl, fun y h => nomatch h⟩
      · rintro Dl i H' fD hi ⟨hp16, kk, ys, hD, ly, ay⟩
        have npDl : Dl ≠ p := Ne.symm (hp9.ne fD)
        walk_at "gs"
        refine ⟨D, p, t, G, Wy, ps, ever, liv, liv ++ fs, nb, prs, ways, rfl, hp16, x9.kp kk (x9.apart nps), z8, nps, by omega, kk.at_ _ _ hG9 (not_one npG), npG, kp, kk.at_ _ _ hWy (not_one npWy), npWy, wyW.kp kk, lW, fun Ls xs us H17 fLs hp17 k17 hLs tx pp lL => ?_⟩
        have npLs : Ls ≠ p := Ne.symm (hp16.ne fLs)
        have nLD : Dl ≠ Ls := fr_ne hD fLs
        have hD17 := k17.at_ _ _ hD (not_one npDl)
        have kD : Kp [Dl] H17 (upd H17 Dl (.lst (ys ++ [.ref Ls]))) := kp_set hD17 (fun z => z)
        walk_at "gs"
        refine ⟨_, hD17, small_sz (by omega), hp17.kp kD (not_one (Ne.symm npDl)), Kp.upd (Kp.trans kk k17) fD, _, upd_same, by rw [List.length_append, ly]; rfl, fun y hy => ?_⟩
        rcases List.mem_append.mp hy with hy | hy
        · obtain ⟨Ls', xs', e, h1, h2, h3, h4⟩ := ay y hy
          exact ⟨Ls', xs', e, kD.at_ _ _ (k17.at_ _ _ h1 (not_one h2)) (not_one h3), h2, h3, h4⟩
        · rw [List.mem_singleton.mp hy]
          refine ⟨Ls, xs, rfl, kD.at_ _ _ hLs (not_one (Ne.symm nLD)), npLs, Ne.symm nLD, ?_⟩
          rw [eOk]
          exact ⟨us, tx.len.symm, pp⟩
      rintro Dl H10 fD ⟨hp10, k10, ys, hD, ly, ay⟩
      have npDl : Dl ≠ p := Ne.symm (hp9.ne fD)
      have lys : ys.length = 3 := ly
      walk_at "gs"
      refine i_elts (SqL.of hD) (fun E i H' => Kp [] H10 H' ∧ ∃ ms : List Int, H' E = some (.lst (ms.map V.int)) ∧ ms.length = i ∧ ∀ m ∈ ms, ∃ n : Nat, m = (n : Int) ∧ Okn n) ?_ ?_ ?_ ?_
      · intro E fE
        exact ⟨Kp.new fE, [], upd_same, rfl, fun m h => nomatch h⟩
      · rintro E i H' fE _ ⟨kk, _⟩
        exact SqL.of (kk.at_ _ _ hD not_nil)
      · rintro E i y H' fE hy ⟨kk, ms, hE, lm, am⟩
        obtain ⟨Ls, xs, rfl, h1, h2, h3, h4⟩ := ay y (List.mem_of_getElem? hy)
        have il := (List.getElem?_eq_some_iff.mp hy).1
        have hLs := kk.at_ _ _ h1 not_nil
        have hsLs := SqL.of (K := K) hLs
        walk_at "gs"
        refine ⟨_, hE, small_sz (by rw [List.length_map]; omega), Kp.upd kk fE, ms ++ [((xs.length : Nat) : Int)], by rw [List.map_append]; exact upd_same, by rw [List.length_append, lm]; rfl, fun m hm => ?_⟩
        rcases List.mem_append.mp hm with hm | hm
        · exact am m hm
        · exact ⟨xs.length, List.mem_singleton.mp hm, h4⟩
      rintro E H11 fE ⟨k11, ms, hE, lm, am⟩
      walk_at "gs"
      refine ⟨E, ms, rfl, SqL.of hE, by rw [lm]; omega, fun most hm hle => ?_⟩
      obtain ⟨mo, rfl, hmo⟩ := am most hm
      have k911 : Kp [p] H9 H11 := Kp.trans k10 k11.wide
      have x11 := x9.kp k911 (x9.apart nps)
      have hG11 := k911.at_ _ _ hG9 (not_one npG)
      have hp11 := hp10.kp k11 not_nil
      walk_at "gs"
      refine ⟨D, t, G, ps, ever, liv, liv ++ fs, nb, prs, rfl, x11, z8, by omega, hG11, ndp, hlp, by omega, fun m H12 k12 lo => ?_⟩
      have lem : (mo : Int) ≤ m := by
        rcases lo with ⟨e, _⟩ | ⟨_, h⟩
        · exact absurd e dr.ne
        · obtain ⟨nums, nof⟩ := nums_ex prs
          obtain ⟨g, g1, _, g3⟩ := (h nums nof rs ro8).got
          have := dual g mo (fun x hx => g1 x (List.mem_append_left _ hx) _ (if_pos (hlp x hx))) hmo
          rw [← g3]
          show (mo : Int) ≤ (cst g rs : Nat)
          omega
      walk_at "gs"
      refine i_dec (fun c => absurd c (by omega)) (fun _ => ?_)
      have k912 : Kp [p] H9 H12 := Kp.trans k911 k12.wide
      have k812 : Kp [p] H8 H12 := Kp.trans k9.wide k912
      have hp12 := hp11.kp k12 not_nil
      have x12 := x11.kp0 k12
      have hG12 := k12.at_ _ _ hG11 not_nil
      have hsR12 := k812.seqT hsR8
      have hL12 := k812.at_ _ _ hL8 (not_one npL)
      have hF12 := k812.at_ _ _ hF8 (not_one npF)
      have ldW12 := ldW8.kp k812 (imms_d2 _) (not_one npW)
      walk_at "gs"
      refine i_reps (by decide) (by decide) (fun Dl i H' => PotAt H' p ∧ Kp [p] H12 H' ∧ ∃ ys, H' Dl = some (.lst ys) ∧ ys.length = i ∧ ∀ y ∈ ys, ∃ (Ls : Addr) (out : List (Int × Int)), y = .ref Ls ∧ H' Ls = some (.dK (out.map kN)) ∧ Ls ≠ p ∧ Ls ≠ Dl ∧ (∀ x ∈ liv ++ fs, x ∈ out.map (·.1)) ∧ ∀ x ∈ liv, look out x = look prs x) ?_ ?_ ?_
      · intro Dl fD
        exact ⟨hp12.kp (Kp.new (ws := []) fD) not_nil, Kp.new fD, [], upd_same, rfl, fun y h => nomatch h⟩
      · rintro Dl i H' fD hi ⟨hp16, kk, ys, hD, ly, ay⟩
        have npDl : Dl ≠ p := Ne.symm (hp12.ne fD)
        walk_at "gs"
        refine ⟨p, R, L, F, W, G, ever, liv, fs, prs, rfl, hp16, kk.seqT hsR12, kk.at_ _ _ hL12 (not_one npL), kk.at_ _ _ hF12 (not_one npF), npL, npF, z.nk, dr.ne, by omega, kk.at_ _ _ hG12 (not_one npG), npG, kp, fun Ls out H17 fLs hp17 k17 hLs ek el => ?_⟩
        have npLs : Ls ≠ p := Ne.symm (hp16.ne fLs)
        have nLD : Dl ≠ Ls := fr_ne hD fLs
        have hD17 := k17.at_ _ _ hD (not_one npDl)
        have kD : Kp [Dl] H17 (upd H17 Dl (.lst (ys ++ [.ref Ls]))) := kp_set hD17 (fun z => z)
        walk_at "gs"
        refine ⟨_, hD17, small_sz (by omega), hp17.kp kD (not_one (Ne.symm npDl)), Kp.upd (Kp.trans kk k17) fD, _, upd_same, by rw [List.length_append, ly]; rfl, fun y hy => ?_⟩
        rcases List.mem_append.mp hy with hy | hy
        · obtain ⟨Ls', out', e, h1, h2, h3, h4⟩ := ay y hy
          exact ⟨Ls', out', e, kD.at_ _ _ (k17.at_ _ _ h1 (not_one h2)) (not_one h3), h2, h3, h4⟩
        · rw [List.mem_singleton.mp hy]
          exact ⟨Ls, out, rfl, kD.at_ _ _ hLs (not_one (Ne.symm nLD)), npLs, Ne.symm nLD, fun x hx => by rw [ek]; exact hx, el⟩
      rintro Dl2 H13 fD2 ⟨hp13, k13, zs, hD2, lz, az⟩
      have lzs : zs.length = 5 := lz
      have x13 := x12.kp k13 (x12.apart nps)
      walk_at "gs"
      refine ⟨D, t, G, ps, ever, liv, liv ++ fs, nb, prs, rfl, x13, z8, by omega, k13.at_ _ _ hG12 (not_one npG), ndp, hlp, fun Kd fs' pr out H14 fKd k14 hKd fo' e1 e2 _ _ mk e4 => ?_⟩
      have hD2' := k14.at_ _ _ hD2 not_nil
      walk_at "gs"
      refine i_new fun S1 fS1 => ?_
      have kS1 := Kp.new (ws := []) (o := HO.lst [.ref Kd]) fS1
      have hS1 := fresh_at (o := HO.lst [.ref Kd]) fS1
      have hD3 := kS1.at_ _ _ hD2' not_nil
      obtain ⟨H15, e15⟩ : ∃ H15, H15 = upd H14 S1 (.lst [.ref Kd]) := ⟨_, rfl⟩
      rw [← e15] at kS1 hS1 hD3 ⊢
      walk_at "gs"
      refine i_new fun S2 fS2 => ?_
      have kS2 := Kp.new (ws := []) (o := HO.lst (zs ++ [.ref Kd])) fS2
      have hS2 := fresh_at (o := HO.lst (zs ++ [.ref Kd])) fS2
      obtain ⟨H16, e16⟩ : ∃ H16, H16 = upd H15 S2 (.lst (zs ++ [.ref Kd])) := ⟨_, rfl⟩
      rw [← e16] at kS2 hS2 ⊢
      have k1316 := Kp.trans k14 (Kp.trans kS1 kS2)
      have k816 : Kp [p] H8 H16 := Kp.trans k812 (Kp.trans k13 k1316.wide)
      have x16 := x13.kp0 k1316
      have hsR16 := k816.seqT hsR8
      have ldW16 := ldW8.kp k816 (imms_d2 _) (not_one npW)
      have alls : ∀ y ∈ zs ++ [.ref Kd], ∃ (Ls : Addr) (out : List (Int × Int)), y = .ref Ls ∧ H16 Ls = some (.dK (out.map kN)) ∧ (∀ x ∈ liv ++ fs, x ∈ out.map (·.1)) ∧ ∀ x ∈ liv, look out x = look prs x := fun y hy => by
        rcases List.mem_append.mp hy with hy | hy
        · obtain ⟨Ls', out', e, h1, _, _, h4, h5⟩ := az y hy
          exact ⟨Ls', out', e, k1316.at_ _ _ h1 not_nil, h4, h5⟩
        · rw [List.mem_singleton.mp hy]
          exact ⟨Kd, out, rfl, (Kp.trans kS1 kS2).at_ _ _ hKd not_nil, fun x hx => (mk x).mpr hx, fun x hx => by rw [e4 x (List.mem_append_left _ hx), e2 x hx]⟩
      walk_at "gs"
      refine i_each (SqL.of hS2) (fun i σ H' => ∃ (o9 o10 : Option V), σ = [some (.ref s), some (.int (i0 : Nat)), some (.ref p), some (.ref R), some (.ref G), some (.ref t), some (.ref Wy), some (.ref Dl), some (.int (mo : Nat)), o9, o10, none, none] ∧ Kp [] H16 H') ?_ ?_ ?_ ?_
      · exact ⟨_, _, rfl, Kp.refl⟩
      · rintro i σ H' _ ⟨_, _, _, kk⟩
        exact SqL.of (kk.at_ _ _ hS2 not_nil)
      · rintro i y σ H17 hy ⟨o9, o10, rfl, k17⟩
        obtain ⟨Ls, out, rfl, h1, h2, h3⟩ := alls y (List.mem_of_getElem? hy)
        have h17 := k17.at_ _ _ h1 not_nil
        walk_at "gs"
        refine ⟨R, L, F, W, Ls, ever, rs, out, rfl, k17.seqT hsR16, ldW16.kp k17 (imms_d2 _) not_nil, by omega, h17, fun q hq => ?_, fun H18 k18 => ?_⟩
        · obtain ⟨a, b, c⟩ := (dr.ro.2 q).mp hq
          obtain ⟨b1, _, _⟩ := (z.rp.adj _ a _).mp b
          exact ⟨h2 _ a, h2 _ b1⟩
        have du := dual (look out) mo h3 hmo
        walk_at "gs"
        refine i_dec (fun c => absurd c (by omega)) (fun _ => ?_)
        have k1618 := Kp.trans k17 k18
        walk_at "gs"
        refine ⟨D, t, ps, ever, liv, liv ++ fs, nb, Ls, out, rfl, x16.kp0 k1618, z8, by omega, k18.at_ _ _ h17 not_nil, h2, fun rs' H19 k19 ro' => ?_⟩
        have er : rs' = rs := ltQ_uniq ro'.1 ro8.1 fun q => by rw [ro'.2, ro8.2]
        subst er
        walk_at "gs"
        refine i_decN (fun c => absurd rfl c) (fun _ => ?_)
        walk_at "gs"
        exact ⟨_, _, rfl, Kp.trans k1618 k19⟩
      · rintro σ H17 ⟨o9, o10, rfl, k17⟩
        walk_at "gs"
        have k217 : Kp [p] H2 H17 := Kp.trans k3 (Kp.trans k4 (Kp.trans k48.wide (Kp.trans k816 k17.wide)))
        exact ⟨_, _, _, _, _, _, _, _, _, _, rfl, Kp.trans k1 ((Kp.trans k2.wide k217).dropAll fun b hb => .inr (by rw [List.mem_singleton.mp hb]; exact fp))⟩
    · rintro σ H1 ⟨o1, o2, o3, o4, o5, o6, o7, o8, o9, o10, rfl, k1⟩
      walk_at "gs"
      exact k _
theorem law_end {K : PySem.W.Frag} {H : Hp} {a : Addr} {ns : List Int} (hl : ns.length ≤ 63)
    (_ : ∀ z ∈ ns, Builtin.Int.intBits z ≤ 1048576) (_ : Only H) (hs : SqL K H a (ns.map V.int)) :
    sp_law K [.ref a] H (fun v _ => v = .bl true) fun _ _ _ => False :=
  ⟨a, ns, rfl, hs, hl, fun _ => rfl⟩

/-- the end of a law row over a head by facts, the script's bits told -/
theorem walkH {l : PySem.W.OpenLaw} {n k : Nat} {q : Program} {loose : List Str}
    {XP : (Str → Option Value) → Heap → Prop} {YP : World → Heap → Prop} {d : DefRec}
    {sp : PySem.W.Frag → Sp} {x : Str} (hn : l.most = some n)
    (hn2 : n ≤ PySem.sizeLine) (hdf : d.params.defaults = []) (hr : Room k PySem.callerA)
    (F : ∀ (w : World) (mg : Str → Option Value) (fa : Addr) (h : Heap), YP w h →
      h.Ns mainGlobals mg → mg d.name = some (.ref fa) →
      ∃ (K : PySem.W.Frag) (fd : FuncData), K.In h ∧ (∀ (s : Shared) (u : Value), BindsTo s fd ⟨[u], []⟩ [(x, u)]) ∧
        ∀ base : Heap, K.In base → base.Ns mainGlobals mg →
          FnG l.prog w K mg base k fa fd [x] (sp K))
    (hsp : ∀ (K : PySem.W.Frag) (H : Hp) (a : Addr) (ns : List Int), ns.length ≤ n →
      (∀ z ∈ ns, Builtin.Int.intBits z ≤ 1048576) → Only H → SqL K H a (ns.map V.int) →
      sp K [.ref a] H (fun v _ => v = .bl true) fun _ _ _ => False) :
    PySem.W.WalkO q loose XP YP l.row.toRowW d [] (fun f vs => PySem.call f vs) := by
  refine Att.attach_callB hn hdf ?_
  intro w s0 s1 mg mb fa o pm cd doc a vs ns T Y ho hd hcd hmg hobj hints hlen hbits hg
  obtain ⟨K, fd, kin, hb, hF⟩ := F w mg fa _ Y T.T.g hmg
  exact lawG kin T.T.g T.T.b T.T.builtins T.T.nolimit hg hobj hints (Nat.le_trans hlen hn2)
    ⟨hr, rfl⟩ hF hb (fun H hO hS => hsp _ H a ns hlen hbits hO hS)

theorem all_mkH {P : Program} {w : World} {K : PySem.W.Frag} {h : Heap} {mg : Str → Option Value} {fa : Addr} (X : K.In h) (G : h.Ns mainGlobals mg) (hfa : mg "law" = some (.ref fa)) (c : He.SaysD [] fnH K) (e : exH K = true) :
    ∃ fd : FuncData, (∀ (s : Shared) (v : Value), BindsTo s fd ⟨[v], []⟩ [("_law_script", v)]) ∧
      ∀ base : Heap, K.In base → base.Ns mainGlobals mg →
        FnG P w K mg base 8 fa fd ["_law_script"] (sp_law K) := by
  obtain ⟨e0, e⟩ := He.ba e
  obtain ⟨e1, e⟩ := He.ba e
  obtain ⟨e2, e⟩ := He.ba e
  obtain ⟨e3, e⟩ := He.ba e
  obtain ⟨e4, e⟩ := He.ba e
  obtain ⟨e5, e⟩ := He.ba e
  obtain ⟨e6, e⟩ := He.ba e
  have e7 := e
  obtain ⟨h_wall, e0⟩ := He.ba e0
  obtain ⟨h_steps_of, e0⟩ := He.ba e0
  obtain ⟨h_is_led, e0⟩ := He.ba e0
  obtain ⟨h_is_way, e0⟩ := He.ba e0
  obtain ⟨h_is_paper, e0⟩ := He.ba e0
  obtain ⟨h_cost_of, e0⟩ := He.ba e0
  obtain ⟨h_walked_from, e0⟩ := He.ba e0
  obtain ⟨h_best_of, e0⟩ := He.ba e0
  obtain ⟨h_tied_on, e0⟩ := He.ba e0
  obtain ⟨h_ways_at, e0⟩ := He.ba e0
  obtain ⟨h_best_at, e0⟩ := He.ba e0
  have h_least_cost := e0
  obtain ⟨h_the_keeping, e1⟩ := He.ba e1
  obtain ⟨h_is_count, e1⟩ := He.ba e1
  obtain ⟨h_Ties_ever, e1⟩ := He.ba e1
  obtain ⟨h_Ties_living, e1⟩ := He.ba e1
  obtain ⟨h_Ties_free, e1⟩ := He.ba e1
  obtain ⟨h_Ties_rows, e1⟩ := He.ba e1
  obtain ⟨h_Ties_lives, e1⟩ := He.ba e1
  obtain ⟨h_Ties_has, e1⟩ := He.ba e1
  obtain ⟨h_Ties_tied, e1⟩ := He.ba e1
  obtain ⟨h_Ties_way, e1⟩ := He.ba e1
  obtain ⟨h_Ties_spread, e1⟩ := He.ba e1
  have h_Ties_fork := e1
  obtain ⟨h_Ties_end, e2⟩ := He.ba e2
  obtain ⟨h_Ties_may_go, e2⟩ := He.ba e2
  obtain ⟨h_Ties_taken_out, e2⟩ := He.ba e2
  obtain ⟨h_Ties_copied, e2⟩ := He.ba e2
  obtain ⟨h_Ties_eq, e2⟩ := He.ba e2
  obtain ⟨h_Ties_told, e2⟩ := He.ba e2
  obtain ⟨h_Ties_len, e2⟩ := He.ba e2
  obtain ⟨h_made, e2⟩ := He.ba e2
  obtain ⟨h_are_worlds, e2⟩ := He.ba e2
  obtain ⟨h_are_pairs, e2⟩ := He.ba e2
  obtain ⟨h_is_tree, e2⟩ := He.ba e2
  have h_ties_of := e2
  obtain ⟨h_law_pot, e3⟩ := He.ba e3
  obtain ⟨h_law_draw, e3⟩ := He.ba e3
  obtain ⟨h_law_tree, e3⟩ := He.ba e3
  obtain ⟨h_law_given, e3⟩ := He.ba e3
  obtain ⟨h_law_near, e3⟩ := He.ba e3
  obtain ⟨h_law_all_ways, e3⟩ := He.ba e3
  obtain ⟨h_law_grown, e3⟩ := He.ba e3
  obtain ⟨h_law_kept, e3⟩ := He.ba e3
  obtain ⟨h_law_cost, e3⟩ := He.ba e3
  obtain ⟨h_law, e3⟩ := He.ba e3
  obtain ⟨hg_Ties, e3⟩ := He.ba e3
  have hc_Ties := e3
  obtain ⟨hm_Ties, e4⟩ := He.ba e4
  obtain ⟨hn_Ties_near, e4⟩ := He.ba e4
  obtain ⟨hn_Ties_own_ever, e4⟩ := He.ba e4
  obtain ⟨hn_Ties_own_living, e4⟩ := He.ba e4
  obtain ⟨oa_Ties, e4⟩ := He.ba e4
  obtain ⟨om_Ties, e4⟩ := He.ba e4
  obtain ⟨ok_Ties_NoneType, e4⟩ := He.ba e4
  obtain ⟨ok_Ties_int, e4⟩ := He.ba e4
  obtain ⟨ok_Ties_bool, e4⟩ := He.ba e4
  obtain ⟨ok_Ties_str, e4⟩ := He.ba e4
  obtain ⟨ok_Ties_list, e4⟩ := He.ba e4
  have ok_Ties_tuple := e4
  obtain ⟨ok_Ties_dict, e5⟩ := He.ba e5
  obtain ⟨ne_Ties, e5⟩ := He.ba e5
  obtain ⟨on, e5⟩ := He.ba e5
  obtain ⟨ot, e5⟩ := He.ba e5
  obtain ⟨hk_FEWEST_TIES, e5⟩ := He.ba e5
  obtain ⟨hk_FEWEST_WORLDS, e5⟩ := He.ba e5
  obtain ⟨hb_LookupError, e5⟩ := He.ba e5
  obtain ⟨hb_ValueError, e5⟩ := He.ba e5
  obtain ⟨hb_abs, e5⟩ := He.ba e5
  obtain ⟨hb_all, e5⟩ := He.ba e5
  obtain ⟨hb_any, e5⟩ := He.ba e5
  have hb_bool := e5
  obtain ⟨hb_dict, e6⟩ := He.ba e6
  obtain ⟨hb_divmod, e6⟩ := He.ba e6
  obtain ⟨hb_enumerate, e6⟩ := He.ba e6
  obtain ⟨hb_int, e6⟩ := He.ba e6
  obtain ⟨hb_isinstance, e6⟩ := He.ba e6
  obtain ⟨hb_len, e6⟩ := He.ba e6
  obtain ⟨hb_list, e6⟩ := He.ba e6
  obtain ⟨hb_max, e6⟩ := He.ba e6
  obtain ⟨hb_min, e6⟩ := He.ba e6
  obtain ⟨hb_range, e6⟩ := He.ba e6
  obtain ⟨hb_set, e6⟩ := He.ba e6
  have hb_sorted := e6
  obtain ⟨hb_sum, e7⟩ := He.ba e7
  obtain ⟨hb_tuple, e7⟩ := He.ba e7
  have hb_zip := e7
  have eL := hfa.symm.trans (He.glo_ok X G h_law)
  cases eL
  obtain ⟨fd0, FF0⟩ := c.def_ 0 (d := dd0) rfl
  have F0 : FunD K "_wall" "_wall" (defArgs s_wall) (defBody s_wall) (defScope s_wall) [] ([] : List (Str × V)) (He.ga K "_wall") fd0 := FF0
  have b0 := bindN (ps := ["k"]) F0 fun _ _ _ _ _ _ us hl => match us, hl with | [_], _ => rfl
  obtain ⟨fd1, FF1⟩ := c.def_ 1 (d := dd1) rfl
  have F1 : FunD K "steps_of" "steps_of" (defArgs s_steps_of) (defBody s_steps_of) (defScope s_steps_of) [] ([] : List (Str × V)) (He.ga K "steps_of") fd1 := FF1
  have b1 := bindN (ps := ["way"]) F1 fun _ _ _ _ _ _ us hl => match us, hl with | [_], _ => rfl
  obtain ⟨fd2, FF2⟩ := c.def_ 2 (d := dd2) rfl
  have F2 : FunD K "is_led" "is_led" (defArgs s_is_led) (defBody s_is_led) (defScope s_is_led) [] ([] : List (Str × V)) (He.ga K "is_led") fd2 := FF2
  have b2 := bindN (ps := ["ties", "thing"]) F2 fun _ _ _ _ _ _ us hl => match us, hl with | [_, _], _ => rfl
  obtain ⟨fd3, FF3⟩ := c.def_ 3 (d := dd3) rfl
  have F3 : FunD K "is_way" "is_way" (defArgs s_is_way) (defBody s_is_way) (defScope s_is_way) [] ([] : List (Str × V)) (He.ga K "is_way") fd3 := FF3
  have b3 := bindN (ps := ["ties", "numbers", "thing"]) F3 fun _ _ _ _ _ _ us hl => match us, hl with | [_, _, _], _ => rfl
  obtain ⟨fd4, FF4⟩ := c.def_ 4 (d := dd4) rfl
  have F4 : FunD K "is_paper" "is_paper" (defArgs s_is_paper) (defBody s_is_paper) (defScope s_is_paper) [] ([] : List (Str × V)) (He.ga K "is_paper") fd4 := FF4
  have b4 := bindN (ps := ["ties", "numbers", "thing"]) F4 fun _ _ _ _ _ _ us hl => match us, hl with | [_, _, _], _ => rfl
  obtain ⟨fd5, FF5⟩ := c.def_ 5 (d := dd5) rfl
  have F5 : FunD K "cost_of" "cost_of" (defArgs s_cost_of) (defBody s_cost_of) (defScope s_cost_of) [] ([] : List (Str × V)) (He.ga K "cost_of") fd5 := FF5
  have b5 := bindN (ps := ["ties", "keeping"]) F5 fun _ _ _ _ _ _ us hl => match us, hl with | [_, _], _ => rfl
  obtain ⟨fd6, FF6⟩ := c.def_ 6 (d := dd6) rfl
  have F6 : FunD K "walked_from" "walked_from" (defArgs s_walked_from) (defBody s_walked_from) (defScope s_walked_from) [] ([] : List (Str × V)) (He.ga K "walked_from") fd6 := FF6
  have b6 := bindN (ps := ["ties", "root"]) F6 fun _ _ _ _ _ _ us hl => match us, hl with | [_, _], _ => rfl
  obtain ⟨fd7, FF7⟩ := c.def_ 7 (d := dd7) rfl
  have F7 : FunD K "best_of" "best_of" (defArgs s_best_of) (defBody s_best_of) (defScope s_best_of) [] ([] : List (Str × V)) (He.ga K "best_of") fd7 := FF7
  have b7 := bindN (ps := ["ways"]) F7 fun _ _ _ _ _ _ us hl => match us, hl with | [_], _ => rfl
  obtain ⟨fd8, FF8⟩ := c.def_ 8 (d := dd8) rfl
  have F8 : FunD K "tied_on" "tied_on" (defArgs s_tied_on) (defBody s_tied_on) (defScope s_tied_on) [] ([] : List (Str × V)) (He.ga K "tied_on") fd8 := FF8
  have b8 := bindN (ps := ["ways", "beneath"]) F8 fun _ _ _ _ _ _ us hl => match us, hl with | [_, _], _ => rfl
  obtain ⟨fd9, FF9⟩ := c.def_ 9 (d := dd9) rfl
  have F9 : FunD K "ways_at" "ways_at" (defArgs s_ways_at) (defBody s_ways_at) (defScope s_ways_at) [] ([] : List (Str × V)) (He.ga K "ways_at") fd9 := FF9
  have b9 := bindN (ps := ["ties", "told", "root"]) F9 fun _ _ _ _ _ _ us hl => match us, hl with | [_, _, _], _ => rfl
  obtain ⟨fd10, FF10⟩ := c.def_ 10 (d := dd10) rfl
  have F10 : FunD K "best_at" "best_at" (defArgs s_best_at) (defBody s_best_at) (defScope s_best_at) [] ([] : List (Str × V)) (He.ga K "best_at") fd10 := FF10
  have b10 := bindN (ps := ["ties", "told", "root"]) F10 fun _ _ _ _ _ _ us hl => match us, hl with | [_, _, _], _ => rfl
  obtain ⟨fd11, FF11⟩ := c.def_ 11 (d := dd11) rfl
  have F11 : FunD K "least_cost" "least_cost" (defArgs s_least_cost) (defBody s_least_cost) (defScope s_least_cost) [] ([] : List (Str × V)) (He.ga K "least_cost") fd11 := FF11
  have b11 := bindN (ps := ["ties", "numbers"]) F11 fun _ _ _ _ _ _ us hl => match us, hl with | [_, _], _ => rfl
  obtain ⟨fd12, FF12⟩ := c.def_ 12 (d := dd12) rfl
  have F12 : FunD K "the_keeping" "the_keeping" (defArgs s_the_keeping) (defBody s_the_keeping) (defScope s_the_keeping) [] ([] : List (Str × V)) (He.ga K "the_keeping") fd12 := FF12
  have b12 := bindN (ps := ["ties", "numbers"]) F12 fun _ _ _ _ _ _ us hl => match us, hl with | [_, _], _ => rfl
  obtain ⟨fd13, FF13⟩ := c.def_ 13 (d := dd13) rfl
  have F13 : FunD K "is_count" "is_count" (defArgs s_is_count) (defBody s_is_count) (defScope s_is_count) [] ([] : List (Str × V)) (He.ga K "is_count") fd13 := FF13
  have b13 := bindN (ps := ["thing"]) F13 fun _ _ _ _ _ _ us hl => match us, hl with | [_], _ => rfl
  obtain ⟨fd14, FF14⟩ := c.def_ 14 (d := dd14) rfl
  have F14 : FunD K "__init__" "Ties.__init__" (defArgs s_Ties_init) (defBody s_Ties_init) (defScope s_Ties_init) [] ([] : List (Str × V)) (He.ma K (He.ga K "Ties") "__init__") fd14 := FF14
  have b14 := bindN (ps := ["self"]) F14 fun _ _ _ _ _ _ us hl => match us, hl with | [_], _ => rfl
  obtain ⟨fd15, FF15⟩ := c.def_ 15 (d := dd15) rfl
  have F15 : FunD K "ever" "Ties.ever" (defArgs s_Ties_ever) (defBody s_Ties_ever) (defScope s_Ties_ever) [] ([] : List (Str × V)) (He.ma K (He.ga K "Ties") "ever") fd15 := FF15
  have b15 := bindN (ps := ["self"]) F15 fun _ _ _ _ _ _ us hl => match us, hl with | [_], _ => rfl
  obtain ⟨fd16, FF16⟩ := c.def_ 16 (d := dd16) rfl
  have F16 : FunD K "living" "Ties.living" (defArgs s_Ties_living) (defBody s_Ties_living) (defScope s_Ties_living) [] ([] : List (Str × V)) (He.ma K (He.ga K "Ties") "living") fd16 := FF16
  have b16 := bindN (ps := ["self"]) F16 fun _ _ _ _ _ _ us hl => match us, hl with | [_], _ => rfl
  obtain ⟨fd17, FF17⟩ := c.def_ 17 (d := dd17) rfl
  have F17 : FunD K "free" "Ties.free" (defArgs s_Ties_free) (defBody s_Ties_free) (defScope s_Ties_free) [] ([] : List (Str × V)) (He.ma K (He.ga K "Ties") "free") fd17 := FF17
  have b17 := bindN (ps := ["self"]) F17 fun _ _ _ _ _ _ us hl => match us, hl with | [_], _ => rfl
  obtain ⟨fd18, FF18⟩ := c.def_ 18 (d := dd18) rfl
  have F18 : FunD K "rows" "Ties.rows" (defArgs s_Ties_rows) (defBody s_Ties_rows) (defScope s_Ties_rows) [] ([] : List (Str × V)) (He.ma K (He.ga K "Ties") "rows") fd18 := FF18
  have b18 := bindN (ps := ["self"]) F18 fun _ _ _ _ _ _ us hl => match us, hl with | [_], _ => rfl
  obtain ⟨fd19, FF19⟩ := c.def_ 19 (d := dd19) rfl
  have F19 : FunD K "lives" "Ties.lives" (defArgs s_Ties_lives) (defBody s_Ties_lives) (defScope s_Ties_lives) [] ([] : List (Str × V)) (He.ma K (He.ga K "Ties") "lives") fd19 := FF19
  have b19 := bindN (ps := ["self", "thing"]) F19 fun _ _ _ _ _ _ us hl => match us, hl with | [_, _], _ => rfl
  obtain ⟨fd20, FF20⟩ := c.def_ 20 (d := dd20) rfl
  have F20 : FunD K "has" "Ties.has" (defArgs s_Ties_has) (defBody s_Ties_has) (defScope s_Ties_has) [] ([] : List (Str × V)) (He.ma K (He.ga K "Ties") "has") fd20 := FF20
  have b20 := bindN (ps := ["self", "thing"]) F20 fun _ _ _ _ _ _ us hl => match us, hl with | [_, _], _ => rfl
  obtain ⟨fd21, FF21⟩ := c.def_ 21 (d := dd21) rfl
  have F21 : FunD K "tied" "Ties.tied" (defArgs s_Ties_tied) (defBody s_Ties_tied) (defScope s_Ties_tied) [] ([] : List (Str × V)) (He.ma K (He.ga K "Ties") "tied") fd21 := FF21
  have b21 := bindN (ps := ["self", "world"]) F21 fun _ _ _ _ _ _ us hl => match us, hl with | [_, _], _ => rfl
  obtain ⟨fd22, FF22⟩ := c.def_ 22 (d := dd22) rfl
  have F22 : FunD K "way" "Ties.way" (defArgs s_Ties_way) (defBody s_Ties_way) (defScope s_Ties_way) [] ([] : List (Str × V)) (He.ma K (He.ga K "Ties") "way") fd22 := FF22
  have b22 := bindN (ps := ["self", "one", "other"]) F22 fun _ _ _ _ _ _ us hl => match us, hl with | [_, _, _], _ => rfl
  obtain ⟨fd23, FF23⟩ := c.def_ 23 (d := dd23) rfl
  have F23 : FunD K "spread" "Ties.spread" (defArgs s_Ties_spread) (defBody s_Ties_spread) (defScope s_Ties_spread) [] ([] : List (Str × V)) (He.ma K (He.ga K "Ties") "spread") fd23 := FF23
  have b23 := bindN (ps := ["self", "goal"]) F23 fun _ _ _ _ _ _ us hl => match us, hl with | [_, _], _ => rfl
  obtain ⟨fd24, FF24⟩ := c.def_ 24 (d := dd24) rfl
  have F24 : FunD K "fork" "Ties.fork" (defArgs s_Ties_fork) (defBody s_Ties_fork) (defScope s_Ties_fork) [] ([] : List (Str × V)) (He.ma K (He.ga K "Ties") "fork") fd24 := FF24
  have b24 := bindN (ps := ["self", "world"]) F24 fun _ _ _ _ _ _ us hl => match us, hl with | [_, _], _ => rfl
  obtain ⟨fd25, FF25⟩ := c.def_ 25 (d := dd25) rfl
  have F25 : FunD K "end" "Ties.end" (defArgs s_Ties_end) (defBody s_Ties_end) (defScope s_Ties_end) [] ([] : List (Str × V)) (He.ma K (He.ga K "Ties") "end") fd25 := FF25
  have b25 := bindN (ps := ["self", "world"]) F25 fun _ _ _ _ _ _ us hl => match us, hl with | [_, _], _ => rfl
  obtain ⟨fd26, FF26⟩ := c.def_ 26 (d := dd26) rfl
  have F26 : FunD K "may_go" "Ties.may_go" (defArgs s_Ties_may_go) (defBody s_Ties_may_go) (defScope s_Ties_may_go) [] ([] : List (Str × V)) (He.ma K (He.ga K "Ties") "may_go") fd26 := FF26
  have b26 := bindN (ps := ["self", "world"]) F26 fun _ _ _ _ _ _ us hl => match us, hl with | [_, _], _ => rfl
  obtain ⟨fd27, FF27⟩ := c.def_ 27 (d := dd27) rfl
  have F27 : FunD K "taken_out" "Ties.taken_out" (defArgs s_Ties_taken_out) (defBody s_Ties_taken_out) (defScope s_Ties_taken_out) [] ([] : List (Str × V)) (He.ma K (He.ga K "Ties") "taken_out") fd27 := FF27
  have b27 := bindN (ps := ["self", "world"]) F27 fun _ _ _ _ _ _ us hl => match us, hl with | [_, _], _ => rfl
  obtain ⟨fd28, FF28⟩ := c.def_ 28 (d := dd28) rfl
  have F28 : FunD K "copied" "Ties.copied" (defArgs s_Ties_copied) (defBody s_Ties_copied) (defScope s_Ties_copied) [] ([] : List (Str × V)) (He.ma K (He.ga K "Ties") "copied") fd28 := FF28
  have b28 := bindN (ps := ["self"]) F28 fun _ _ _ _ _ _ us hl => match us, hl with | [_], _ => rfl
  obtain ⟨fd29, FF29⟩ := c.def_ 29 (d := dd29) rfl
  have F29 : FunD K "__eq__" "Ties.__eq__" (defArgs s_Ties_eq) (defBody s_Ties_eq) (defScope s_Ties_eq) [] ([] : List (Str × V)) (He.ma K (He.ga K "Ties") "__eq__") fd29 := FF29
  have b29 := bindN (ps := ["self", "other"]) F29 fun _ _ _ _ _ _ us hl => match us, hl with | [_, _], _ => rfl
  obtain ⟨fd30, FF30⟩ := c.def_ 30 (d := dd30) rfl
  have F30 : FunD K "told" "Ties.told" (defArgs s_Ties_told) (defBody s_Ties_told) (defScope s_Ties_told) [] ([] : List (Str × V)) (He.ma K (He.ga K "Ties") "told") fd30 := FF30
  have b30 := bindN (ps := ["self"]) F30 fun _ _ _ _ _ _ us hl => match us, hl with | [_], _ => rfl
  obtain ⟨fd31, FF31⟩ := c.def_ 31 (d := dd31) rfl
  have F31 : FunD K "__len__" "Ties.__len__" (defArgs s_Ties_len) (defBody s_Ties_len) (defScope s_Ties_len) [] ([] : List (Str × V)) (He.ma K (He.ga K "Ties") "__len__") fd31 := FF31
  have b31 := bindN (ps := ["self"]) F31 fun _ _ _ _ _ _ us hl => match us, hl with | [_], _ => rfl
  obtain ⟨fd32, FF32⟩ := c.def_ 32 (d := dd32) rfl
  have F32 : FunD K "made" "made" (defArgs s_made) (defBody s_made) (defScope s_made) [] ([] : List (Str × V)) (He.ga K "made") fd32 := FF32
  have b32 := bindN (ps := ["ever", "living", "worlds", "rows"]) F32 fun _ _ _ _ _ _ us hl => match us, hl with | [_, _, _, _], _ => rfl
  obtain ⟨fd33, FF33⟩ := c.def_ 33 (d := dd33) rfl
  have F33 : FunD K "are_worlds" "are_worlds" (defArgs s_are_worlds) (defBody s_are_worlds) (defScope s_are_worlds) [] ([] : List (Str × V)) (He.ga K "are_worlds") fd33 := FF33
  have b33 := bindN (ps := ["thing", "ever"]) F33 fun _ _ _ _ _ _ us hl => match us, hl with | [_, _], _ => rfl
  obtain ⟨fd34, FF34⟩ := c.def_ 34 (d := dd34) rfl
  have F34 : FunD K "are_pairs" "are_pairs" (defArgs s_are_pairs) (defBody s_are_pairs) (defScope s_are_pairs) [] ([] : List (Str × V)) (He.ga K "are_pairs") fd34 := FF34
  have b34 := bindN (ps := ["thing", "worlds"]) F34 fun _ _ _ _ _ _ us hl => match us, hl with | [_, _], _ => rfl
  obtain ⟨fd35, FF35⟩ := c.def_ 35 (d := dd35) rfl
  have F35 : FunD K "is_tree" "is_tree" (defArgs s_is_tree) (defBody s_is_tree) (defScope s_is_tree) [] ([] : List (Str × V)) (He.ga K "is_tree") fd35 := FF35
  have b35 := bindN (ps := ["ties"]) F35 fun _ _ _ _ _ _ us hl => match us, hl with | [_], _ => rfl
  obtain ⟨fd36, FF36⟩ := c.def_ 36 (d := dd36) rfl
  have F36 : FunD K "ties_of" "ties_of" (defArgs s_ties_of) (defBody s_ties_of) (defScope s_ties_of) [] ([] : List (Str × V)) (He.ga K "ties_of") fd36 := FF36
  have b36 := bindN (ps := ["ever", "living", "free", "rows"]) F36 fun _ _ _ _ _ _ us hl => match us, hl with | [_, _, _, _], _ => rfl
  obtain ⟨fd37, FF37⟩ := c.def_ 37 (d := dd37) rfl
  have F37 : FunD K "_law_pot" "_law_pot" (defArgs s_law_pot) (defBody s_law_pot) (defScope s_law_pot) [] ([] : List (Str × V)) (He.ga K "_law_pot") fd37 := FF37
  have b37 := bindN (ps := ["_law_script", "_law_k"]) F37 fun _ _ _ _ _ _ us hl => match us, hl with | [_, _], _ => rfl
  obtain ⟨fd38, FF38⟩ := c.def_ 38 (d := dd38) rfl
  have F38 : FunD K "_law_draw" "_law_draw" (defArgs s_law_draw) (defBody s_law_draw) (defScope s_law_draw) [] ([] : List (Str × V)) (He.ga K "_law_draw") fd38 := FF38
  have b38 := bindN (ps := ["_law_pot_here", "_law_many"]) F38 fun _ _ _ _ _ _ us hl => match us, hl with | [_, _], _ => rfl
  obtain ⟨fd39, FF39⟩ := c.def_ 39 (d := dd39) rfl
  have F39 : FunD K "_law_tree" "_law_tree" (defArgs s_law_tree) (defBody s_law_tree) (defScope s_law_tree) [] ([] : List (Str × V)) (He.ga K "_law_tree") fd39 := FF39
  have b39 := bindN (ps := ["_law_pot_here", "_law_most"]) F39 fun _ _ _ _ _ _ us hl => match us, hl with | [_, _], _ => rfl
  obtain ⟨fd40, FF40⟩ := c.def_ 40 (d := dd40) rfl
  have F40 : FunD K "_law_given" "_law_given" (defArgs s_law_given) (defBody s_law_given) (defScope s_law_given) [] ([] : List (Str × V)) (He.ga K "_law_given") fd40 := FF40
  have b40 := bindN (ps := ["_law_pot_here", "_law_tree_here"]) F40 fun _ _ _ _ _ _ us hl => match us, hl with | [_, _], _ => rfl
  obtain ⟨fd41, FF41⟩ := c.def_ 41 (d := dd41) rfl
  have F41 : FunD K "_law_near" "_law_near" (defArgs s_law_near) (defBody s_law_near) (defScope s_law_near) [] ([] : List (Str × V)) (He.ga K "_law_near") fd41 := FF41
  have b41 := bindN (ps := ["_law_tree_here", "_law_label"]) F41 fun _ _ _ _ _ _ us hl => match us, hl with | [_, _], _ => rfl
  obtain ⟨fd42, FF42⟩ := c.def_ 42 (d := dd42) rfl
  have F42 : FunD K "_law_all_ways" "_law_all_ways" (defArgs s_law_all_ways) (defBody s_law_all_ways) (defScope s_law_all_ways) [] ([] : List (Str × V)) (He.ga K "_law_all_ways") fd42 := FF42
  have b42 := bindN (ps := ["_law_tree_here", "_law_given_here"]) F42 fun _ _ _ _ _ _ us hl => match us, hl with | [_, _], _ => rfl
  obtain ⟨fd43, FF43⟩ := c.def_ 43 (d := dd43) rfl
  have F43 : FunD K "_law_grown" "_law_grown" (defArgs s_law_grown) (defBody s_law_grown) (defScope s_law_grown) [] ([] : List (Str × V)) (He.ga K "_law_grown") fd43 := FF43
  have b43 := bindN (ps := ["_law_pot_here", "_law_ties_here", "_law_given_here", "_law_ways"]) F43 fun _ _ _ _ _ _ us hl => match us, hl with | [_, _, _, _], _ => rfl
  obtain ⟨fd44, FF44⟩ := c.def_ 44 (d := dd44) rfl
  have F44 : FunD K "_law_kept" "_law_kept" (defArgs s_law_kept) (defBody s_law_kept) (defScope s_law_kept) [] ([] : List (Str × V)) (He.ga K "_law_kept") fd44 := FF44
  have b44 := bindN (ps := ["_law_pot_here", "_law_tree_here", "_law_given_here"]) F44 fun _ _ _ _ _ _ us hl => match us, hl with | [_, _, _], _ => rfl
  obtain ⟨fd45, FF45⟩ := c.def_ 45 (d := dd45) rfl
  have F45 : FunD K "_law_cost" "_law_cost" (defArgs s_law_cost) (defBody s_law_cost) (defScope s_law_cost) [] ([] : List (Str × V)) (He.ga K "_law_cost") fd45 := FF45
  have b45 := bindN (ps := ["_law_tree_here", "_law_kept_here"]) F45 fun _ _ _ _ _ _ us hl => match us, hl with | [_, _], _ => rfl
  obtain ⟨fd46, FF46⟩ := c.def_ 46 (d := dd46) rfl
  have F46 : FunD K "law" "law" (defArgs s_law) (defBody s_law) (defScope s_law) [] ([] : List (Str × V)) (He.ga K "law") fd46 := FF46
  have b46 := bindN (ps := ["_law_script"]) F46 fun _ _ _ _ _ _ us hl => match us, hl with | [_], _ => rfl
  obtain ⟨t_FEWEST_TIES, g_FEWEST_TIES⟩ := He.int_ok X G hk_FEWEST_TIES
  obtain ⟨t_FEWEST_WORLDS, g_FEWEST_WORLDS⟩ := He.int_ok X G hk_FEWEST_WORLDS
  let T : Txt K mg := {
    c_Ties := _, cl_Ties := He.cls_ok hc_Ties, mg_Ties := He.glo_ok X G hg_Ties
    na_Ties_near := He.noat_ok hn_Ties_near
    na_Ties_own_ever := He.noat_ok hn_Ties_own_ever
    na_Ties_own_living := He.noat_ok hn_Ties_own_living
    ic_Ties := ⟨He.cls_ok hc_Ties, He.eqO_ok oa_Ties, He.eqO_ok on, of_decide_eq_true ot, of_decide_eq_true om_Ties, kit_me⟩
    ot_Ties := by
      intro n hn
      simp only [tyNames, List.mem_cons, List.not_mem_nil, or_false] at hn
      rcases hn with rfl | rfl | rfl | rfl | rfl | rfl | rfl
      · exact of_decide_eq_true ok_Ties_NoneType
      · exact of_decide_eq_true ok_Ties_int
      · exact of_decide_eq_true ok_Ties_bool
      · exact of_decide_eq_true ok_Ties_str
      · exact of_decide_eq_true ok_Ties_list
      · exact of_decide_eq_true ok_Ties_tuple
      · exact of_decide_eq_true ok_Ties_dict
    ne_Ties := He.eqO_ok ne_Ties
    a_wall := _, d_wall := _, F_wall := F0, b_wall := b0, m_wall := He.glo_ok X G h_wall
    a_steps_of := _, d_steps_of := _, F_steps_of := F1, b_steps_of := b1, m_steps_of := He.glo_ok X G h_steps_of
    a_is_led := _, d_is_led := _, F_is_led := F2, b_is_led := b2, m_is_led := He.glo_ok X G h_is_led
    a_is_way := _, d_is_way := _, F_is_way := F3, b_is_way := b3, m_is_way := He.glo_ok X G h_is_way
    a_is_paper := _, d_is_paper := _, F_is_paper := F4, b_is_paper := b4, m_is_paper := He.glo_ok X G h_is_paper
    a_cost_of := _, d_cost_of := _, F_cost_of := F5, b_cost_of := b5, m_cost_of := He.glo_ok X G h_cost_of
    a_walked_from := _, d_walked_from := _, F_walked_from := F6, b_walked_from := b6, m_walked_from := He.glo_ok X G h_walked_from
    a_best_of := _, d_best_of := _, F_best_of := F7, b_best_of := b7, m_best_of := He.glo_ok X G h_best_of
    a_tied_on := _, d_tied_on := _, F_tied_on := F8, b_tied_on := b8, m_tied_on := He.glo_ok X G h_tied_on
    a_ways_at := _, d_ways_at := _, F_ways_at := F9, b_ways_at := b9, m_ways_at := He.glo_ok X G h_ways_at
    a_best_at := _, d_best_at := _, F_best_at := F10, b_best_at := b10, m_best_at := He.glo_ok X G h_best_at
    a_least_cost := _, d_least_cost := _, F_least_cost := F11, b_least_cost := b11, m_least_cost := He.glo_ok X G h_least_cost
    a_the_keeping := _, d_the_keeping := _, F_the_keeping := F12, b_the_keeping := b12, m_the_keeping := He.glo_ok X G h_the_keeping
    a_is_count := _, d_is_count := _, F_is_count := F13, b_is_count := b13, m_is_count := He.glo_ok X G h_is_count
    a_Ties_init := _, d_Ties_init := _, F_Ties_init := F14, b_Ties_init := b14, mk_Ties := He.mkr_ok hm_Ties
    a_Ties_ever := _, d_Ties_ever := _, F_Ties_ever := F15, b_Ties_ever := b15, me_Ties_ever := He.meth_ok h_Ties_ever
    a_Ties_living := _, d_Ties_living := _, F_Ties_living := F16, b_Ties_living := b16, me_Ties_living := He.meth_ok h_Ties_living
    a_Ties_free := _, d_Ties_free := _, F_Ties_free := F17, b_Ties_free := b17, me_Ties_free := He.meth_ok h_Ties_free
    a_Ties_rows := _, d_Ties_rows := _, F_Ties_rows := F18, b_Ties_rows := b18, me_Ties_rows := He.meth_ok h_Ties_rows
    a_Ties_lives := _, d_Ties_lives := _, F_Ties_lives := F19, b_Ties_lives := b19, me_Ties_lives := He.meth_ok h_Ties_lives
    a_Ties_has := _, d_Ties_has := _, F_Ties_has := F20, b_Ties_has := b20, me_Ties_has := He.meth_ok h_Ties_has
    a_Ties_tied := _, d_Ties_tied := _, F_Ties_tied := F21, b_Ties_tied := b21, me_Ties_tied := He.meth_ok h_Ties_tied
    a_Ties_way := _, d_Ties_way := _, F_Ties_way := F22, b_Ties_way := b22, me_Ties_way := He.meth_ok h_Ties_way
    a_Ties_spread := _, d_Ties_spread := _, F_Ties_spread := F23, b_Ties_spread := b23, me_Ties_spread := He.meth_ok h_Ties_spread
    a_Ties_fork := _, d_Ties_fork := _, F_Ties_fork := F24, b_Ties_fork := b24, me_Ties_fork := He.meth_ok h_Ties_fork
    a_Ties_end := _, d_Ties_end := _, F_Ties_end := F25, b_Ties_end := b25, me_Ties_end := He.meth_ok h_Ties_end
    a_Ties_may_go := _, d_Ties_may_go := _, F_Ties_may_go := F26, b_Ties_may_go := b26, me_Ties_may_go := He.meth_ok h_Ties_may_go
    a_Ties_taken_out := _, d_Ties_taken_out := _, F_Ties_taken_out := F27, b_Ties_taken_out := b27, me_Ties_taken_out := He.meth_ok h_Ties_taken_out
    a_Ties_copied := _, d_Ties_copied := _, F_Ties_copied := F28, b_Ties_copied := b28, me_Ties_copied := He.meth_ok h_Ties_copied
    a_Ties_eq := _, d_Ties_eq := _, F_Ties_eq := F29, b_Ties_eq := b29, me_Ties_eq := He.meth_ok h_Ties_eq
    a_Ties_told := _, d_Ties_told := _, F_Ties_told := F30, b_Ties_told := b30, me_Ties_told := He.meth_ok h_Ties_told
    a_Ties_len := _, d_Ties_len := _, F_Ties_len := F31, b_Ties_len := b31, me_Ties_len := He.meth_ok h_Ties_len
    a_made := _, d_made := _, F_made := F32, b_made := b32, m_made := He.glo_ok X G h_made
    a_are_worlds := _, d_are_worlds := _, F_are_worlds := F33, b_are_worlds := b33, m_are_worlds := He.glo_ok X G h_are_worlds
    a_are_pairs := _, d_are_pairs := _, F_are_pairs := F34, b_are_pairs := b34, m_are_pairs := He.glo_ok X G h_are_pairs
    a_is_tree := _, d_is_tree := _, F_is_tree := F35, b_is_tree := b35, m_is_tree := He.glo_ok X G h_is_tree
    a_ties_of := _, d_ties_of := _, F_ties_of := F36, b_ties_of := b36, m_ties_of := He.glo_ok X G h_ties_of
    a_law_pot := _, d_law_pot := _, F_law_pot := F37, b_law_pot := b37, m_law_pot := He.glo_ok X G h_law_pot
    a_law_draw := _, d_law_draw := _, F_law_draw := F38, b_law_draw := b38, m_law_draw := He.glo_ok X G h_law_draw
    a_law_tree := _, d_law_tree := _, F_law_tree := F39, b_law_tree := b39, m_law_tree := He.glo_ok X G h_law_tree
    a_law_given := _, d_law_given := _, F_law_given := F40, b_law_given := b40, m_law_given := He.glo_ok X G h_law_given
    a_law_near := _, d_law_near := _, F_law_near := F41, b_law_near := b41, m_law_near := He.glo_ok X G h_law_near
    a_law_all_ways := _, d_law_all_ways := _, F_law_all_ways := F42, b_law_all_ways := b42, m_law_all_ways := He.glo_ok X G h_law_all_ways
    a_law_grown := _, d_law_grown := _, F_law_grown := F43, b_law_grown := b43, m_law_grown := He.glo_ok X G h_law_grown
    a_law_kept := _, d_law_kept := _, F_law_kept := F44, b_law_kept := b44, m_law_kept := He.glo_ok X G h_law_kept
    a_law_cost := _, d_law_cost := _, F_law_cost := F45, b_law_cost := b45, m_law_cost := He.glo_ok X G h_law_cost
    a_law := _, d_law := _, F_law := F46, b_law := b46, m_law := He.glo_ok X G h_law
    t_FEWEST_TIES := t_FEWEST_TIES, g_FEWEST_TIES := g_FEWEST_TIES
    t_FEWEST_WORLDS := t_FEWEST_WORLDS, g_FEWEST_WORLDS := g_FEWEST_WORLDS
    n_LookupError := He.free_ok X G hb_LookupError
    n_ValueError := He.free_ok X G hb_ValueError
    n_abs := He.free_ok X G hb_abs
    n_all := He.free_ok X G hb_all
    n_any := He.free_ok X G hb_any
    n_bool := He.free_ok X G hb_bool
    n_dict := He.free_ok X G hb_dict
    n_divmod := He.free_ok X G hb_divmod
    n_enumerate := He.free_ok X G hb_enumerate
    n_int := He.free_ok X G hb_int
    n_isinstance := He.free_ok X G hb_isinstance
    n_len := He.free_ok X G hb_len
    n_list := He.free_ok X G hb_list
    n_max := He.free_ok X G hb_max
    n_min := He.free_ok X G hb_min
    n_range := He.free_ok X G hb_range
    n_set := He.free_ok X G hb_set
    n_sorted := He.free_ok X G hb_sorted
    n_sum := He.free_ok X G hb_sum
    n_tuple := He.free_ok X G hb_tuple
    n_zip := He.free_ok X G hb_zip
  }
  have bL := FunD.bindsA (ps := ["_law_script"]) F46 fun _ _ _ _ _ _ us hl => match us, hl with | [_], _ => rfl
  exact ⟨_, fun s v => bL s [v] rfl, fun base _ _ => ok_law T⟩
end My
open PySem PySem.W PySem.Calls PyProof.Rows in
set_option maxRecDepth 100000 in
set_option maxHeartbeats 0 in
theorem PySem.Challenge.cw_forkthrift_k53_whole_no_paper_above_a_ke_holds : PySem.Challenge.rw_forkthrift_k53_whole_no_paper_above_a_ke.Holds := by
  w_on; o_law
  refine HandSHeadRun.head_any (r := OpenLaw.row PySem.Challenge.rw_forkthrift_k53_whole_no_paper_above_a_ke) (q := view (OpenLaw.row PySem.Challenge.rw_forkthrift_k53_whole_no_paper_above_a_ke).prog [39]) (H := My.hkH) (ob := My.obH) (M := 200000) (loose := My.lsH) (d := HandSHeadRun.topDef (OpenLaw.row PySem.Challenge.rw_forkthrift_k53_whole_no_paper_above_a_ke).prog 39) (kwd := []) My.obH_eq
    (by kernel_rfl) (fun s => by kernel_rfl) My.runH (by kernel_rfl) (by kernel_rfl) (by kernel_rfl) (by rfl) (by first | assumption | decide +kernel) (by decide +kernel) ⟨rfl, rfl, rfl, rfl, rfl, by decide +kernel⟩ ?hw ?hc
  case hw => w_witness2
  case hc =>
    refine My.walkH (l := PySem.Challenge.rw_forkthrift_k53_whole_no_paper_above_a_ke) (sp := My.sp_law) (n := 63) (k := 8) (x := "_law_script") rfl (by decide) (by kernel_rfl) ⟨rfl, by decide, by decide⟩ ?F ?S
    case S => exact fun K H a ns hl hb ho hs => My.law_end hl hb ho hs
    case F =>
      intro w mg fa h Y G hmg0
      obtain ⟨K, KX, c, e⟩ := Y
      have hmg : mg ("law" : PySem.Str) = some (.ref fa) := by
        have e : (HandSHeadRun.topDef (OpenLaw.row PySem.Challenge.rw_forkthrift_k53_whole_no_paper_above_a_ke).prog 39).name = ("law" : PySem.Str) := by kernel_rfl
        rw [← e]
        exact hmg0
      obtain ⟨fd, hb, hF⟩ := My.all_mkH (P := (PySem.Challenge.rw_forkthrift_k53_whole_no_paper_above_a_ke).prog) (w := w) KX G hmg c e
      exact ⟨K, fd, KX, hb, hF⟩
#print axioms PySem.Challenge.cw_forkthrift_k53_whole_no_paper_above_a_ke_holds

